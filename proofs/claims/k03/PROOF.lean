import PyProof.Rows.All
import Wide.All
import OpenK.AllK
import Wide.FinOn
import HandS.ForMost
import HandS.ForExc
import HandS.EndBits
import HandS.OwnEq
import HandS.IsInst
import HandS.Property
import HandS.ExcInit
import HandS.ExcField
import KE.KExcSuper
import KE.KOpsOwn
import HandS.Defaults
import HandS.ExcIs
import PyProof.ReprLen
import OpenK.KMeth
import OpenK.KOps
import KE.KStar
import HandS.ExcOwn
import HandS.More
import HandS.Lambda
import HandS.EndTab
import KE.KNestM
import HandS.SetFor
import HandS.MakeKwOnly
import HandS.Evl
import PySem.Challenge.RW_tapedonce_k03_what_makes_no_row_and_faul
set_option Elab.async false
set_option linter.all false
set_option maxRecDepth 100000
set_option maxHeartbeats 4000000
/-! Layer A: promises of defs that are called where no text of a container is being made (so that repr may be used in them). -/
namespace L2.TP
open PySem PySem.Spec PyProof.Rows

/-- the promise of a def, where nothing shows itself -/
structure FnG (P : Program) (w : World) (K : PySem.W.Frag) (mg : Str → Option Value) (base : Heap) (CX : CXT) (k : Nat)
    (f : Addr) (fd : FuncData) (ps : List Str) (sp : Sp) : Prop where
  len : ∀ vs H Q E, sp vs H Q E → vs.length = ps.length
  run : ∀ (A : Around) (outer : List Env) (s : Shared) (H : Hp) (args : Args) (us : List Value) (vs : List V) (Q : VK) (E : XK),
    A.guards = some [] → Room k A → Env0 P w K mg base A outer s H → BindsTo s fd args (ps.zip us) → Vals vs us → sp vs H Q E →
    codeAny (model P w) A (.call (.ref f) args) (CR CX outer P w H s Q E) s

section
variable {P : Program} {w : World} {K : PySem.W.Frag} {mg : Str → Option Value} {base : Heap} {CX : CXT}
theorem FnG.of {k : Nat} {f : Addr} {fd : FuncData} {ps : List Str} {sp : Sp} (F : FnOk P w K mg base CX k f fd ps sp) : FnG P w K mg base CX k f fd ps sp :=
  ⟨F.len, fun A outer s H args us vs Q E _ hr => F.run A outer s H args us vs Q E hr⟩
theorem FnG.mono {j k : Nat} {f : Addr} {fd : FuncData} {ps : List Str} {sp : Sp} (F : FnG P w K mg base CX j f fd ps sp) (h : j ≤ k) : FnG P w K mg base CX k f fd ps sp :=
  ⟨F.len, fun A outer s H args us vs Q E hg hr => F.run A outer s H args us vs Q E hg (hr.mono h)⟩

/-- a def by its body, the body's around shows nothing -/
theorem fnG_of {k : Nat} {f : Addr} {name qual : Str} {params : Arguments} {body : List Stmt} {scope : Scope} {dV kV doc pm cdv ct oc : Value} {an od : Option Addr}
    {osl : Array (Option Value)} {N ps : List Str} {sp : Sp}
    (lk : K.lookup f = some ⟨oc, od, .func (PySem.W.fnOf name qual params body scope dV kV doc pm an cdv ct), osl⟩)
    (hcd : PySem.W.codeIn K cdv qual = true) (S : FnScope N ps scope) (len : ∀ vs H Q E, sp vs H Q E → vs.length = ps.length)
    (hbody : ∀ (A : Around) (outer : List Env) (s : Shared) (H : Hp) (vs : List V) (Q : VK) (E : XK), A.guards = some [] →
      Room k (A.deeper (envOfC qual scope s.heap.objs.size f cdv)) → sp vs H Q E →
      ∃ t, PSs (cxOf CX P w K mg base N qual scope f cdv A outer s H E) body t ∧ t { nx := fun _ H' => Q .non H', rt := Q } (start N vs) H) :
    FnG P w K mg base CX (k + 1) f (PySem.W.fnOf name qual params body scope dV kV doc pm an cdv ct) ps sp := by
  refine ⟨len, fun A outer s H args us vs Q E gA hr e0 hb r hsp => ?_⟩
  have sameLen := len _ _ _ _ hsp
  have inK : K.In s.heap := e0.mod.kin.keeps fun b o e => (e0.bs b o e).1
  have noLim : s.heap.NoLimit := e0.mod.nolimit.keeps fun b o e => (e0.bs b o e).1
  have kinds : ∀ y ∈ ps.zip us, scope.names.lookup y.1 = some .local ∨
      (scope.names.lookup y.1 = some .cell ∧ ((cellsFrom (s.heap.objs.size + 1) scope.names []).lookup y.1).isSome = true) := by
    rintro ⟨n, v⟩ hy
    rcases S.par n (List.of_mem_zip hy).1 with z | z
    · exact .inl z
    · exact .inr ⟨z, PySem.W.cellsFrom_some _ _ _ (.inl z)⟩
  refine codeAny_call_function hr.depth (inK _ _ lk) rfl S.co S.gen rfl (PySem.W.codeRec_of inK hcd) (hb _ _ _ _ ?_)
  refine wpAny_newFunctionEnv_cells S.kind kinds fun env he s1 x => ?_
  subst he
  refine ⟨noLim.keeps x.toInCall.keep, codeAny_func ?_⟩
  obtain ⟨t, ht, hq⟩ := hbody A outer s H vs Q E gA (hr.deeper _) hsp
  have I := inv_start (CX := CX) (E := E) S hr.hd e0 sameLen r x
  refine wpAny_mono (ht.run [] s1 (start N vs) H _ I hq) (fun fl s' hs => ?_) fun e s' hs => hs
  cases fl with
  | ret u =>
    obtain ⟨v, σ', H', J, rv, q⟩ := hs
    exact ⟨v, H', J.os, J.bare, J.base, J.hok, rv, q⟩
  | next =>
    obtain ⟨σ', H', J, q⟩ := hs
    exact ⟨.non, H', J.os, J.bare, J.base, J.hok, rfl, q⟩
  | brk =>
    obtain ⟨_, _, _, q⟩ := hs
    exact q.elim
  | cont =>
    obtain ⟨_, _, _, q⟩ := hs
    exact q.elim
end

section
variable {X : Cx} {CX : CXT} {k : Nat} {f : Addr} {fd : FuncData} {ps : List Str} {sp : Sp} {dvs : List V} {ds : List Value} {E : XK} {x : Str} {p pos : Pos} {e : Expr} {es : List Expr} {t : TA}
theorem run_fnG {pins : List (Addr × Obj)} {σ : St} {H : Hp} {s : Shared} {Q : VK} {us : List Value} {vs : List V}
    (F : FnG X.prog X.w X.K X.mg X.base CX k f fd ps sp) (gA : X.A.guards = some []) (hr : Room k X.A) (hb : Binds X.K fd ps ds) (hd : Vals dvs ds) (hx : Passes CX X E)
    (I : Inv X pins σ H s) (r : Vals vs us) (h : sp (vs ++ dvs) H Q E) : wpAny (model X.prog X.w) X.A (call (.ref f) us) (EP X pins σ Q) X.xe s := by
  have both : Vals (vs ++ dvs) (us ++ ds) := r.append hd
  have sz : (us ++ ds).length = ps.length := both.length.symm.trans (F.len _ _ _ _ h)
  refine wpAny_call (codeAny_mono (F.run X.A X.stack s H ⟨us, []⟩ (us ++ ds) (vs ++ dvs) Q E gA hr I.env0 (hb s us I.kIn sz) both h) fun r s' hq => ?_)
  cases r with
  | error e => exact hx pins σ H s e s' I hq
  | ok fl =>
    cases fl with
    | ret u => exact I.after hq
    | next => exact hq.elim
    | brk => exact hq.elim
    | cont => exact hq.elim
theorem pe_callG (F : FnG X.prog X.w X.K X.mg X.base CX k f fd ps sp) (gA : X.A.guards = some []) (hr : Room k X.A) (hg : Gl X x) (hm : X.mg x = some (.ref f))
    (hk : PySem.W.keepIn X.K (.ref f) = true) (hb : Binds X.K fd ps ds) (hd : Vals dvs ds) (hx : Passes CX X E)
    (ha : PA X (e :: es) t) (hdb : (x == ("__debug__" : Str)) = false := by decide)
    (he : starEach (e :: es) X.env = (false, eval e X.env) :: starEach es X.env := by rfl) (hpl : (backTo pos (starEach es X.env)).any (·.1) = false := by rfl) :
    PE X (.Call (.Name x p) (e :: es) [] pos) (tCall sp dvs E t) := by
  refine ⟨fun pins s σ H Q I h => wpAny_Call_Name_kw (ld_glob I hg hm ?_ hdb)⟩
  refine PySem.W.callWith_K (h₀ := X.base) I.ok.mod.kin hk (thn (ha.run pos pins s σ H _ I h) fun us s1 hh => ?_) he hpl
  obtain ⟨vs, H1, I1, r, q⟩ := hh
  exact ⟨I1.kIn, run_fnG F gA hr hb hd hx I1 r q⟩
end

/-! ### the def as it stands, and its promise -/
section
variable {P : Program} {w : World} {K : PySem.W.Frag} {mg : Str → Option Value} {base : Heap}
theorem okG {x qual : Str} {st : Stmt} {f : Addr} {fd : FuncData} {N ps : List Str} {k : Nat} {sp : Sp} (F : Fun K x qual st f fd) (S : FnScope N ps (defScope st))
    (len : ∀ vs H Q E, sp vs H Q E → vs.length = ps.length)
    (hbody : ∀ (cdv : Value) (A : Around) (outer : List Env) (s : Shared) (H : Hp) (vs : List V) (Q : VK) (E : XK), A.guards = some [] →
      Room k (A.deeper (envOfC qual (defScope st) s.heap.objs.size f cdv)) → sp vs H Q E →
      ∃ t, PSs (cxOf CX0 P w K mg base N qual (defScope st) f cdv A outer s H E).nox (defBody st) t ∧ t { nx := fun _ H' => Q .non H', rt := Q } (start N vs) H) :
    FnG P w K mg base CX0 (k + 1) f fd ps sp := by
  obtain ⟨oc, od, kV, doc, pm, an, cdv, ct, osl, rfl, lk, hcd⟩ := F.ex
  refine fnG_of lk hcd S len fun A outer s H vs Q E gA hr hsp => ?_
  obtain ⟨t, h, q⟩ := hbody cdv A outer s H vs Q E gA hr hsp
  exact ⟨t, h.nox, q⟩
end

/-! ### the law's own call -/
theorem law_callG {P : Program} {w : World} {K : PySem.W.Frag} {mg mb : Str → Option Value} {CX : CXT} {k : Nat} {fa a : Addr} {fd : FuncData} {x : Str} {sp : Sp} {s1 : Shared} {vs : List Value} {ns : List Int}
    (KX : K.In s1.heap) (hns : s1.heap.Ns mainGlobals mg) (hb : s1.heap.Ns builtinsNs mb) (hbb : ∀ x : Str, x ≠ "__name__" → mb x = bootBuiltins x) (hlim : s1.heap.NoLimit) (hg : s1.gens = #[])
    (ha : s1.heap.get? a = some { cls := .type "list", data := .seq vs.toArray }) (hi : IntsAre vs ns) (hl : ns.length ≤ sizeLine) (hr : Room k callerA)
    (F : ∀ base : Heap, K.In base → base.Ns mainGlobals mg → FnG P w K mg base CX k fa fd [x] sp) (hbind : ∀ (s : Shared) (u : Value), BindsTo s fd ⟨[u], []⟩ [(x, u)])
    (hsp : ∀ H : Hp, Only H → SqL K H a (ns.map V.int) → sp [.ref a] H (fun v _ => v = .bl true) fun _ _ _ => False)
    (hCX : ∀ H e s', CX [] H s1 (fun _ _ _ => False) e s' → False) :
    codeAny (model P w) callerA (.call (.ref fa) ⟨[.ref a], []⟩) (fun r s' => r = .ok (.ret (.bool true)) ∧ OldK s1.heap s'.heap ∧ s'.os = s1.os ∧ AllBare s'.gens) s1 := by
  have rv := vals_ints hi
  have lenV := hi.length
  have core : ∀ H : Hp, Only H → SqL K H a (ns.map V.int) → HOk P w H s1.heap → (∀ b, H b ≠ none → b = a) → (H a ≠ none → K.lookup a = none) →
      codeAny (model P w) callerA (.call (.ref fa) ⟨[.ref a], []⟩) (fun r s' => r = .ok (.ret (.bool true)) ∧ OldK s1.heap s'.heap ∧ s'.os = s1.os ∧ AllBare s'.gens) s1 := by
    intro H hO hS hok hA hK
    have notA : ∀ {b : Addr} {o : Obj} {es : Array DictEntry} {ep : Nat}, s1.heap.get? b = some o → o.data = .dict es ep → H b = none := by
      intro b o es ep e d
      cases q : H b with
      | none => rfl
      | some u =>
        have e' : b = a := hA b (by rw [q]; simp)
        subst e'
        rw [ha] at e
        cases e
        cases d
    have nsK : ∀ {b : Addr} {m : Str → Option Value}, s1.heap.Ns b m → (hidT s1.heap H).Ns b m := by
      rintro b m ⟨o, es, ep, e, d, r⟩
      exact ⟨o, es, ep, hidT_get e (notA e d), d, r⟩
    have hKb : K.In (hidT s1.heap H) := by
      intro b o e
      refine hidT_get (KX b o e) ?_
      cases q : H b with
      | none => rfl
      | some u =>
        have e' : b = a := hA b (by rw [q]; simp)
        subst e'
        rw [hK (by rw [q]; simp)] at e
        cases e
    have hM : Mod K mg (hidT s1.heap H) := ⟨hKb, nsK hns, ⟨mb, nsK hb, hbb⟩, let ⟨mc, h1, h2⟩ := hlim; ⟨mc, nsK h1, h2⟩⟩
    have e0 : Env0 P w K mg (hidT s1.heap H) callerA [] s1 H :=
      ⟨rfl, hM, fun b o e => of_hidT e, Nat.le_of_eq (hidT_size _ _), trivial, fun b hb => absurd (show b ∈ ([] : List Addr) from hb) (by simp), hok, .of_eq hg⟩
    refine codeAny_mono ((F _ hKb (nsK hns)).run callerA [] s1 H ⟨[.ref a], []⟩ [.ref a] [.ref a] _ _ rfl hr e0 (hbind s1 (.ref a)) (.cons rfl .nil) (hsp H hO hS)) fun r s' h => ?_
    cases r with
    | error e => exact (hCX H e s' h).elim
    | ok fl =>
      cases fl with
      | next => exact h.elim
      | brk => exact h.elim
      | cont => exact h.elim
      | ret u =>
        obtain ⟨v, H', os, bare, un, hok', r', q⟩ := h
        have q' : v = .bl true := q
        subst q'
        obtain rfl : u = Value.bool true := r'
        refine ⟨rfl, OldK.of_keep fun b o e => ?_, os, bare⟩
        cases q : H b with
        | none => exact un.keep b o e q (fun z => absurd (show b ∈ ([] : List Addr) from z) (by simp)) (by simp)
        | some u =>
          rcases hO b with z | ⟨ob, xs, z⟩
          · rw [q] at z
            cases z
          · have z2 := un.frzs b ob _ z
            obtain ⟨e1, _⟩ := hok b _ z
            obtain ⟨e2, _⟩ := hok' b _ z2
            rw [e] at e1
            cases e1
            exact e2
  cases hk : K.lookup a with
  | some o =>
    have e := KX a o hk
    rw [ha] at e
    cases e
    exact core (fun _ => none) (fun _ => .inl rfl) (.inr ⟨_, vs.toArray, _, hk, rfl, rfl, rfl, by rw [List.size_toArray, lenV]; exact hl, by simpa using rv⟩)
      (fun b u z => by cases (show (none : Option HO) = some u from z)) (fun b z => absurd rfl z) fun z => absurd rfl z
  | none =>
    refine core (fun b => if b = a then some (.frz { cls := .type "list", data := .seq vs.toArray } (.lst (ns.map V.int))) else none) (fun b => ?_)
      (.inl (.inr ⟨{ cls := .type "list", data := .seq vs.toArray }, if_pos rfl⟩)) (fun b u z => ?_) (fun b z => ?_) fun _ => hk
    · by_cases hb : b = a
      · exact .inr ⟨_, _, if_pos hb⟩
      · exact .inl (if_neg hb)
    · by_cases hb : b = a
      · cases (if_pos hb).symm.trans z
        subst hb
        exact ⟨ha, by rw [List.length_map]; exact hl, vs, _, rv, ha⟩
      · cases (if_neg hb).symm.trans z
    · by_cases hb : b = a
      · exact hb
      · exact absurd (if_neg hb) z

/-- the goal that the head leaves, from the law's promise -/
theorem walkG {l : PySem.W.OpenLaw} {n k : Nat} {q : Program} {loose : List Str} {XP : (Str → Option Value) → Heap → Prop} {YP : World → Heap → Prop} {d : DefRec} {K : Params → PySem.W.Frag} {CX : CXT} {sp : PySem.W.Frag → Sp} {x : Str}
    (hn : l.most = some n) (hn2 : n ≤ sizeLine) (hdf : d.params.defaults = []) (hr : Room k callerA)
    (hY : ∀ (w : World) (h : Heap), YP w h → (K w.params).In h)
    (F : ∀ (w : World) (mg : Str → Option Value) (fa : Addr) (h : Heap), (K w.params).In h → h.Ns mainGlobals mg → mg d.name = some (.ref fa) →
      ∃ fd : FuncData, (∀ (s : Shared) (u : Value), BindsTo s fd ⟨[u], []⟩ [(x, u)]) ∧
        ∀ base : Heap, (K w.params).In base → base.Ns mainGlobals mg → FnG l.prog w (K w.params) mg base CX k fa fd [x] (sp (K w.params)))
    (hsp : ∀ (K : PySem.W.Frag) (H : Hp) (a : Addr) (ns : List Int), ns.length ≤ n → (∀ z ∈ ns, Builtin.Int.intBits z ≤ 1048576) → Only H → SqL K H a (ns.map V.int) → sp K [.ref a] H (fun v _ => v = .bl true) fun _ _ _ => False)
    (hCX : ∀ (H : Hp) (s : Shared) (e : Value) (s' : Shared), CX [] H s (fun _ _ _ => False) e s' → False) :
    PySem.W.WalkO q loose XP YP l.row.toRowW d [] (fun f vs => PySem.call f vs) := by
  refine Att.attach_callB hn hdf fun w s0 s1 mg mb fa o pm cd doc a vs ns G Y ho hd hcd hmg hobj hints hlen hbits hg => ?_
  have KX := hY w _ Y
  obtain ⟨fd, hb, hF⟩ := F w mg fa _ KX G.T.g hmg
  exact law_callG KX G.T.g G.T.b G.T.builtins G.T.nolimit hg hobj hints (Nat.le_trans hlen hn2) hr hF hb (fun H hO hS => hsp _ H a ns hlen hbits hO hS) fun H e s' => hCX H s1 e s'
end L2.TP

/-! Layer B: repr of data (no dicts within), data kept while the heap grows. -/
namespace L2.TP
open PySem PySem.Spec PyProof.Rows

section
variable {K : PySem.W.Frag} {H H' : Hp}
mutual
theorem Dp.ext (e : Ext H H') : ∀ (d : PyData) (v : V), Dp K H v d → Dp K H' v d
  | .none, _, h => by cases h; exact .non
  | .bool b, _, h => by cases h; exact .bl b
  | .int i, _, h => by cases h; exact .int i
  | .str x, _, h => by cases h; exact .str x
  | .list ds, _, h => by
    cases h with
    | lst hs ha => exact .lst (SqL.ext hs e) (DpAll.ext e ds _ ha)
  | .tuple ds, _, h => by
    cases h with
    | tup hs ha => exact .tup (SqT.ext hs e) (DpAll.ext e ds _ ha)
  | .dict _, _, h => by cases h
theorem DpAll.ext (e : Ext H H') : ∀ (ds : List PyData) (vs : List V), DpAll K H vs ds → DpAll K H' vs ds
  | [], _, h => by cases h; exact .nil
  | d :: ds, _, h => by
    cases h with
    | cons h1 h2 => exact .cons (Dp.ext e d _ h1) (DpAll.ext e ds _ h2)
end
mutual
theorem Dp.noDict : ∀ (d : PyData) (v : V), Dp K H v d → d.hasDict = false
  | .none, _, _ => rfl
  | .bool _, _, _ => rfl
  | .int _, _, _ => rfl
  | .str _, _, _ => rfl
  | .list ds, _, h => by
    cases h with
    | lst _ ha => exact DpAll.noDict ds _ ha
  | .tuple ds, _, h => by
    cases h with
    | tup _ ha => exact DpAll.noDict ds _ ha
  | .dict _, _, h => by cases h
theorem DpAll.noDict : ∀ (ds : List PyData) (vs : List V), DpAll K H vs ds → PyData.hasDictAll ds = false
  | [], _, _ => rfl
  | d :: ds, _, h => by
    cases h with
    | cons h1 h2 =>
      show (d.hasDict || PyData.hasDictAll ds) = false
      rw [Dp.noDict d _ h1, DpAll.noDict ds _ h2]
      rfl
end
end

/-- repr(x): x stands for the data d -/
def rRepr (K : PySem.W.Frag) : List V → Hp → VK → Prop := fun xs H Q => ∃ v d, xs = [v] ∧ Dp K H v d ∧ d.showable = true ∧ d.depth ≤ 40 ∧ d.shown.length ≤ sizeLine ∧ Q (.str d.shown) H
section
variable {X : Cx}
theorem call_repr (gA : X.A.guards = some []) {k : Nat} (hr : Room k X.A) : CallR X (.builtin "repr") (rRepr X.K) := by
  intro pins s σ H xs us Q I r h
  obtain ⟨v, d, rfl, hd, sh, dep, sz, q⟩ := h
  obtain ⟨u, rfl, ru⟩ := vals1 r
  have room : X.A.units + (d.depth + 1) < cLine := by
    have := hr.un
    omega
  cases hd with
  | non =>
    cases ru
    exact PySem.P.repr_of_none ⟨.str _, H, I.tok _, ⟨_, rfl⟩, q⟩
  | bl b =>
    cases ru
    exact PySem.P.repr_of_bool ⟨.str _, H, I.tok _, ⟨_, rfl⟩, q⟩
  | int i =>
    obtain ⟨t, rfl⟩ := ru
    exact PySem.P.repr_of_int (of_decide_eq_true sh) ⟨.str _, H, I.tok _, ⟨_, rfl⟩, q⟩
  | str x =>
    obtain ⟨t, rfl⟩ := ru
    exact PySem.P.repr_of_str ⟨.str _, H, I.tok _, ⟨_, rfl⟩, q⟩ sz
  | lst hs ha =>
    cases ru
    obtain ⟨as, rd⟩ := Dp.reads I _ _ _ (Dp.lst hs ha) rfl
    exact repr_of_reads' rd sh (PyData.noDict_hsm (Dp.noDict _ _ (Dp.lst hs ha))) gA room (fun _ _ e => e) (fun h' u tk hk => ⟨.str _, H, I.kept hk, ⟨_, rfl⟩, q⟩) sz
  | tup hs ha =>
    cases ru
    obtain ⟨as, rd⟩ := Dp.reads I _ _ _ (Dp.tup hs ha) rfl
    exact repr_of_reads' rd sh (PyData.noDict_hsm (Dp.noDict _ _ (Dp.tup hs ha))) gA room (fun _ _ e => e) (fun h' u tk hk => ⟨.str _, H, I.kept hk, ⟨_, rfl⟩, q⟩) sz
end
end L2.TP

/-! Layer C: own errors whose __init__ says super().__init__(a) and then keeps its arguments under their names. -/
namespace PySem.TPX
open PySem.W PySem.Calls PyProof.Rows PySem.HandSPX

/-- super().__init__(a) -/
def supS (a : Str) (q1 q2 q3 q4 q5 q6 : Pos) : Stmt := .Expr (.Call (.Attribute (.Call (.Name "super" q1) [] [] q2) "__init__" q3) [.Name a q4] [] q5) q6
/-- self.f = f -/
def keepS (f : Str) (r1 r2 r3 r4 : Pos) : Stmt := .Assign [.Attribute (.Name "self" r1) f r2] (.Name f r3) r4
/-- the names of such an __init__ -/
structure IniS (fs : List Str) (scope : Scope) : Prop where
  kind : scope.kind = .function
  co : scope.isCoroutine = false
  gen : scope.isGenerator = false
  nocell : ∀ x ∈ scope.names, x.2 ≠ .cell
  sup : scope.names.lookup ("super" : Str) = some .globalImplicit
  cls : scope.names.lookup ("__class__" : Str) = some .free
  slf : scope.names.lookup ("self" : Str) = some .local
  fld : ∀ f ∈ fs, scope.names.lookup f = some .local
  dbg : ∀ f ∈ fs, (f == ("__debug__" : Str)) = false
  nself : ∀ f ∈ fs, f ≠ ("self" : Str)

/-- what the written part says of the error's class at C and of its __init__ at fI -/
structure ErrK (prog : Program) (K : Frag) (fs : List Str) (C fI : Addr) (fd : FuncData) : Prop where
  cls : ∃ nm q N bs bm sn sub ab col dd k0 k1 k2 k3 k5, K.lookup C = some (excClassObj nm q C N bs bm true sn sub ab col dd k0 k1 k2 k3 k5 "ValueError.__new__") ∧ refsVE bm = true
  sa : findIn K (.ref C) "__setattr__" = some (some (.builtin "object.__setattr__"))
  iC : findIn K (.ref C) "__init__" = some (some (.ref fI))
  tI : typeIn K (.ref fI) = some (.type "function")
  sup : ks_superIn K C C "__init__" = some (some (.builtin "ValueError.__init__"))
  sB : subIn K (.ref C) (.type "ValueError") = some true
  mC : mroIn K C (.ref C) = some true
  nS : nsIn K mainGlobals "super" = some none
  tp : nsIn K cStatics "thirdparty.any" = some none
  top : (prog.main.scope.names.lookup ("super" : Str)).isSome = false
  nof : ∀ f ∈ fs, findIn K (.ref C) f = some none
  fn : ∃ (oc : Value) (od : Option Addr) (osl : Array (Option Value)) (qual : Str) (params : Arguments) (body : List Stmt) (scope : Scope) (dV kV doc pm : Value) (an : Option Addr) (cda : Addr) (ct : Value) (cc : Addr),
    fd = ksFn "__init__" qual params body scope dV kV doc pm an (.ref cda) ct cc ∧ K.lookup fI = some ⟨oc, od, .func fd, osl⟩ ∧ codeIn K (.ref cda) qual = true ∧
    (∃ ccl cdd vs ccs file tf, K.lookup cda = some ⟨ccl, cdd, .fields vs, ccs⟩ ∧ vs[2]? = some (.str file tf) ∧ ((prog.main.file : Str) == file) = true) ∧
    (∃ cl cld csl, K.lookup cc = some ⟨cl, cld, .cell (some (.ref C)), csl⟩) ∧
    (∃ ar : Arg, (params.posonlyargs ++ params.args).head? = some ar ∧ ar.arg = "self") ∧ IniS fs scope ∧
    ((∃ f q1 q2 q3 q4 q5 q6 r1 r2 r3 r4, (q3.endLine == q5.line) = true ∧ fs = [f] ∧ body = [supS f q1 q2 q3 q4 q5 q6, keepS f r1 r2 r3 r4]) ∨
     (∃ f g q1 q2 q3 q4 q5 q6 r1 r2 r3 r4 p1 p2 p3 p4, (q3.endLine == q5.line) = true ∧ fs = [f, g] ∧ f ≠ g ∧ body = [supS f q1 q2 q3 q4 q5 q6, keepS f r1 r2 r3 r4, keepS g p1 p2 p3 p4]))

section
variable {prog : Program} {w : World} {A : Around} {E : Value → Shared → Prop} {R : Result → Shared → Prop} {s : Shared} {K : Frag} {mg mb : Str → Option Value} {C fI : Addr} {fs : List Str} {fd : FuncData}

/-- what __init__ leaves of a fresh exception at x -/
structure IniEnd (fs : List Str) (vs : List Value) (h h' : Heap) (x C dx : Addr) : Prop where
  keep : ∀ b o, b ≠ x → h.get? b = some o → h'.get? b = some o
  obj : ∃ t1 : Addr, h'.get? x = some { cls := .ref C, dict := some dx, data := .fields #[.ref t1, .none, .none, .none, .bool false, .none] }
  dbig : h.objs.size ≤ dx
  dne : dx ≠ x
  ns : ∃ mA, h'.Ns1 dx mA ∧ ∀ y, mA y = (fs.zip vs).lookup y
theorem look1 (f y : Str) (v : Value) : (if y = f then some v else none) = [(f, v)].lookup y := by
  by_cases h : y = f
  · subst h
    simp [List.lookup]
  · have q : (y == f) = false := by simpa using h
    simp [List.lookup, q, h]
theorem look2 {f g : Str} (hfg : f ≠ g) (y : Str) (v u : Value) : (if y = g then some u else if y = f then some v else none) = [(f, v), (g, u)].lookup y := by
  by_cases h : y = f
  · subst h
    have q : ¬ y = g := hfg
    simp [List.lookup, q]
  · have q : (y == f) = false := by simpa using h
    by_cases h2 : y = g
    · subst h2
      simp [List.lookup, q]
    · have q2 : (y == g) = false := by simpa using h2
      simp [List.lookup, q, q2, h, h2]

theorem clsIn_err {nm q : Str} {N : Addr} {bs bm : List Value} {sn : List Str} {sub : List Value} {ab : Bool} {col : Option Bool} {dd : Option Addr} {k0 k1 k2 k3 k5 : Option Value}
    (hC : K.lookup C = some (excClassObj nm q C N bs bm true sn sub ab col dd k0 k1 k2 k3 k5 "ValueError.__new__")) :
    clsIn K C = some { name := nm, bases := bs, mro := .ref C :: bm, ns := N, qualname := q, hasDict := true, slotNames := sn, subclasses := sub, abstract := ab, collection := col, hasDel := false } := by
  unfold clsIn
  rw [hC]

/-- super().__init__(a), in the body of such an __init__, at its beginning -/
theorem sup_run (T : ErrK prog K fs C fI fd) {x t0 : Addr} {v : Value} {f : Str} {q1 q2 q3 q4 q5 q6 : Pos} {body : List Stmt} {qual : Str} {params : Arguments} {scope : Scope} {dV kV doc pm : Value} {an : Option Addr} {cda cc : Addr} {ct : Value}
    {oc : Value} {od : Option Addr} {osl : Array (Option Value)} {L : Addr} {m : Str → Option Value} {Q : Flow → Shared → Prop}
    (efd : fd = ksFn "__init__" qual params body scope dV kV doc pm an (.ref cda) ct cc) (lf : K.lookup fI = some ⟨oc, od, .func fd, osl⟩)
    (hcode : ∃ ccl cdd vs ccs file tf, K.lookup cda = some ⟨ccl, cdd, .fields vs, ccs⟩ ∧ vs[2]? = some (.str file tf) ∧ ((prog.main.file : Str) == file) = true)
    (hcell : ∃ cl cld csl, K.lookup cc = some ⟨cl, cld, .cell (some (.ref C)), csl⟩)
    (hpos : (q3.endLine == q5.line) = true) (hpar : ∃ ar : Arg, (params.posonlyargs ++ params.args).head? = some ar ∧ ar.arg = "self") (S : IniS fs scope) (hf : f ∈ fs)
    (X : K.In s.heap) (hgl : s.heap.Ns mainGlobals mg) (hbl : s.heap.Ns builtinsNs mb) (hbb : ∀ x : Str, x ≠ "__name__" → mb x = bootBuiltins x)
    (hns : s.heap.Ns L m) (ms : m "self" = some (.ref x)) (mf : m f = some v) (hx : s.heap.get? x = some (excO C t0))
    (hq : ∀ h' tk t1, (∀ b o, b ≠ x → s.heap.get? b = some o → h'.get? b = some o) → h'.get? x = some (excO C t1) → Q .next { s with heap := h', toks := tk }) :
    wpAt (model prog w) A (.func body (ksEnv qual scope L fI (.ref cda) cc)) (exec (supS f q1 q2 q3 q4 q5 q6) (ksEnv qual scope L fI (.ref cda) cc)) Q E s := by
  obtain ⟨nm, q, N, bs, bm, sn, sub, ab, col, dd, k0, k1, k2, k3, k5, hC, hbm⟩ := T.cls
  obtain ⟨ccl, cdd, vs, ccs, file, tf, lc, hvs, hfile⟩ := hcode
  obtain ⟨cl, cld, csl, lcell⟩ := hcell
  obtain ⟨ar, hhead, har⟩ := hpar
  have hcl := clsIn_err hC
  have hC1 := X _ _ hC
  have hInst : InstAt s.heap x (excO C t0) C none := ⟨hx, rfl, rfl, trivial⟩
  refine ks_wpAt_Expr_any ?_ (by show (scope.kind == ScopeKind.module && _) = false; rw [S.kind]; rfl) rfl
  refine ks_wpAt_MethodCall (pl := (do return (← importBound (.Call (.Name "super" q1) [] [] q2) (ksEnv qual scope L fI (.ref cda) cc)).getD true)) ?_ (by
    show (do
      let ov ← attributeBase (.Call (.Name "super" q1) [] [] q2) "__init__" (ksEnv qual scope L fI (.ref cda) cc) (eval (.Call (.Name "super" q1) [] [] q2) (ksEnv qual scope L fI (.ref cda) cc))
      standAt q3.atName
      methodCall (.Call (.Name "super" q1) [] [] q2) "__init__" q3 q5 (ksEnv qual scope L fI (.ref cda) cc) ov 1 (backTo q5 (starEach [.Name f q4] (ksEnv qual scope L fI (.ref cda) cc))) []) = _
    unfold methodCall methodCallPos
    rw [hpos]
    rfl)
  obtain ⟨hh, g, d, tk, os⟩ := s
  refine ks_wpAt_super_base (env := ksEnv qual scope L fI (.ref cda) cc) S.sup S.cls (by decide) rfl (X _ _ lf) rfl (by rw [efd]; exact hhead) rfl (X _ _ lc) rfl hvs hfile T.top ?_
  refine ks_loadName_global S.kind S.sup (loadGlobal_builtin (env := ksEnv qual scope L fI (.ref cda) cc) hgl (mg_none_of X hgl T.nS) hbl ((hbb _ (by decide +kernel)).trans (by decide +kernel)) ⟨rfl, ?_⟩)
  refine wpAny_loadName_free S.kind S.cls rfl ⟨_, X _ _ lcell, rfl⟩ ?_
  refine wpAny_loadName_local S.kind (by rw [har]; exact S.slf) hns (by rw [har]; exact ms) ?_
  refine ks_wpAny_isType_cls hC1 rfl ⟨rfl, ?_⟩
  refine ks_wpAny_call_super hC1 rfl hx rfl (fun c z => nomatch z) (looks_mroIn X T.mC) (fun h1 e1 k1 => ?_)
  have X1 := X.keeps k1
  have hx1 := k1 _ _ hx
  have hI1 : InstAt h1 x (excO C t0) C none := ⟨hx1, rfl, rfl, trivial⟩
  have sup : alongIn K "__init__" ((((Value.ref C :: bm).dropWhile (· != .ref C)).drop 1)) = some (some (.builtin "ValueError.__init__")) := by
    have z := T.sup
    unfold ks_superIn at z
    rw [hcl, Option.bind_some] at z
    exact z
  refine kxs_getMethod kxs_ValueError e1 (looks_opaque X1 T.tp) (l₀ := Value.ref C :: bm) (fun A Q E s k q => wpAny_bind ((looks_clsIn X1 hcl) A _ E s k (wpAny_pure q))) rfl X1 sup (hI1.type.andThen (looks_subIn X1 T.sB)) (ks_ne X1 hI1 hcl) (by decide) ?_
  have k2 : ∀ b o, h1.get? b = some o → (h1.push (kxs_mw "ValueError.__init__" x)).get? b = some o := fun b o e => Heap.get?_push_of_some _ e
  have hu : (h1.push (kxs_mw "ValueError.__init__" x)).get? h1.objs.size = some (kxs_mw "ValueError.__init__" x) := Heap.get?_push_at rfl rfl
  have hst : starEach [Expr.Name f q4] (ksEnv qual scope L fI (.ref cda) cc) = (false, eval (.Name f q4) (ksEnv qual scope L fI (.ref cda) cc)) :: starEach [] (ksEnv qual scope L fI (.ref cda) cc) := rfl
  rw [hst]
  refine kxs_callWith (i := "ValueError.__init__") (x := x) rfl (evalArgs_plain (spliced_cons ?_))
  have hns2 := (hns.keeps k1).keeps k2
  refine wpAny_Name (wpAny_loadName_local S.kind (S.fld f hf) hns2 mf ?_) (S.dbg f hf)
  refine spliced_nil ⟨hu, ?_⟩
  refine wpAny_call (codeAny_of_tree ?_)
  show wpAny _ A.in1 (callAny (.ref h1.objs.size) ⟨[v], []⟩) _ _ _
  simp only [callAny]
  refine wpAny_bind (wpAny_load hu ?_)
  simp only [kxs_mw, show (Value.type "method-wrapper" == Value.type "method" || Value.type "method-wrapper" == Value.type "builtin_function_or_method" || Value.type "method-wrapper" == Value.type "method-wrapper") = true by decide, if_true]
  refine KFB.if_so (by decide) ?_
  refine wpAny_bind (check_bound_init F.excBase_ValueError.toExcCallFacts (k2 _ _ (k1 _ _ hC1)) (k2 _ _ hx1) rfl ?_)
  refine wpAny_bind (wpAny_pure (wpAny_pure ?_))
  refine ⟨plainId_quiet F.excBase_ValueError.init.plain _, codeAny_builtin F.excBase_ValueError.initEntry ?_⟩
  refine exc_init_tree (cls := .ref C) (t0 := t0) (dv := none) (c2 := .none) (c3 := .none) (b4 := .bool false) (k2 _ _ hx1) (by show 1 ≤ sizeLine; rw [sizeLine_eq]; decide) (fun h' kk e' t' => ?_)
  exact hq h' _ _ (fun b o hb e => kk b o hb (k2 _ _ (k1 _ _ e))) e'

/-- self.f = f, the first one -/
theorem keep_new (T : ErrK prog K fs C fI fd) {x t0 : Addr} {v : Value} {f : Str} {r1 r2 r3 r4 : Pos} {qual : Str} {scope : Scope} {cda cc L : Addr} {m : Str → Option Value} {Q : Flow → Shared → Prop}
    (S : IniS fs scope) (hf : f ∈ fs) (X : K.In s.heap) (hns : s.heap.Ns L m) (ms : m "self" = some (.ref x)) (mf : m f = some v) (hx : s.heap.get? x = some (excO C t0))
    (hq : ∀ h' tk dx, (∀ b o, b ≠ x → s.heap.get? b = some o → h'.get? b = some o) → s.heap.objs.size ≤ dx → dx ≠ x →
      h'.get? x = some { cls := .ref C, dict := some dx, data := .fields #[.ref t0, .none, .none, .none, .bool false, .none] } →
      h'.Ns1 dx (fun y => if y = f then some v else none) → Q .next { s with heap := h', toks := tk }) :
    wpAny (model prog w) A (exec (keepS f r1 r2 r3 r4) (ksEnv qual scope L fI (.ref cda) cc)) Q E s := by
  obtain ⟨nm, q, N, bs, bm, sn, sub, ab, col, dd, k0, k1, k2, k3, k5, hC, hbm⟩ := T.cls
  have hcl := clsIn_err hC
  refine plainObj_wpAny_Assign_Attribute ?_
  refine wpAny_Name (wpAny_loadName_local S.kind (S.fld f hf) hns mf ?_) (S.dbg f hf)
  refine wpAny_Name (wpAny_loadName_local S.kind S.slf hns ms ?_) (by decide)
  obtain ⟨hh, g, d, tk, os⟩ := s
  refine set_plain X (ox := excO C t0) (od := none) ⟨hx, rfl, rfl, trivial⟩ T.sa ?_
  exact exc_osa X hx hcl (show refsVE (.ref C :: bm) = true from hbm) rfl (T.nof f hf) (fun h3 tk3 dx k3 dn dne hx3 hn3 => hq h3 tk3 dx k3 dn dne hx3 hn3)

/-- self.g = g, a further one -/
theorem keep_old (T : ErrK prog K fs C fI fd) {x t0 dx : Addr} {v : Value} {f : Str} {r1 r2 r3 r4 : Pos} {qual : Str} {scope : Scope} {cda cc L : Addr} {m m0 : Str → Option Value} {nl : List Str} {Q : Flow → Shared → Prop}
    (S : IniS fs scope) (hf : f ∈ fs) (X : K.In s.heap) (hns : s.heap.Ns L m) (ms : m "self" = some (.ref x)) (mf : m f = some v)
    (hx : s.heap.get? x = some { cls := .ref C, dict := some dx, data := .fields #[.ref t0, .none, .none, .none, .bool false, .none] }) (hn : s.heap.Ns1 dx m0) (hw : Within m0 nl) (hz : nl.length ≤ 1000)
    (hq : ∀ h' tk, (∀ b o, b ≠ dx → s.heap.get? b = some o → h'.get? b = some o) → h'.Ns1 dx (fun y => if y = f then some v else m0 y) → Q .next { s with heap := h', toks := tk }) :
    wpAny (model prog w) A (exec (keepS f r1 r2 r3 r4) (ksEnv qual scope L fI (.ref cda) cc)) Q E s := by
  obtain ⟨nm, q, N, bs, bm, sn, sub, ab, col, dd, k0, k1, k2, k3, k5, hC, hbm⟩ := T.cls
  have hcl := clsIn_err hC
  refine plainObj_wpAny_Assign_Attribute ?_
  refine wpAny_Name (wpAny_loadName_local S.kind (S.fld f hf) hns mf ?_) (S.dbg f hf)
  refine wpAny_Name (wpAny_loadName_local S.kind S.slf hns ms ?_) (by decide)
  obtain ⟨oD, esD, epD, hoD, hdD, _⟩ := hn.count hw
  obtain ⟨hh, g, d, tk, os⟩ := s
  refine set_plain X (od := some oD) ⟨hx, rfl, rfl, hoD⟩ T.sa ?_
  exact OEX.osa_old X hx hn hw hz hcl (show refsVE (.ref C :: bm) = true from hbm) rfl (T.nof f hf) (fun h3 tk3 k3 hn3 => hq h3 tk3 k3 hn3)

/-- the whole of __init__ -/
theorem err_init (T : ErrK prog K fs C fI fd) {x t0 : Addr} {vs : List Value} {args : Args} (hl : vs.length = fs.length) (X : K.In s.heap) (hlim : s.heap.NoLimit)
    (hgl : s.heap.Ns mainGlobals mg) (hbl : s.heap.Ns builtinsNs mb) (hbb : ∀ x : Str, x ≠ "__name__" → mb x = bootBuiltins x)
    (hx : s.heap.get? x = some (excO C t0)) (hnx : K.lookup x = none) (hroom : A.depth < recursionLimit)
    (hbind : BindsTo s fd args (("self", .ref x) :: fs.zip vs))
    (hq : ∀ h' tk dx, IniEnd fs vs s.heap h' x C dx → R (.ok (.ret .none)) { s with heap := h', toks := tk }) :
    codeAny (model prog w) A (.call (.ref fI) args) R s := by
  obtain ⟨oc, od, osl, qual, params, body, scope, dV, kV, doc, pm, an, cda, ct, cc, efd, lf, hcd, hcode, hcell, hpar, S, hshape⟩ := T.fn
  have butx : ∀ {h h' : Heap}, K.In h → (∀ b o, b ≠ x → h.get? b = some o → h'.get? b = some o) → K.In h' := fun {h h'} Y k a o e =>
    k a o (fun z => by rw [z, hnx] at e; cases e) (Y a o e)
  have hloc : ∀ y ∈ (("self", .ref x) :: fs.zip vs : List (Str × Value)), scope.names.lookup y.1 = some .local := fun y hy => by
    rcases List.mem_cons.mp hy with z | z
    · rw [z]
      exact S.slf
    · exact S.fld _ (List.of_mem_zip z).1
  subst efd
  refine ks_codeAny_call_defAt (body := body) (binds := ("self", .ref x) :: fs.zip vs) hroom (X _ _ lf) rfl hlim (codeRec_of X hcd) rfl hbind S.nocell hloc (fun h1 hns hk1 => ?_) S.co S.gen S.kind
  have X1 := X.keeps hk1
  have hx1 := hk1 _ _ hx
  have hL : ∀ {h' : Heap}, (∀ b o, b ≠ x → h1.get? b = some o → h'.get? b = some o) → ∀ {m}, h1.Ns s.heap.objs.size m → h'.Ns s.heap.objs.size m := fun {h'} k {m} ⟨o, es, ep, e, r⟩ =>
    ⟨o, es, ep, k _ _ (Nat.ne_of_gt (Heap.lt_size hx)) e, r⟩
  rcases hshape with ⟨f, q1, q2, q3, q4, q5, q6, r1, r2, r3, r4, hpos, rfl, rfl⟩ | ⟨f, g, q1, q2, q3, q4, q5, q6, r1, r2, r3, r4, p1, p2, p3, p4, hpos, rfl, hfg, rfl⟩
  · obtain ⟨v, rfl⟩ : ∃ v, vs = [v] := by
      cases vs with
      | nil => cases hl
      | cons v r =>
        cases r with
        | nil => exact ⟨v, rfl⟩
        | cons _ _ => cases hl
    have nf : (("self" : Str) == f) = false := by simpa using (S.nself f (by simp)).symm
    have ms : ([("self", .ref x), (f, v)] : List (Str × Value)).reverse.lookup ("self" : Str) = some (Value.ref x) := by simp [List.lookup, nf]
    have mf : ([("self", .ref x), (f, v)] : List (Str × Value)).reverse.lookup f = some v := by simp [List.lookup]
    refine ks_wpAt_execs_cons (sup_run T rfl lf hcode hcell hpos hpar S (by simp) X1 (hgl.keeps hk1) (hbl.keeps hk1) hbb hns ms mf hx1 (fun h2 tk2 t2 k2 hx2 => ?_))
    refine ks_wpAt_execs_cons (wpAt_of_wpAny (keep_new T S (by simp) (butx X1 k2) (hL k2 hns) ms mf hx2 (fun h3 tk3 dx k3 dn dne hx3 hn3 => ?_)))
    refine wpAt_of_wpAny (wpAny_execs_nil ?_)
    have z : s.heap.objs.size ≤ dx := Nat.le_of_lt (Nat.lt_of_lt_of_le (hL k2 hns).lt dn)
    exact hq h3 tk3 dx ⟨fun b o hb e => k3 b o hb (k2 b o hb (hk1 b o e)), ⟨_, hx3⟩, z, dne, _, hn3, fun y => look1 f y v⟩
  · obtain ⟨v, u, rfl⟩ : ∃ v u, vs = [v, u] := by
      cases vs with
      | nil => cases hl
      | cons v r =>
        cases r with
        | nil => cases hl
        | cons u r =>
          cases r with
          | nil => exact ⟨v, u, rfl⟩
          | cons _ _ => cases hl
    have nf : (("self" : Str) == f) = false := by simpa using (S.nself f (by simp)).symm
    have ng : (("self" : Str) == g) = false := by simpa using (S.nself g (by simp)).symm
    have fg : (f == g) = false := by simpa using hfg
    have ms : ([("self", .ref x), (f, v), (g, u)] : List (Str × Value)).reverse.lookup ("self" : Str) = some (Value.ref x) := by simp [List.lookup, nf, ng]
    have mf : ([("self", .ref x), (f, v), (g, u)] : List (Str × Value)).reverse.lookup f = some v := by simp [List.lookup, fg]
    have mu : ([("self", .ref x), (f, v), (g, u)] : List (Str × Value)).reverse.lookup g = some u := by simp [List.lookup]
    refine ks_wpAt_execs_cons (sup_run T rfl lf hcode hcell hpos hpar S (by simp) X1 (hgl.keeps hk1) (hbl.keeps hk1) hbb hns ms mf hx1 (fun h2 tk2 t2 k2 hx2 => ?_))
    refine ks_wpAt_execs_cons (wpAt_of_wpAny (keep_new T S (by simp) (butx X1 k2) (hL k2 hns) ms mf hx2 (fun h3 tk3 dx k3 dn dne hx3 hn3 => ?_)))
    have X3 : K.In h3 := butx (butx X1 k2) k3
    have hns3 : h3.Ns s.heap.objs.size _ := hL (fun b o hb e => k3 b o hb (k2 b o hb e)) hns
    refine ks_wpAt_execs_cons (wpAt_of_wpAny (keep_old T S (by simp) X3 hns3 ms mu hx3 hn3 (Within.cons f v Within.nil) (by show 1 ≤ 1000; decide) (fun h4 tk4 k4 hn4 => ?_)))
    refine wpAt_of_wpAny (wpAny_execs_nil ?_)
    have zz : s.heap.objs.size < h2.objs.size := (hL k2 hns).lt
    have z : s.heap.objs.size ≤ dx := Nat.le_of_lt (Nat.lt_of_lt_of_le zz dn)
    have nd : ∀ b o, h2.get? b = some o → b ≠ dx := fun b o e z => absurd (Nat.lt_of_lt_of_le (Heap.lt_size e) dn) (by rw [z]; exact Nat.lt_irrefl _)
    refine hq h4 tk4 dx ⟨fun b o hb e => k4 b o (nd b o (k2 b o hb (hk1 b o e))) (k3 b o hb (k2 b o hb (hk1 b o e))), ⟨_, k4 _ _ (Ne.symm dne) hx3⟩, z, dne, _, hn4, fun y => look2 hfg y v u⟩
end
end PySem.TPX

namespace PySem.TPX
open PySem.W PySem.Calls PyProof.Rows PySem.HandSPX
/-- a made error -/
structure ErrMade (fs : List Str) (vs : List Value) (h h' : Heap) (e C d : Addr) : Prop where
  keep : ∀ b o, h.get? b = some o → h'.get? b = some o
  new : h.objs.size ≤ e
  obj : ∃ oe ws, h'.get? e = some oe ∧ oe.cls = .ref C ∧ oe.dict = some d ∧ oe.data = .fields ws ∧ ws[1]? = some .none ∧ ws[2]? = some .none ∧ 4 < ws.size
  dbig : h.objs.size ≤ d
  dne : d ≠ e
  ns : ∃ mA, h'.Ns1 d mA ∧ ∀ y, mA y = (fs.zip vs).lookup y
section
variable {prog : Program} {w : World} {A : Around} {R : Result → Shared → Prop} {s : Shared} {K : Frag} {mg mb : Str → Option Value} {C fI : Addr} {fs : List Str} {fd : FuncData}
theorem err_made (T : ErrK prog K fs C fI fd) {us vs : List Value} (hl : vs.length = fs.length) (hul : us.length ≤ sizeLine) (X : K.In s.heap) (hlim : s.heap.NoLimit)
    (hgl : s.heap.Ns mainGlobals mg) (hbl : s.heap.Ns builtinsNs mb) (hbb : ∀ x : Str, x ≠ "__name__" → mb x = bootBuiltins x) (hroom : A.depth + 1 < recursionLimit)
    (hbind : ∀ (s : Shared) (x : Addr), K.In s.heap → BindsTo s fd ⟨.ref x :: us, []⟩ (("self", .ref x) :: fs.zip vs))
    (hq : ∀ h' tk e d, ErrMade fs vs s.heap h' e C d → R (.ok (.ret (.ref e))) { s with heap := h', toks := tk }) :
    codeAny (model prog w) A (.call (.ref C) ⟨us, []⟩) R s := by
  obtain ⟨nm, q, N, bs, bm, sn, sub, ab, col, dd, k0, k1, k2, k3, k5, hC, hbm⟩ := T.cls
  obtain ⟨hp, g, dr, tk, os⟩ := s
  have k : ∀ b o, hp.get? b = some o → ((hp.push (kdv_tup us)).push (excO C hp.objs.size)).get? b = some o := fun b o e => Heap.get?_push_of_some _ (Heap.get?_push_of_some _ e)
  have hget : ((hp.push (kdv_tup us)).push (excO C hp.objs.size)).get? (hp.objs.size + 1) = some (excO C hp.objs.size) := by heap_get
  have hnx : K.lookup (hp.objs.size + 1) = none := by
    cases e : K.lookup (hp.objs.size + 1) with
    | none => rfl
    | some o => exact absurd (Nat.lt_of_succ_lt (Heap.lt_size (X _ _ e))) (Nat.lt_irrefl _)
  refine call_own F.excBase_ValueError (fun Z => refsVE_contains Z bm hbm) (X _ _ hC) (looks_findIn X T.iC) (fun self => bind_fn X self T.tI) hul ?_
  refine err_init (s := ⟨(hp.push (kdv_tup us)).push (excO C hp.objs.size), g, dr, tk, os⟩) T hl (X.keeps k) (hlim.keeps k) (hgl.keeps k) (hbl.keeps k) hbb hget hnx ?_ (hbind _ _ (X.keeps k)) fun h' tk' dx I => ?_
  · show A.depth + 1 < recursionLimit
    exact hroom
  · obtain ⟨k', ⟨t1, hx⟩, dn, dne, hns⟩ := I
    have old : ∀ b o, hp.get? b = some o → h'.get? b = some o := fun b o e => k' b o (Nat.ne_of_lt (Nat.lt_succ_of_lt (Heap.lt_size e))) (k b o e)
    have z : hp.objs.size + 1 + 1 ≤ dx := by
      have q := dn
      simp only [Heap.size_push] at q
      exact q
    exact ⟨rfl, hq h' tk' (hp.objs.size + 1) dx ⟨old, Nat.le_succ _, ⟨_, _, hx, rfl, rfl, rfl, rfl, rfl, by show 4 < 6; decide⟩, Nat.le_trans (Nat.le_trans (Nat.le_succ _) (Nat.le_succ _)) z, dne, hns⟩⟩
end
end PySem.TPX

namespace L2.TP
open PySem PySem.Spec PyProof.Rows
theorem relO_zip : ∀ {fs : List Str} {vs : List V} {us : List Value}, Vals vs us → ∀ f, RelO ((fs.zip vs).lookup f) ((fs.zip us).lookup f)
  | [], _, _, _, _ => by simp [RelO]
  | _ :: _, _, _, .nil, _ => by simp [RelO]
  | g :: fs, _, _, .cons r t, f => by
    show RelO (List.lookup f ((g, _) :: fs.zip _)) (List.lookup f ((g, _) :: fs.zip _))
    by_cases h : f = g
    · subst h
      simp only [List.lookup, beq_self_eq_true]
      exact r
    · have q : (f == g) = false := by simpa using h
      simp only [List.lookup, q]
      exact relO_zip t f
/-- what the text says of an error x with the fields fs, whose __init__ takes the defaults dvs where they are left out -/
structure Err (prog : Program) (K : PySem.W.Frag) (mg : Str → Option Value) (x : Str) (fs : List Str) (C : Addr) : Prop where
  ex : ∃ (fI : Addr) (fd : FuncData), PySem.TPX.ErrK prog K fs C fI fd ∧ Binds K fd ("self" :: fs) []
  gC : mg x = some (.ref C)
  kC : PySem.W.keepIn K (.ref C) = true
  bE : PySem.W.subIn K (.ref C) (.type "BaseException") = some true
  tC : PySem.W.typeIn K (.ref C) = some (.type "type")
section
variable {X : Cx} {C : Addr} {x : Str} {fs : List Str}
/-- x(e, ..), an own error -/
def tMkE (C : Addr) (fs : List Str) (ta : TA) : St → Hp → XK → Prop := fun σ H Q => ta σ H fun vs H1 => vs.length = fs.length ∧ ∀ d, H1 d = none → Q (.ref C) (some d) (upd H1 d (.xd (fs.zip vs)))
theorem pmk_err {e : Expr} {es : List Expr} {ta : TA} {p pos : Pos} {k : Nat} (T : Err X.prog X.K X.mg x fs C) (hfs : fs.length ≤ 1000) (hr : Room k X.A) (ha : PA X (e :: es) ta) (hg : Gl X x := by rfl)
    (hdb : (x == ("__debug__" : Str)) = false := by decide)
    (he : starEach (e :: es) X.env = (false, eval e X.env) :: starEach es X.env := by rfl) (hpl : (backTo pos (starEach es X.env)).any (·.1) = false := by rfl) :
    PMk X (.Call (.Name x p) (e :: es) [] pos) (tMkE C fs ta) := by
  intro pins s σ H Q I h
  obtain ⟨fI, fd, TE, hbind⟩ := T.ex
  refine wpAny_Call_Name_kw (ld_glob I hg T.gC ?_ hdb)
  refine PySem.W.callWith_K (h₀ := X.base) I.ok.mod.kin T.kC (thn (ha.run pos pins s σ H _ I h) fun us s1 hh => ?_) he hpl
  obtain ⟨vs, H1, I1, r1, hl, q1⟩ := hh
  refine ⟨I1.kIn, ?_⟩
  show wpAny _ _ (call (.ref C) us) _ _ _
  have hlim := I1.nolimit
  obtain ⟨mb, hmb, hbb⟩ := I1.mod.blt
  have hul : us.length = fs.length := r1.length.symm.trans hl
  have hgl := I1.mod.glob.keeps I1.bk
  have hbl := hmb.keeps I1.bk
  have kin := I1.kIn
  obtain ⟨hp, g, dr, tk, os⟩ := s1
  refine wpAny_call (PySem.TPX.err_made (us := us) (vs := us) TE hul (by rw [hul]; exact Nat.le_trans hfs (by decide)) kin hlim hgl hbl hbb (by have := hr.dp; omega) (fun s' x' kk => ?_) fun h' tk' e d M => ?_)
  · have z := hbind s' (.ref x' :: us) kk (by simp [hul])
    rw [List.append_nil] at z
    exact z
  show MkP X pins σ Q (.ref e) ⟨h', g, dr, tk', os⟩
  obtain ⟨oe, fv, hoe, hc, hd, hdat, h1, _, _⟩ := M.obj
  obtain ⟨mA, hns, hmA⟩ := M.ns
  obtain ⟨G', g1, g2⟩ := restrict h' fun b => decide (b ≠ e)
  have gk : ∀ b, b ≠ e → G'.get? b = h'.get? b := fun b hb => g1 b (decide_eq_true hb)
  have ge : G'.get? e = none := g2 e (by simp)
  have old : ∀ b o, hp.get? b = some o → G'.get? b = some o := fun b o q => (gk b (Nat.ne_of_lt (Nat.lt_of_lt_of_le (Heap.lt_size q) M.new))).trans (M.keep b o q)
  have ob : ObjOk X.prog X.w (upd H1 d (.xd (fs.zip vs))) G' d (.xd (fs.zip vs)) :=
    ⟨mA, hns.at (fun o q => (gk d M.dne).trans q), fun f => by rw [hmA f]; exact relO_zip r1 f⟩
  have J : Inv X pins σ (upd H1 d (.xd (fs.zip vs))) ⟨G', g, dr, tk', os⟩ := I1.laid (t' := tk') old M.dbig ob
  refine ⟨e, oe, fv, ⟨G', g, dr, tk', os⟩, _, .ref C, some d, rfl, J, fun b o q => ?_, ge, hoe, ⟨hc, hd⟩, hdat, h1, ?_, rfl, I1.bare, raises_own T.bE T.tC, q1 d (I1.hok.fresh M.dbig)⟩
  · by_cases hb : b = e
    · have q' : G'.get? b = some o := q
      rw [hb, ge] at q'
      cases q'
    · exact (gk b hb).symm.trans q
  · rw [upd_ne (Ne.symm M.dne)]
    exact I1.hok.fresh M.new
/-- raise x(e, ..) -/
theorem ps_raiseE {e : Expr} {es : List Expr} {ta : TA} {W : WX} {p pos pos2 : Pos} {k : Nat} (hc : X.calm = true) (tk : Takes X W) (T : Err X.prog X.K X.mg x fs C) (hfs : fs.length ≤ 1000) (hr : Room k X.A) (ha : PA X (e :: es) ta)
    (hg : Gl X x := by rfl) (hdb : (x == ("__debug__" : Str)) = false := by decide)
    (he : starEach (e :: es) X.env = (false, eval e X.env) :: starEach es X.env := by rfl) (hpl : (backTo pos (starEach es X.env)).any (·.1) = false := by rfl) :
    PS X (.Raise (some (.Call (.Name x p) (e :: es) [] pos)) none pos2) (fun _ σ H => tMkE C fs ta σ H fun cls d H' => W cls d σ H') := ps_raise hc tk (pmk_err T hfs hr ha hg hdb he hpl)
end
end L2.TP

/-! Layer D: signs and comparisons whose defs are own methods; an own instance on the left, an own instance or an int on the right, or an int on the left. -/
namespace PySem.TPX
open PySem.W PySem.Calls PyProof.Rows
section
variable {prog : Program} {w : World} {M : Model} {A : Around} {E : Value → Shared → Prop} {s : Shared} {K : Frag} {y C dy f : Addr} {i : Int} {t : Tok}
theorem dec_add : Meets (Builtin.«int.__add__» ⟨[.int i t, .ref y], []⟩) (fun _ R s => s.heap.get? y = some (instObj C dy) ∧ R (.ok (.ret Value.notImplemented)) s) :=
  .of_wp fun prog w A R s h => by obtain ⟨hp, g, d, tk, os⟩ := s; obtain ⟨hl, h⟩ := h; wp_walk using wpAny_loadPart' hl; exact ⟨_, rfl, h⟩
theorem dec_sub : Meets (Builtin.«int.__sub__» ⟨[.int i t, .ref y], []⟩) (fun _ R s => s.heap.get? y = some (instObj C dy) ∧ R (.ok (.ret Value.notImplemented)) s) :=
  .of_wp fun prog w A R s h => by obtain ⟨hp, g, d, tk, os⟩ := s; obtain ⟨hl, h⟩ := h; wp_walk using wpAny_loadPart' hl; exact ⟨_, rfl, h⟩
theorem dec_mul : Meets (Builtin.«int.__mul__» ⟨[.int i t, .ref y], []⟩) (fun _ R s => s.heap.get? y = some (instObj C dy) ∧ R (.ok (.ret Value.notImplemented)) s) :=
  .of_wp fun prog w A R s h => by obtain ⟨hp, g, d, tk, os⟩ := s; obtain ⟨hl, h⟩ := h; wp_walk using wpAny_loadPart' hl; exact ⟨_, rfl, h⟩
theorem dec_floordiv : Meets (Builtin.«int.__floordiv__» ⟨[.int i t, .ref y], []⟩) (fun _ R s => s.heap.get? y = some (instObj C dy) ∧ R (.ok (.ret Value.notImplemented)) s) :=
  .of_wp fun prog w A R s h => by obtain ⟨hp, g, d, tk, os⟩ := s; obtain ⟨hl, h⟩ := h; wp_walk using wpAny_loadPart' hl; exact ⟨_, rfl, h⟩
theorem dec_eq : Meets (Builtin.«int.__eq__» ⟨[.int i t, .ref y], []⟩) (fun _ R s => s.heap.get? y = some (instObj C dy) ∧ R (.ok (.ret Value.notImplemented)) s) :=
  .of_wp fun prog w A R s h => by obtain ⟨hp, g, d, tk, os⟩ := s; obtain ⟨hl, h⟩ := h; wp_walk using wpAny_loadPart' hl; exact ⟨_, rfl, h⟩
theorem dec_ne : Meets (Builtin.«int.__ne__» ⟨[.int i t, .ref y], []⟩) (fun _ R s => s.heap.get? y = some (instObj C dy) ∧ R (.ok (.ret Value.notImplemented)) s) :=
  .of_wp fun prog w A R s h => by obtain ⟨hp, g, d, tk, os⟩ := s; obtain ⟨hl, h⟩ := h; wp_walk using wpAny_loadPart' hl; exact ⟨_, rfl, h⟩
theorem dec_lt : Meets (Builtin.«int.__lt__» ⟨[.int i t, .ref y], []⟩) (fun _ R s => s.heap.get? y = some (instObj C dy) ∧ R (.ok (.ret Value.notImplemented)) s) :=
  .of_wp fun prog w A R s h => by obtain ⟨hp, g, d, tk, os⟩ := s; obtain ⟨hl, h⟩ := h; wp_walk using wpAny_loadPart' hl; exact ⟨_, rfl, h⟩
theorem dec_le : Meets (Builtin.«int.__le__» ⟨[.int i t, .ref y], []⟩) (fun _ R s => s.heap.get? y = some (instObj C dy) ∧ R (.ok (.ret Value.notImplemented)) s) :=
  .of_wp fun prog w A R s h => by obtain ⟨hp, g, d, tk, os⟩ := s; obtain ⟨hl, h⟩ := h; wp_walk using wpAny_loadPart' hl; exact ⟨_, rfl, h⟩
theorem dec_gt : Meets (Builtin.«int.__gt__» ⟨[.int i t, .ref y], []⟩) (fun _ R s => s.heap.get? y = some (instObj C dy) ∧ R (.ok (.ret Value.notImplemented)) s) :=
  .of_wp fun prog w A R s h => by obtain ⟨hp, g, d, tk, os⟩ := s; obtain ⟨hl, h⟩ := h; wp_walk using wpAny_loadPart' hl; exact ⟨_, rfl, h⟩
theorem dec_ge : Meets (Builtin.«int.__ge__» ⟨[.int i t, .ref y], []⟩) (fun _ R s => s.heap.get? y = some (instObj C dy) ∧ R (.ok (.ret Value.notImplemented)) s) :=
  .of_wp fun prog w A R s h => by obtain ⟨hp, g, d, tk, os⟩ := s; obtain ⟨hl, h⟩ := h; wp_walk using wpAny_loadPart' hl; exact ⟨_, rfl, h⟩

/-- the left one, an int, declines -/
structure Dec (y C dy : Addr) (name : Str) (id : String) (B : Builtin) : Prop where
  slot : Slot "int" name id
  entry : entryFor table id = some B
  args : ∀ a b : Value, argsOk id ⟨[a, b], []⟩
  meets : ∀ (i : Int) (t : Tok), Meets (B ⟨[.int i t, .ref y], []⟩) (fun _ R s => s.heap.get? y = some (instObj C dy) ∧ R (.ok (.ret Value.notImplemented)) s)

/-- i op y: y's reflected def is called -/
theorem bin_refl {op : Operator} {id : String} {B : Builtin} {cd : ClassData} {rest : List Value} {Q : Value → Shared → Prop} (D : Dec y C dy (PySem.dunder op.info.2) id B) (X : K.In s.heap) (hy : s.heap.get? y = some (instObj C dy)) {od : Option Obj} (I : InstAt s.heap y (instObj C dy) C od)
    (hcd : clsIn K C = some cd) (hm : cd.mro = .ref C :: rest) (hfT : fillsNumberSlot (.type "int") op.info.2 = pure true) (hs0 : findIn K (.ref C) (PySem.dunder op.info.2) = some (some (.ref f0)))
    (hs : findIn K (.ref C) (dunderR op.info.2) = some (some (.ref f))) (hf : isFn K (.ref f) = true) (hsub : subIn K (.ref C) (.type "int") = some false)
    (h : wpAny (model prog w) A (call (.ref f) [.ref y, .int i t]) (W.CmpBack Q) E s) : wpAny (model prog w) A (binaryOp op (.int i t) (.ref y)) Q E s := by
  rcases hi : op.info with ⟨sym, nm⟩
  rw [hi] at D hs0 hs hfT
  dsimp only at D hs0 hs hfT
  have two := ksp_try X I hs hf h
  have one : wpAny (model prog w) A (tryMethod (.int i t) (PySem.dunder nm) (.ref y)) (fun r s' => r = none ∧ s' = s) E s :=
    wpAny_tryMethod_declines (typeIs_int s i t) D.slot (call_meets D.slot (typeIs_int s i t) D.entry (D.args _ _) (D.meets i t) ⟨hy, rfl, rfl, rfl⟩)
  obtain ⟨hh, g, d, tt, os⟩ := s
  have L1 : Looks (model prog w) hh (typeOf (.ref y)) (.ref C) := I.type
  have L2 : Looks (model prog w) hh (typeOf (.int i t)) (.type "int") := Looks.of_pure rfl
  have L3 : Looks (model prog w) hh (fillsNumberSlot (.ref C) nm) true := fills_K X hcd hm hs0
  have L4 : Looks (model prog w) hh (fillsNumberSlot (.type "int") nm) true := Looks.of_pure hfT
  have L5 : Looks (model prog w) hh (isSubtype (.ref C) (.type "int")) false := looks_subIn X hsub
  have L7 : Looks (model prog w) hh (numberSlotInPython (.type "int") nm) false := Looks.of_pure rfl
  have hne : (Value.type "int" == Value.ref C) = false := rfl
  simp only [binaryOp, hi]
  refine wpAny_holding (wpAny_bind ?_)
  unfold binaryOp1
  refine wpAny_bind (L2.at (wpAny_bind (L1.at (wpAny_bind (L4.at ?_)))))
  simp only [hne, Bool.false_eq_true, if_false]
  ksp_lk
  refine wpAny_mono one (fun r s' hr' => ?_) fun _ _ e => e
  obtain ⟨rfl, rfl⟩ := hr'
  ksp_lk
  refine wpAny_mono two (fun r s' hr' => ?_) fun _ _ e => e
  obtain ⟨v, rfl, hq⟩ := hr'
  ksp_lk
  exact hq

/-- i cmp y: y's reflected def is called -/
theorem cmp_refl {op : CmpOp} {id : String} {B : Builtin} {Q : Value → Shared → Prop} (D : Dec y C dy (cmpInfo op).2.1 id B) (hu : A.units < cLine) (X : K.In s.heap) (hy : s.heap.get? y = some (instObj C dy)) {od : Option Obj} (I : InstAt s.heap y (instObj C dy) C od)
    (hs : findIn K (.ref C) (cmpInfo op).2.2 = some (some (.ref f))) (hf : isFn K (.ref f) = true) (hsub : subIn K (.ref C) (.type "int") = some false)
    (h : wpAny (model prog w) A (call (.ref f) [.ref y, .int i t]) (W.CmpBack Q) E s) : wpAny (model prog w) A (richCompare op (.int i t) (.ref y)) Q E s := by
  have two : wpAny (model prog w) A (tryCompare (.ref y) (cmpInfo op).2.2 (.int i t)) (fun r s' => ∃ v, r = some v ∧ Q v s') E s := by
    unfold tryCompare
    refine wpAny_bind (ifBound_K X I hs hf (wpAny_mono h (fun v s' hv => ?_) fun _ _ e => e))
    cases v <;> first | exact hv.elim | exact wpAny_pure ⟨_, rfl, hv⟩
  have one : wpAny (model prog w) A (tryCompare (.int i t) (cmpInfo op).2.1 (.ref y)) (fun r s' => r = none ∧ s' = s) E s := by
    unfold tryCompare
    refine wpAny_bind (wpAny_callSpecialIfBound?_slot (typeIs_int s i t) D.slot (call_meets (Q := fun v s' => v = .notImplemented ∧ s' = s) D.slot (typeIs_int s i t) D.entry (D.args _ _) (D.meets i t) ⟨hy, rfl, rfl⟩ |> fun z => wpAny_mono z (fun v s' hv => ?_) fun _ _ e => e))
    obtain ⟨rfl, rfl⟩ := hv
    exact wpAny_pure ⟨rfl, rfl⟩
  have hone : oneThing? op (.int i t) (.ref y) = none := rfl
  unfold richCompare
  simp only [hone]
  refine wpAny_holding (wpAny_bind (wpAny_cRoomFor hu ?_))
  have L2 : Looks (model prog w) s.heap (typeOf (.int i t)) (.type "int") := Looks.of_pure rfl
  refine wpAny_bind (L2.here (wpAny_bind (I.type.here ?_)))
  rw [if_pos (show (Value.type "int" != Value.ref C) = true from rfl)]
  refine wpAny_bind ((looks_subIn X hsub).here ?_)
  simp only [Bool.false_eq_true, if_false, Bool.not_false, if_true]
  refine wpAny_bind (wpAny_mono one (fun r s' hr' => ?_) fun _ _ e => e)
  obtain ⟨rfl, rfl⟩ := hr'
  refine wpAny_bind (wpAny_mono two (fun r s' hr' => ?_) fun _ _ e => e)
  obtain ⟨v, rfl, hq⟩ := hr'
  exact wpAny_pure hq
end
end PySem.TPX

/-! Layer E: the same over the hand layer. -/
namespace L2.TP
open PySem PySem.Spec PyProof.Rows

/-- the def at f that a slot of the class at C calls -/
structure SlotF (K : PySem.W.Frag) (C : Addr) (name : Str) (f : Addr) : Prop where
  at_ : PySem.W.findIn K (.ref C) name = some (some (.ref f))
  fn : PySem.W.isFn K (.ref f) = true
/-- what a class says so that its signs beside ints are its own -/
structure NumC (K : PySem.W.Frag) (C : Addr) : Prop where
  slf : PySem.W.selfFirst K C = true
  sub1 : PySem.W.subIn K (.type "int") (.ref C) = some false
  sub2 : PySem.W.subIn K (.ref C) (.type "int") = some false

theorem backV {P : Value → Shared → Prop} {z : V} {v : Value} {s' : Shared} (r : RelV z v) (h : P v s') : PySem.W.CmpBack P v s' := by
  cases z with
  | non => cases r; exact h
  | bl b => cases r; exact h
  | int i => obtain ⟨t, rfl⟩ := r; exact h
  | str x => obtain ⟨t, rfl⟩ := r; exact h
  | byt b => obtain ⟨t, rfl⟩ := r; exact h
  | flt b => obtain ⟨t, rfl⟩ := r; exact h
  | ref a => cases r; exact h
  | ty n => cases r; exact h
theorem notFirst_int {K : PySem.W.Frag} {C : Addr} (N : NumC K C) : PySem.W.notFirst K C (.type "int") = true := by
  unfold PySem.W.notFirst
  rw [N.sub1]
  simp
theorem notFirst_self {K : PySem.W.Frag} {C : Addr} : PySem.W.notFirst K C (.ref C) = true := by
  unfold PySem.W.notFirst
  simp

section
variable {X : Cx} {CX : CXT} {k : Nat} {C f fr : Addr} {fd fdr : FuncData} {sp spr : Sp} {p1 p2 q1 q2 : Str} {E : XK} {pins : List (Addr × Obj)} {σ : St} {H : Hp} {s : Shared}

/-- x op y, at least one of them an instance of the class at C, the other one such or an int -/
def rOwnB (C : Addr) (sp spr : Sp) (E : XK) : R2 := fun x y H Q =>
  (∃ a dx fs, x = .ref a ∧ H a = some (.ins C dx fs) ∧ ((∃ b dy gs, y = .ref b ∧ H b = some (.ins C dy gs)) ∨ ∃ i, y = .int i) ∧ sp [x, y] H Q E) ∨
  (∃ i b dy gs, x = .int i ∧ y = .ref b ∧ H b = some (.ins C dy gs) ∧ spr [y, x] H Q E)

theorem inst_of (I : Inv X pins σ H s) {a dx : Addr} {fs : List (Str × V)} (e : H a = some (.ins C dx fs)) : ∃ od, PySem.W.InstAt s.heap a (PySem.W.instObj C dx) C (some od) := by
  obtain ⟨mA, O, _⟩ := ins_get I.hok e
  obtain ⟨od, J, _⟩ := O.look
  exact ⟨od, J⟩
theorem obj_of (I : Inv X pins σ H s) {a dx : Addr} {fs : List (Str × V)} (e : H a = some (.ins C dx fs)) : s.heap.get? a = some (PySem.W.instObj C dx) := by
  obtain ⟨od, J⟩ := inst_of I e
  exact J.at_

theorem op_ownB {op : Operator} {id : String} {B : Builtin} {fo ro : Option Value} (N : NumC X.K C) (S : SlotF X.K C (PySem.dunder op.info.2) f) (R : SlotF X.K C (dunderR op.info.2) fr)
    (t1 : PySem.W.findIn X.K (.type "int") (PySem.dunder op.info.2) = some fo) (t2 : PySem.W.findIn X.K (.type "int") (dunderR op.info.2) = some ro) (hfT : fillsNumberSlot (.type "int") op.info.2 = pure true)
    (D : ∀ y dy, PySem.TPX.Dec y C dy (PySem.dunder op.info.2) id B)
    (F : FnOk X.prog X.w X.K X.mg X.base CX k f fd [p1, p2] sp) (FR : FnOk X.prog X.w X.K X.mg X.base CX k fr fdr [q1, q2] spr)
    (hr : Room k X.A) (hb : Binds X.K fd [p1, p2] []) (hbr : Binds X.K fdr [q1, q2] []) (hx : Passes CX X E) : OpR X (binaryOp op) (rOwnB C sp spr E) := by
  intro pins s σ H x y v u Q I rx ry h
  obtain ⟨m, Fm⟩ := I.fr
  have K0 := I.ok.mod.kin
  rcases h with ⟨a, dx, fs, rfl, ea, hy, hs⟩ | ⟨i, b, dy, gs, rfl, rfl, eb, hs⟩
  · cases rx
    obtain ⟨od, J⟩ := inst_of I ea
    have run : wpAny (model X.prog X.w) X.A (call (.ref f) [.ref a, u]) (PySem.W.CmpBack (EP X pins σ Q)) X.xe s :=
      thn (run_fn (dvs := []) (ds := []) (vs := [.ref a, y]) F hr hb .nil hx I (.cons rfl (.cons ry .nil)) (by rw [List.append_nil]; exact hs)) fun z s' hz => by
        obtain ⟨zv, H', I', rz, q⟩ := hz
        exact backV rz ⟨zv, H', I', rz, q⟩
    rcases hy with ⟨b, dy, gs, rfl, eb⟩ | ⟨i, rfl⟩
    · cases ry
      obtain ⟨od2, J2⟩ := inst_of I eb
      exact PySem.W.binop_K Fm K0 J J2.type N.slf S.at_ S.fn run
    · obtain ⟨t, rfl⟩ := ry
      exact PySem.W.ksp_binT (T := "int") Fm K0 J rfl N.slf S.at_ S.fn R.at_ (.inr ⟨_, rfl⟩) t1 t2 N.sub1 run
  · cases ry
    obtain ⟨t, rfl⟩ := rx
    obtain ⟨od, J⟩ := inst_of I eb
    obtain ⟨cd, rest, hcd, hm⟩ := PySem.W.ksp_first N.slf
    refine PySem.TPX.bin_refl (D b dy) I.kIn (obj_of I eb) J hcd hm hfT S.at_ R.at_ R.fn N.sub2 ?_
    exact thn (run_fn (dvs := []) (ds := []) (vs := [.ref b, .int i]) FR hr hbr .nil hx I (.cons rfl (.cons ⟨t, rfl⟩ .nil)) (by rw [List.append_nil]; exact hs)) fun z s' hz => by
      obtain ⟨zv, H', I', rz, q⟩ := hz
      exact backV rz ⟨zv, H', I', rz, q⟩

theorem op_ownC {op : CmpOp} {id : String} {B : Builtin} (hop : ∀ a b, compareOp op a b = richCompare op a b) (N : NumC X.K C) (S : SlotF X.K C (cmpInfo op).2.1 f) (R : SlotF X.K C (cmpInfo op).2.2 fr)
    (D : ∀ y dy, PySem.TPX.Dec y C dy (cmpInfo op).2.1 id B)
    (F : FnOk X.prog X.w X.K X.mg X.base CX k f fd [p1, p2] sp) (FR : FnOk X.prog X.w X.K X.mg X.base CX k fr fdr [q1, q2] spr)
    (hr : Room k X.A) (hb : Binds X.K fd [p1, p2] []) (hbr : Binds X.K fdr [q1, q2] []) (hx : Passes CX X E) : OpR X (compareOp op) (rOwnB C sp spr E) := by
  intro pins s σ H x y v u Q I rx ry h
  obtain ⟨m, Fm⟩ := I.fr
  have K0 := I.ok.mod.kin
  rw [hop]
  rcases h with ⟨a, dx, fs, rfl, ea, hy, hs⟩ | ⟨i, b, dy, gs, rfl, rfl, eb, hs⟩
  · cases rx
    obtain ⟨od, J⟩ := inst_of I ea
    have run : wpAny (model X.prog X.w) X.A (call (.ref f) [.ref a, u]) (PySem.W.CmpBack (EP X pins σ Q)) X.xe s :=
      thn (run_fn (dvs := []) (ds := []) (vs := [.ref a, y]) F hr hb .nil hx I (.cons rfl (.cons ry .nil)) (by rw [List.append_nil]; exact hs)) fun z s' hz => by
        obtain ⟨zv, H', I', rz, q⟩ := hz
        exact backV rz ⟨zv, H', I', rz, q⟩
    rcases hy with ⟨b, dy, gs, rfl, eb⟩ | ⟨i, rfl⟩
    · cases ry
      obtain ⟨od2, J2⟩ := inst_of I eb
      exact PySem.W.cmp_K hr.units0 Fm K0 J J2.type notFirst_self S.at_ S.fn run
    · obtain ⟨t, rfl⟩ := ry
      exact PySem.W.cmp_K hr.units0 Fm K0 J (PySem.W.Looks.of_pure rfl) (notFirst_int N) S.at_ S.fn run
  · cases ry
    obtain ⟨t, rfl⟩ := rx
    obtain ⟨od, J⟩ := inst_of I eb
    refine PySem.TPX.cmp_refl (D b dy) hr.units0 I.kIn (obj_of I eb) J R.at_ R.fn N.sub2 ?_
    exact thn (run_fn (dvs := []) (ds := []) (vs := [.ref b, .int i]) FR hr hbr .nil hx I (.cons rfl (.cons ⟨t, rfl⟩ .nil)) (by rw [List.append_nil]; exact hs)) fun z s' hz => by
      obtain ⟨zv, H', I', rz, q⟩ := hz
      exact backV rz ⟨zv, H', I', rz, q⟩

/-- - x -/
def rOwnN (C : Addr) (sp : Sp) (E : XK) : V → Hp → VK → Prop := fun x H Q => ∃ a dx fs, x = .ref a ∧ H a = some (.ins C dx fs) ∧ sp [x] H Q E
theorem un_ownN (S : SlotF X.K C "__neg__" f) (F : FnOk X.prog X.w X.K X.mg X.base CX k f fd [p1] sp) (hr : Room k X.A) (hb : Binds X.K fd [p1] []) (hx : Passes CX X E) : UnR X (unaryOp .USub) (rOwnN C sp E) := by
  intro pins s σ H x v Q I rx h
  obtain ⟨a, dx, fs, rfl, ea, hs⟩ := h
  cases rx
  obtain ⟨m, Fm⟩ := I.fr
  obtain ⟨od, J⟩ := inst_of I ea
  exact PySem.W.ksp_neg Fm I.ok.mod.kin J S.at_ S.fn (run_fn (dvs := []) (ds := []) (vs := [.ref a]) F hr hb .nil hx I (.cons rfl .nil) (by rw [List.append_nil]; exact hs))

/-! ### what an int declines -/
theorem Dadd (y C dy : Addr) : PySem.TPX.Dec y C dy (PySem.dunder Operator.Add.info.2) "int.__add__" Builtin.«int.__add__» := ⟨F.slot_int_add, F.entry_int_add, F.args_int_add_2, fun _ _ => PySem.TPX.dec_add⟩
theorem Dsub (y C dy : Addr) : PySem.TPX.Dec y C dy (PySem.dunder Operator.Sub.info.2) "int.__sub__" Builtin.«int.__sub__» := ⟨F.slot_int_sub, F.entry_int_sub, F.args_int_sub_2, fun _ _ => PySem.TPX.dec_sub⟩
theorem Dmul (y C dy : Addr) : PySem.TPX.Dec y C dy (PySem.dunder Operator.Mult.info.2) "int.__mul__" Builtin.«int.__mul__» := ⟨F.slot_int_mul, F.entry_int_mul, F.args_int_mul_2, fun _ _ => PySem.TPX.dec_mul⟩
theorem Dfdiv (y C dy : Addr) : PySem.TPX.Dec y C dy (PySem.dunder Operator.FloorDiv.info.2) "int.__floordiv__" Builtin.«int.__floordiv__» := ⟨F.slot_int_floordiv, F.entry_int_floordiv, F.args_int_floordiv_2, fun _ _ => PySem.TPX.dec_floordiv⟩
theorem Deq (y C dy : Addr) : PySem.TPX.Dec y C dy (cmpInfo .Eq).2.1 "int.__eq__" Builtin.«int.__eq__» := ⟨F.slot_int_eq, F.entry_int_eq, F.args_int_eq_2, fun _ _ => PySem.TPX.dec_eq⟩
theorem Dne (y C dy : Addr) : PySem.TPX.Dec y C dy (cmpInfo .NotEq).2.1 "int.__ne__" Builtin.«int.__ne__» := ⟨F.slot_int_ne, F.entry_int_ne, F.args_int_ne_2, fun _ _ => PySem.TPX.dec_ne⟩
theorem Dlt (y C dy : Addr) : PySem.TPX.Dec y C dy (cmpInfo .Lt).2.1 "int.__lt__" Builtin.«int.__lt__» := ⟨F.slot_int_lt, F.entry_int_lt, F.args_int_lt_2, fun _ _ => PySem.TPX.dec_lt⟩
theorem Dle (y C dy : Addr) : PySem.TPX.Dec y C dy (cmpInfo .LtE).2.1 "int.__le__" Builtin.«int.__le__» := ⟨F.slot_int_le, F.entry_int_le, F.args_int_le_2, fun _ _ => PySem.TPX.dec_le⟩
theorem Dgt (y C dy : Addr) : PySem.TPX.Dec y C dy (cmpInfo .Gt).2.1 "int.__gt__" Builtin.«int.__gt__» := ⟨F.slot_int_gt, F.entry_int_gt, F.args_int_gt_2, fun _ _ => PySem.TPX.dec_gt⟩
theorem Dge (y C dy : Addr) : PySem.TPX.Dec y C dy (cmpInfo .GtE).2.1 "int.__ge__" Builtin.«int.__ge__» := ⟨F.slot_int_ge, F.entry_int_ge, F.args_int_ge_2, fun _ _ => PySem.TPX.dec_ge⟩
end
end L2.TP

/-! Layer F: odds and ends: bindings with defaults, powers of great numbers, isinstance beside an own class, growing heaps, the pot of draws. -/
namespace L2.TP
open PySem PySem.Spec PyProof.Rows
theorem cls_some {K : PySem.W.Frag} {C : Addr} (h : PySem.W.hasDictIn K C = true) : (PySem.W.clsIn K C).isSome = true := by
  obtain ⟨cd, hc, _⟩ := PySem.W.any_some h
  rw [hc]
  rfl
theorem EXM {K : PySem.W.Frag} {C : Addr} {cls : Value} {b : Bool} (h1 : PySem.W.subIn K (.ref C) (.type "BaseException") = some true) (hd : PySem.W.hasDictIn K C = true) (ht : PySem.W.typeIn K (.ref C) = some (.type "type")) (h4 : PySem.W.subIn K cls (.ref C) = some b) : PySem.W.exmOne K cls (.ref C) = some b :=
  PySem.W.exm_ref h1 hd ht h4
/-- every parameter is given, though there are defaults -/
theorem binds_ks {K : PySem.W.Frag} {fd : FuncData} {ps : List Str} {T : Addr} {o : Obj} {its : List Value} {n : Nat} (lT : K.lookup T = some o) (oT : o.data = .seq its.toArray n)
    (h : ∀ us : List Value, us.length = ps.length → ∃ k, bindArgs fd ⟨us, []⟩ = seqItems? (.ref T) >>= k ∧ k (some its.toArray) = pure (ps.zip us)) : Binds K fd ps [] := fun s us X hl => by
  rw [List.append_nil] at hl ⊢
  obtain ⟨k, e1, e2⟩ := h us hl
  refine BindsTo.of_looks fun M => ?_
  rw [e1]
  exact looks_items X lT oT (.of_pure e2)
/-- isinstance(x, C), by the class of x -/
theorem kit_ref {K : PySem.W.Frag} {C : Addr} {t : Value} {b : Bool} (h : (PySem.W.clsIn K C).isSome = true ∧ PySem.W.typeIn K (.ref C) = some (.type "type")) (hs : PySem.W.subIn K t (.ref C) = some b) (hb : t = .ref C → b = true) : PySem.W.kitOne K t (.ref C) = some b := by
  unfold PySem.W.kitOne PySem.W.kitCls
  by_cases e : t = .ref C
  · rw [if_pos (by rw [e]; exact beq_self_eq_true _), hb e]
  · rw [if_neg (by simpa using e)]
    dsimp only
    rw [if_pos (by rw [h.1, h.2]; rfl)]
    exact hs
section
variable {X : Cx}
def CPowW (i j : Int) : Prop := 0 ≤ j ∧ (Builtin.Int.intBits i : Int) * j ≤ 2 ^ 27
theorem op_powW : OpR X (binaryOp .Pow) (rI CPowW fun i j => .int (i ^ j.toNat)) := opI fun _ _ _ _ _ _ _ hc q => pow_int hc.1 hc.2 q

theorem op_sign {CX : CXT} {k : Nat} {C f fr : Addr} {fd fdr : FuncData} {sp spr : Sp} {p1 p2 q1 q2 : Str} {E : XK} {op : Operator} {id : String} {B : Builtin} {n1 n2 : Str} (e1 : PySem.dunder op.info.2 = n1) (e2 : dunderR op.info.2 = n2) (N : NumC X.K C) (S : SlotF X.K C n1 f) (R : SlotF X.K C n2 fr)
    (t1 : ∃ fo, PySem.W.findIn X.K (.type "int") n1 = some fo) (t2 : ∃ ro, PySem.W.findIn X.K (.type "int") n2 = some ro) (hfT : fillsNumberSlot (.type "int") op.info.2 = pure true)
    (D : ∀ y dy, PySem.TPX.Dec y C dy (PySem.dunder op.info.2) id B)
    (F : FnOk X.prog X.w X.K X.mg X.base CX k f fd [p1, p2] sp) (FR : FnOk X.prog X.w X.K X.mg X.base CX k fr fdr [q1, q2] spr)
    (hr : Room k X.A) (hb : Binds X.K fd [p1, p2] []) (hbr : Binds X.K fdr [q1, q2] []) (hx : Passes CX X E) : OpR X (binaryOp op) (rOwnB C sp spr E) := by
  subst e1 e2
  obtain ⟨_, t1⟩ := t1
  obtain ⟨_, t2⟩ := t2
  exact op_ownB N S R t1 t2 hfT D F FR hr hb hbr hx
end
/-! ### growing heaps -/
theorem ext_upd {H : Hp} {p : Addr} {o : HO} (h : H p = none) : Ext H (upd H p o) := Ext.upd h
theorem ext_none {H H' : Hp} {p : Addr} (e : Ext H H') (h : H' p = none) : H p = none := by
  cases q : H p with
  | none => rfl
  | some o =>
    rw [e _ _ q] at h
    cases h
theorem ext_over {G H : Hp} {p : Addr} {o : HO} (e : Ext G H) (h : G p = none) : Ext G (upd H p o) := fun a u q => by
  have z : a ≠ p := fun z => by
    rw [z, h] at q
    cases q
  rw [upd_ne z]
  exact e _ _ q
theorem ext_both {G H : Hp} {p : Addr} {o : HO} (e : Ext G H) : Ext (upd G p o) (upd H p o) := fun a u q => by
  by_cases z : a = p
  · subst z
    rw [upd_same] at q ⊢
    exact q
  · rw [upd_ne z] at q ⊢
    exact e _ _ q
theorem ext_new {H H' : Hp} {x dx : Addr} {o u : HO} (e : Ext H H') (h1 : H x = none) (h2 : H dx = none) : Ext H (upd (upd H' dx o) x u) := ext_over (ext_over e h2) h1

/-! ### the pot of draws: a list of three ints -/
structure Pot (H : Hp) (p : Addr) (n : Nat) : Prop where
  at_ : ∃ a b c : Int, H p = some (.lst [.int a, .int b, .int c]) ∧ 0 ≤ a ∧ 0 ≤ b ∧ b < 2305843009213693952 ∧ 0 ≤ c ∧ c ≤ n
/-- the known part G, the pot beside it -/
structure WP (G : Hp) (p : Addr) (n : Nat) (H : Hp) : Prop where
  ext : Ext G H
  no : G p = none
  pot : Pot H p n
theorem WP.mono {G H : Hp} {p : Addr} {n m : Nat} (w : WP G p n H) (h : n ≤ m) : WP G p m H := by
  obtain ⟨a, b, c, e, h1, h2, h3, h4, h5⟩ := w.pot.at_
  exact ⟨w.ext, w.no, ⟨a, b, c, e, h1, h2, h3, h4, by omega⟩⟩
theorem WP.grow {G H H' : Hp} {p : Addr} {n : Nat} (w : WP G p n H) (e : Ext H H') : WP G p n H' := by
  obtain ⟨a, b, c, q, h⟩ := w.pot.at_
  exact ⟨w.ext.trans e, w.no, ⟨a, b, c, e _ _ q, h⟩⟩
/-- what is new may be known from now on -/
theorem WP.new {G H : Hp} {p x : Addr} {o : HO} {n : Nat} (w : WP G p n H) (h : H x = none) : WP (upd G x o) p n (upd H x o) := by
  obtain ⟨a, b, c, q, h2⟩ := w.pot.at_
  have ne : p ≠ x := ne_of_none q h
  exact ⟨ext_both w.ext, by rw [upd_ne ne]; exact w.no, ⟨a, b, c, by rw [upd_ne ne]; exact q, h2⟩⟩
theorem WP.ne {G H : Hp} {p x : Addr} {n : Nat} (w : WP G p n H) (h : H x = none) : p ≠ x := by
  obtain ⟨a, b, c, q, h2⟩ := w.pot.at_
  exact ne_of_none q h
/-- all of H but the pot may be known -/
def butP (H : Hp) (p : Addr) : Hp := fun b => if b = p then none else H b
theorem butP_ext {H : Hp} {p : Addr} : Ext (butP H p) H := fun a o e => by
  unfold butP at e
  split at e
  · cases e
  · exact e
theorem WP.all {G H : Hp} {p : Addr} {n : Nat} (w : WP G p n H) : WP (butP H p) p n H ∧ Ext G (butP H p) := by
  refine ⟨⟨butP_ext, if_pos rfl, w.pot⟩, fun a o e => ?_⟩
  have z : a ≠ p := fun z => by
    rw [z, w.no] at e
    cases e
  show (if a = p then none else H a) = some o
  rw [if_neg z]
  exact w.ext _ _ e
/-- a draw -/
def spTake : Sp := fun vs H Q _ => ∃ (G : Hp) (p : Addr) (n : Nat) (m : Int), vs = [.ref p, .int m] ∧ WP G p n H ∧ n ≤ 100000 ∧ 0 < m ∧ m ≤ 100000 ∧
  ∀ (r : Int) (H' : Hp), 0 ≤ r → r < m → WP G p (n + 1) H' → Q (.int r) H'
end L2.TP

/-! Layer G: data that is small enough to be shown. -/
namespace L2.TP
open PySem PySem.Spec PyProof.Rows
structure Sm (k w : Nat) (d : PyData) : Prop where
  dep : d.depth ≤ k
  wt : d.weight ≤ w
  short : d.leavesShort 13 = true
  shw : d.showable = true
structure SmA (k w : Nat) (ds : List PyData) : Prop where
  dep : PyData.depthAll ds ≤ k
  wt : PyData.weightAll ds ≤ w
  short : PyData.leavesShortAll 13 ds = true
  shw : PyData.showableAll ds = true
theorem Sm.mono {k k' w w' : Nat} {d : PyData} (h : Sm k w d) (hk : k ≤ k') (hw : w ≤ w') : Sm k' w' d := ⟨Nat.le_trans h.dep hk, Nat.le_trans h.wt hw, h.short, h.shw⟩
theorem SmA.mono {k k' w w' : Nat} {d : List PyData} (h : SmA k w d) (hk : k ≤ k') (hw : w ≤ w') : SmA k' w' d := ⟨Nat.le_trans h.dep hk, Nat.le_trans h.wt hw, h.short, h.shw⟩
theorem SmA.nil {k w : Nat} : SmA k w [] := ⟨Nat.zero_le _, Nat.zero_le _, rfl, rfl⟩
theorem SmA.cons {k w w' : Nat} {d : PyData} {ds : List PyData} (h : Sm k w d) (t : SmA k w' ds) : SmA k (w + 1 + w') (d :: ds) := by
  obtain ⟨a1, a2, a3, a4⟩ := h
  obtain ⟨b1, b2, b3, b4⟩ := t
  refine ⟨?_, ?_, ?_, ?_⟩
  · show max d.depth (PyData.depthAll ds) ≤ k
    omega
  · show d.weight + 1 + PyData.weightAll ds ≤ _
    omega
  · show (d.leavesShort 13 && PyData.leavesShortAll 13 ds) = true
    rw [a3, b3]
    rfl
  · show (d.showable && PyData.showableAll ds) = true
    rw [a4, b4]
    rfl
theorem Sm.tup {k w : Nat} {ds : List PyData} (h : SmA k w ds) : Sm (k + 1) w (.tuple ds) := ⟨by show PyData.depthAll ds + 1 ≤ _; have := h.dep; omega, h.wt, h.short, h.shw⟩
theorem Sm.lst {k w : Nat} {ds : List PyData} (h : SmA k w ds) : Sm (k + 1) w (.list ds) := ⟨by show PyData.depthAll ds + 1 ≤ _; have := h.dep; omega, h.wt, h.short, h.shw⟩
theorem Sm.non {k w : Nat} : Sm k w .none := ⟨Nat.zero_le _, Nat.zero_le _, rfl, rfl⟩
theorem Sm.bl {k w : Nat} (b : Bool) : Sm k w (.bool b) := ⟨Nat.zero_le _, Nat.zero_le _, rfl, rfl⟩
theorem log_lt {i : Int} {k : Nat} (h : i.natAbs < 2 ^ k) (hk : 0 < k) : i.natAbs.log2 < k := by
  by_cases z : i.natAbs = 0
  · rw [z]
    exact hk
  · exact (Nat.log2_lt z).mpr h
theorem Sm.int {k : Nat} {i : Int} (h : i.natAbs < 10 ^ 12) : Sm k 41 (.int i) := by
  have h2 : i.natAbs < 2 ^ 40 := Nat.lt_trans h (by decide)
  have h3 := log_lt h2 (by decide)
  refine ⟨Nat.zero_le _, ?_, ?_, ?_⟩
  · show (if i == 0 then 0 else i.natAbs.log2 + 1) ≤ 41
    split <;> omega
  · exact decide_eq_true (PyData.shown_int_le h)
  · exact decide_eq_true (by omega : i.natAbs.log2 < 1920)
theorem Sm.d40 {d : PyData} {k w : Nat} (s : Sm k w d) (hk : k ≤ 40 := by decide) : d.depth ≤ 40 := Nat.le_trans s.dep hk
theorem Sm.len {d : PyData} {k w : Nat} (s : Sm k w d) (hw : w ≤ 1000000 := by decide) : d.shown.length ≤ sizeLine := PyData.shown_fits (by decide) (by decide) s.short (Nat.le_trans (Nat.le_trans s.wt hw) (by decide))
/-- what repr asks -/
theorem rRepr_of {K : PySem.W.Frag} {H : Hp} {v : V} {d : PyData} {Q : VK} {k w : Nat} (h : Dp K H v d) (s : Sm k w d) (hk : k ≤ 40) (hw : w ≤ 1000000) (q : Q (.str d.shown) H) : rRepr K [v] H Q :=
  ⟨v, d, rfl, h, s.shw, Nat.le_trans s.dep hk, PyData.shown_fits (by decide) (by decide) s.short (Nat.le_trans (Nat.le_trans s.wt hw) (by decide)), q⟩
end L2.TP

/-! Layer H: an own class's x[i], x[i] = v, x op= y, len(x); starred items of a tuple's display. -/
namespace L2.TP
open PySem PySem.Spec PyProof.Rows
section
variable {X : Cx} {CX : CXT} {k : Nat} {C f : Addr} {fd : FuncData} {ps : List Str} {sp : Sp} {E : St → XK} {a b o i e : Expr} {ta tb to ti te : TE} {pos : Pos}

/-- a call, one level deeper -/
theorem run_in1 {pins : List (Addr × Obj)} {σ : St} {H : Hp} {s : Shared} {Q : VK} {us : List Value} {vs : List V} (F : FnOk X.prog X.w X.K X.mg X.base CX k f fd ps sp) (hr : Room (k + 1) X.A) (hb : Binds X.K fd ps []) (hx : PassesAt CX X σ (E σ))
    (I : Inv X pins σ H s) (r : Vals vs us) (h : sp vs H Q (E σ)) : wpAny (model X.prog X.w) X.A.in1 (call (.ref f) us) (EP X pins σ Q) X.xe s := by
  have hl : us.length = ps.length := by rw [← r.length]; exact F.len _ _ _ _ h
  have b := hb s us I.kIn (by rw [List.append_nil]; exact hl)
  rw [List.append_nil] at b
  refine wpAny_call (codeAny_mono (F.run X.A.in1 X.stack s H ⟨us, []⟩ us vs Q (E σ) hr.in1 I.env0.in1 b r h) fun r s' hq => ?_)
  cases r with
  | error e => exact hx pins H s e s' I hq
  | ok fl =>
    cases fl with
    | ret u => exact I.after hq
    | next => exact False.elim hq
    | brk => exact False.elim hq
    | cont => exact False.elim hq

/-- a[b], by the own class at C -/
def tGetK (C : Addr) (sp : Sp) (E : St → XK) (ta tb : TE) : TE := fun σ H Q => ta σ H fun x H1 => tb σ H1 fun y H2 => ∃ a dx fs, x = .ref a ∧ H2 a = some (.ins C dx fs) ∧ sp [x, y] H2 Q (E σ)
theorem pe_getK (S : SlotF X.K C "__getitem__" f) (hf : PySem.W.fnIn X.K f = true) (F : FnOk X.prog X.w X.K X.mg X.base CX k f fd ps sp) (hr : Room (k + 1) X.A) (hb : Binds X.K fd ps []) (hx : ∀ σ, PassesAt CX X σ (E σ))
    (h1 : PE X a ta) (h2 : PE X b tb) (hs : ∀ (x : Addr) (i : Value), subscripted b true (.ref x) i = runValue (.builtin "lifetime.subscript" ⟨[.ref x, i], []⟩) := by intros; rfl) : PE X (.Subscript a b pos) (tGetK C sp E ta tb) := by
  refine ⟨fun pins s σ H Q I h => ?_⟩
  refine Subscript_ (thn (h1.run pins s σ H _ I h) fun v s1 ⟨x, H1, I1, rx, q1⟩ => thn (h2.run pins s1 σ H1 _ I1 q1) fun u s2 ⟨y, H2, I2, ry, q2⟩ => ?_)
  obtain ⟨x0, dx, fs, rfl, ea, q⟩ := q2
  cases rx
  obtain ⟨m, Fm⟩ := I2.fr
  obtain ⟨od, J⟩ := inst_of I2 ea
  exact PySem.W.sub_K Fm I2.ok.mod.kin J S.at_ hf S.fn (run_in1 (vs := [.ref x0, y]) F hr hb (hx σ) I2 (.cons rfl (.cons ry .nil)) q) (hs _ _)

/-- o[i] = v, by the own class at C -/
def gSubK (C : Addr) (sp : Sp) (E : St → XK) (to ti : TE) : TG := fun v σ H Q => to σ H fun o H1 => ti σ H1 fun i H2 => ∃ a dx fs, o = .ref a ∧ H2 a = some (.ins C dx fs) ∧ sp [o, i, v] H2 (fun _ H3 => Q σ H3) (E σ)
theorem pg_subK (S : SlotF X.K C "__setitem__" f) (hq : PySem.W.noSeq X.K C = true) (F : FnOk X.prog X.w X.K X.mg X.base CX k f fd ps sp) (hr : Room k X.A) (hb : Binds X.K fd ps []) (hx : ∀ σ, PassesAt CX X σ (E σ)) (ho : PE X o to) (hi : PE X i ti)
    (ha : ∀ v, assign (.Subscript o i pos) X.env v = (holding [v] (eval o X.env) >>= fun ov => holding [v, ov] (eval i X.env) >>= fun iv => standAt pos >>= fun _ => holding [v, ov, iv] (setItem ov iv v) >>= fun _ => release [v, ov, iv] []) := by intro _; rfl) :
    PG X (.Subscript o i pos) (gSubK C sp E to ti) := by
  refine ⟨fun pins s σ H v u Q I r h => ?_⟩
  rw [ha]
  refine wpAny_bind (wpAny_holding (thn (ho.run pins s σ H _ I h) fun ov s1 ⟨x, H1, I1, r1, q1⟩ => ?_))
  refine wpAny_bind (wpAny_holding (thn (hi.run pins s1 σ H1 _ I1 q1) fun iv s2 ⟨y, H2, I2, r2, q2⟩ => ?_))
  obtain ⟨x0, dx, fs, rfl, ea, q⟩ := q2
  cases r1
  obtain ⟨m, Fm⟩ := I2.fr
  obtain ⟨od, J⟩ := inst_of I2 ea
  refine wpAny_bind (wpAny_standAt (wpAny_bind (wpAny_holding ?_)))
  refine PySem.W.ksp_setItem Fm I2.ok.mod.kin J hq S.at_ S.fn ?_
  exact thn (run_fnS (vs := [.ref x0, y, v]) F hr hb (hx σ) I2 (.cons rfl (.cons r2 (.cons r .nil))) q) fun _ s3 ⟨_, H3, I3, _, q3⟩ => wpAny_release ⟨σ, H3, I3, q3⟩

/-- name op= e, by the own class at C -/
def tAugK (C : Addr) (sp : Sp) (E : St → XK) (i : Nat) (te : TE) : TS := fun D σ H => ∃ x, σ[i]? = some (some x) ∧ te σ H fun y H1 => ∃ a dx fs, x = .ref a ∧ H1 a = some (.ins C dx fs) ∧ sp [x, y] H1 (fun z H2 => D.nx (σ.set i (some z)) H2) (E σ)
theorem ps_augK {n : Nat} {x : Str} {op : Operator} {pos' : Pos} (hN : X.N.Nodup) (hi : X.N[n]? = some x) (hx : X.env.scope.names.lookup x = some .local) (hc : PySem.W.selfFirst X.K C = true) (S : SlotF X.K C (dunderI op.info.2) f)
    (F : FnOk X.prog X.w X.K X.mg X.base CX k f fd ps sp) (hr : Room k X.A) (hb : Binds X.K fd ps []) (hp : ∀ σ, PassesAt CX X σ (E σ)) (he : PE X e te) : PS X (.AugAssign (.Name x pos') op e pos) (tAugK C sp E n te) := by
  refine ⟨fun pins s σ H D I h => ?_⟩
  obtain ⟨v, e1, h⟩ := h
  obtain ⟨m, hn, hl⟩ := I.loc
  obtain ⟨u, r, l⟩ := hl n x v hi e1 (.inl hx)
  refine wpAny_AugAssign_Name ?_
  have go : wpAny (model X.prog X.w) X.A (eval e X.env) (fun w s₂ => wpAny (model X.prog X.w) X.A (inplaceOp op u w) (fun r s₃ => wpAny (model X.prog X.w) X.A (storeName X.env x r) (fun _ => SP X pins D .next) X.xe s₃) X.xe s₂) X.xe s := by
    refine thn (he.run pins s σ H _ I h) fun w s1 ⟨y, H1, I1, r1, q1⟩ => ?_
    obtain ⟨x0, dx, fs, rfl, ea, q⟩ := q1
    cases r
    obtain ⟨m, Fm⟩ := I1.fr
    obtain ⟨od, J⟩ := inst_of I1 ea
    refine PySem.W.ksp_inplace Fm I1.ok.mod.kin J hc S.at_ S.fn ?_
    refine thn (run_fnS (vs := [.ref x0, y]) F hr hb (hp σ) I1 (.cons rfl (.cons r1 .nil)) q) fun z s2 ⟨zv, H2, I2, r2, q2⟩ => ?_
    exact backV r2 (store_ok I2 hN hi (.inl hx) r2 (fun s3 I3 => ⟨_, H2, I3, q2⟩) (.inr hx))
  rcases l with ⟨hk, hm⟩ | ⟨hk, c, hc', hcell⟩
  · exact wpAny_loadName_local I.ok.kind hk hn hm go
  · exfalso
    rcases hk with hk | hk
    · have : X.env.scope.names.lookup x = some .cell := hk
      rw [hx] at this
      cases this
    · have : X.env.scope.names.lookup x = some .free := hk
      rw [hx] at this
      cases this

/-- len of an own class's instance -/
def rLenK (C : Addr) (sp : Sp) : List V → Hp → VK → Prop := fun xs H Q => ∃ a dx fs, xs = [.ref a] ∧ H a = some (.ins C dx fs) ∧ sp [.ref a] H (fun v H' => ∃ n : Int, v = .int n ∧ 0 ≤ n ∧ n < 2 ^ 63 ∧ Q (.int n) H') E0
theorem call_lenK (S : SlotF X.K C "__len__" f) (F : FnOk X.prog X.w X.K X.mg X.base CX0 k f fd ps sp) (hr : Room (k + 1) X.A) (hb : Binds X.K fd ps []) : CallR X (.builtin "len") (rLenK C sp) := by
  intro pins s σ H xs us Q I r h
  obtain ⟨a, dx, fs, rfl, ea, q⟩ := h
  cases r with
  | cons r rr =>
    cases rr
    cases r
    obtain ⟨m, Fm⟩ := I.fr
    obtain ⟨od, J⟩ := inst_of I ea
    refine PySem.W.len_K Fm I.ok.mod.kin J S.at_ S.fn ?_
    refine thn (run_in1 (vs := [.ref a]) (E := fun _ => E0) F hr hb (fun _ _ _ _ _ _ z => z.elim) I (.cons rfl .nil) q) fun v s2 ⟨zv, H2, I2, r2, n, e2, n0, n1, q2⟩ => ?_
    subst e2
    obtain ⟨t, rfl⟩ := r2
    exact ⟨⟨n0, n1⟩, .int n, H2, I2.tok _, ⟨_, rfl⟩, q2⟩

/-- *e ahead of more items, e a tuple -/
def tStar (K : PySem.W.Frag) (te : TE) (t : TA) : TA := fun σ H Q => te σ H fun x H1 => ∃ a ys, x = .ref a ∧ SqT K H1 a ys ∧ t σ H1 fun xs H2 => Q (ys ++ xs) H2
theorem pa_star {es : List Expr} {t : TA} {p : Pos} (ha : PE X e te) (hr : PA X es t) : PA X (.Starred e p :: es) (tStar X.K te t) := by
  refine ⟨fun pos pins s σ H Q I h => ?_⟩
  show wpAny _ _ (spliced ((true, (do let v ← eval e X.env; standAt pos; pure v)) :: backTo pos (starEach es X.env))) _ _ s
  refine PySem.W.ks_spliced (thn (ha.run pins s σ H _ I h) fun u s1 ⟨x, H1, I1, r1, q1⟩ => ?_)
  obtain ⟨a, ys, rfl, hy, q⟩ := q1
  cases r1
  refine star_tup I1 hy fun us s2 I2 rv => ?_
  exact thn (hr.run pos pins s2 σ H1 _ I2 q) fun vs s3 ⟨xs, H2, I3, r3, q3⟩ => ⟨ys ++ xs, H2, I3, rv.append r3, q3⟩
end
end L2.TP

/-! Layer I: data with dicts within: how it stands on the heap, that it is kept, repr of it. -/
namespace L2.TP
open PySem PySem.Spec PyProof.Rows
def kD : Key → PyData
  | .inl i => .int i
  | .inr x => .str x
mutual
inductive Dq (H : Hp) : V → PyData → Prop
  | non : Dq H .non .none
  | bl (b : Bool) : Dq H (.bl b) (.bool b)
  | int (i : Int) : Dq H (.int i) (.int i)
  | str (x : Str) : Dq H (.str x) (.str x)
  | lst {a : Addr} {xs : List V} {ds : List PyData} (h : H a = some (.lst xs)) (t : DqAll H xs ds) : Dq H (.ref a) (.list ds)
  | tup {a : Addr} {xs : List V} {ds : List PyData} (h : H a = some (.tup xs)) (t : DqAll H xs ds) : Dq H (.ref a) (.tuple ds)
  | dct {a : Addr} {kvs : List (Key × V)} {ds : List (PyData × PyData)} (h : H a = some (.dK kvs)) (t : DqKv H kvs ds) : Dq H (.ref a) (.dict ds)
inductive DqAll (H : Hp) : List V → List PyData → Prop
  | nil : DqAll H [] []
  | cons {v : V} {vs : List V} {d : PyData} {ds : List PyData} (h : Dq H v d) (t : DqAll H vs ds) : DqAll H (v :: vs) (d :: ds)
inductive DqKv (H : Hp) : List (Key × V) → List (PyData × PyData) → Prop
  | nil : DqKv H [] []
  | cons {k : Key} {v : V} {vs : List (Key × V)} {d : PyData} {ds : List (PyData × PyData)} (h : Dq H v d) (t : DqKv H vs ds) : DqKv H ((k, v) :: vs) ((kD k, d) :: ds)
end
section
variable {H H' : Hp}
mutual
theorem Dq.ext (e : Ext H H') : ∀ {v : V} {d : PyData}, Dq H v d → Dq H' v d
  | _, _, .non => .non
  | _, _, .bl b => .bl b
  | _, _, .int i => .int i
  | _, _, .str x => .str x
  | _, _, .lst h t => .lst (e _ _ h) (DqAll.ext e t)
  | _, _, .tup h t => .tup (e _ _ h) (DqAll.ext e t)
  | _, _, .dct h t => .dct (e _ _ h) (DqKv.ext e t)
theorem DqAll.ext (e : Ext H H') : ∀ {v : List V} {d : List PyData}, DqAll H v d → DqAll H' v d
  | _, _, .nil => .nil
  | _, _, .cons h t => .cons (Dq.ext e h) (DqAll.ext e t)
theorem DqKv.ext (e : Ext H H') : ∀ {v : List (Key × V)} {d : List (PyData × PyData)}, DqKv H v d → DqKv H' v d
  | _, _, .nil => .nil
  | _, _, .cons h t => .cons (Dq.ext e h) (DqKv.ext e t)
end
end
/-- what is tracked at the address of the table of modules -/
def smF (o : Obj) : HO := .frz o (.own sysModules)
def SmH (H : Hp) : Prop := ∃ o, H sysModules = some (smF o)
theorem SmH.ext {H H' : Hp} (h : SmH H) (e : Ext H H') : SmH H' := by
  obtain ⟨o, q⟩ := h
  exact ⟨o, e _ _ q⟩
section
variable {X : Cx} {pins : List (Addr × Obj)} {σ : St} {H : Hp} {s : Shared}
theorem pairs_rd {es : List DictEntry} {kvs : List (Key × Value)} (p : Pairs (mixKind X.prog X.w) es kvs) : ReadsAll s.heap (es.map (·.key)) (kvs.map fun q => kD q.1) [] := by
  induction p with
  | nil => exact .nil
  | @cons e kv es kvs h1 h2 _ ih =>
    have z : Reads s.heap e.key (kD kv.1) [] := by
      have h1 : keyIs kv.1 e.key = true := h1
      rcases keyIs_shape h1 with ⟨i, t, e1, e2⟩ | ⟨x, t, e1, e2⟩
      · rw [e1, e2]
        exact .int _ _
      · rw [e1, e2]
        exact .str _ _
    exact .cons (as := []) (bs := []) z ih
theorem pairs_vals {es : List DictEntry} {kvs : List (Key × Value)} (p : Pairs (mixKind X.prog X.w) es kvs) : es.map (·.val) = kvs.map (·.2) := by
  induction p with
  | nil => rfl
  | cons _ h2 _ ih => simp only [List.map_cons, h2, ih]
theorem DqKv.keys {kvs : List (Key × V)} {ds : List (PyData × PyData)} (h : DqKv H kvs ds) : ds.map (·.1) = kvs.map fun q => kD q.1 := by
  induction kvs generalizing ds with
  | nil => cases h; rfl
  | cons p r ih =>
    cases h with
    | cons h t =>
      show _ :: _ = _ :: _
      rw [ih t]
theorem kv_keys {kvs : List (Key × V)} {vs : List (Key × Value)} (r : KV kvs vs) : vs.map (fun q => kD q.1) = kvs.map fun q => kD q.1 := by
  induction r with
  | nil => rfl
  | cons h _ ih => simp only [List.map_cons, h.1, ih]
mutual
theorem Dq.reads (I : Inv X pins σ H s) (hS : SmH H) : ∀ {v : V} {d : PyData}, Dq H v d → ∀ {u : Value}, RelV v u → ∃ as, Reads s.heap u d as ∧ sysModules ∉ as
  | _, _, .non, _, r => by
    cases r
    exact ⟨_, .none, by simp⟩
  | _, _, .bl b, _, r => by
    cases r
    exact ⟨_, .bool _, by simp⟩
  | _, _, .int i, _, r => by
    obtain ⟨t, rfl⟩ := r
    exact ⟨_, .int _ _, by simp⟩
  | _, _, .str x, _, r => by
    obtain ⟨t, rfl⟩ := r
    exact ⟨_, .str _ _, by simp⟩
  | _, _, .lst (a := a) h t, _, r => by
    cases r
    obtain ⟨z, its, n, rv, eo⟩ := I.hok _ _ h
    obtain ⟨as, rd, ns⟩ := DqAll.reads I hS t rv
    obtain ⟨oS, eS⟩ := hS
    have ne : sysModules ≠ a := fun c => by
      rw [← c, eS] at h
      cases h
    exact ⟨_, .list eo rfl rfl (by simpa using rd), by simp [ne, ns]⟩
  | _, _, .tup (a := a) h t, _, r => by
    cases r
    obtain ⟨z, its, rv, o, eo, hc, n, hd⟩ := I.hok _ _ h
    obtain ⟨as, rd, ns⟩ := DqAll.reads I hS t rv
    exact ⟨_, .tuple eo hc hd (by simpa using rd), ns⟩
  | _, _, .dct (a := a) (kvs := kvs) (ds := ds) h t, _, r => by
    cases r
    obtain ⟨z, hm, vs, rel, o, es, ep, eo, hx, hd, _, hp, _⟩ := I.hok _ _ h
    obtain ⟨bs, rd, ns⟩ := DqKv.reads I hS t rel
    have ne : sysModules ≠ a := fun c => by
      rw [← c] at hm
      simp at hm
    have kk : vs.map (fun q => kD q.1) = ds.map (·.1) := (kv_keys rel).trans t.keys.symm
    refine ⟨_, .dict (as := []) (bs := bs) eo hx.1 hd ?_ ?_, ?_⟩
    · rw [← kk]
      exact pairs_rd hp
    · rw [pairs_vals hp]
      exact rd
    · simp [ne, ns]
theorem DqAll.reads (I : Inv X pins σ H s) (hS : SmH H) : ∀ {v : List V} {d : List PyData}, DqAll H v d → ∀ {u : List Value}, Vals v u → ∃ as, ReadsAll s.heap u d as ∧ sysModules ∉ as
  | _, _, .nil, _, r => by
    cases r
    exact ⟨_, .nil, by simp⟩
  | _, _, .cons h t, _, r => by
    cases r with
    | cons r1 r2 =>
      obtain ⟨as, rd, ns⟩ := Dq.reads I hS h r1
      obtain ⟨bs, rd2, ns2⟩ := DqAll.reads I hS t r2
      exact ⟨_, .cons rd rd2, by simp [ns, ns2]⟩
theorem DqKv.reads (I : Inv X pins σ H s) (hS : SmH H) : ∀ {v : List (Key × V)} {d : List (PyData × PyData)}, DqKv H v d → ∀ {u : List (Key × Value)}, KV v u → ∃ as, ReadsAll s.heap (u.map (·.2)) (d.map (·.2)) as ∧ sysModules ∉ as
  | _, _, .nil, _, r => by
    cases r
    exact ⟨_, .nil, by simp⟩
  | _, _, .cons h t, _, r => by
    cases r with
    | cons r1 r2 =>
      obtain ⟨as, rd, ns⟩ := Dq.reads I hS h r1.2
      obtain ⟨bs, rd2, ns2⟩ := DqKv.reads I hS t r2
      exact ⟨_, .cons rd rd2, by simp [ns, ns2]⟩
end

/-- repr(x): x stands for the data d, dicts within -/
def rReprQ : List V → Hp → VK → Prop := fun xs H Q => ∃ v d, xs = [v] ∧ SmH H ∧ Dq H v d ∧ d.showable = true ∧ d.depth ≤ 40 ∧ d.shown.length ≤ sizeLine ∧ Q (.str d.shown) H
theorem call_reprQ (gA : X.A.guards = some []) {k : Nat} (hr : Room k X.A) : CallR X (.builtin "repr") rReprQ := by
  intro pins s σ H xs us Q I r h
  obtain ⟨v, d, rfl, hS, hd, sh, dep, sz, q⟩ := h
  obtain ⟨u, rfl, ru⟩ := vals1 r
  have room : X.A.units + (d.depth + 1) < cLine := by
    have := hr.un
    omega
  have main : ∀ a : Addr, u = .ref a → wpAny (model X.prog X.w) X.A (call (.builtin "repr") [u]) (EP X pins σ Q) X.xe s := fun a e => by
    subst e
    obtain ⟨as, rd, ns⟩ := Dq.reads I hS hd ru
    exact repr_of_reads' rd sh (fun _ => ns) gA room (fun _ _ e => e) (fun h' u tk hk => ⟨.str _, H, I.kept hk, ⟨_, rfl⟩, q⟩) sz
  cases hd with
  | non =>
    cases ru
    exact PySem.P.repr_of_none ⟨.str _, H, I.tok _, ⟨_, rfl⟩, q⟩
  | bl b =>
    cases ru
    exact PySem.P.repr_of_bool ⟨.str _, H, I.tok _, ⟨_, rfl⟩, q⟩
  | int i =>
    obtain ⟨t, rfl⟩ := ru
    exact PySem.P.repr_of_int (of_decide_eq_true sh) ⟨.str _, H, I.tok _, ⟨_, rfl⟩, q⟩
  | str x =>
    obtain ⟨t, rfl⟩ := ru
    exact PySem.P.repr_of_str ⟨.str _, H, I.tok _, ⟨_, rfl⟩, q⟩ sz
  | lst h t => exact main _ ru
  | tup h t => exact main _ ru
  | dct h t => exact main _ ru
end
/-- small data -/
structure Sd (k w : Nat) (d : PyData) : Prop where
  dep : d.depth ≤ k
  wt : d.weight ≤ w
  short : d.leavesShort 20 = true
  shw : d.showable = true
structure SdA (k w : Nat) (ds : List PyData) : Prop where
  dep : PyData.depthAll ds ≤ k
  wt : PyData.weightAll ds ≤ w
  short : PyData.leavesShortAll 20 ds = true
  shw : PyData.showableAll ds = true
theorem Sd.mono {k k' w w' : Nat} {d : PyData} (h : Sd k w d) (hk : k ≤ k') (hw : w ≤ w') : Sd k' w' d := ⟨Nat.le_trans h.dep hk, Nat.le_trans h.wt hw, h.short, h.shw⟩
theorem SdA.nil {k w : Nat} : SdA k w [] := ⟨Nat.zero_le _, Nat.zero_le _, rfl, rfl⟩
theorem SdA.cons {k w w' : Nat} {d : PyData} {ds : List PyData} (h : Sd k w d) (t : SdA k w' ds) : SdA k (w + 1 + w') (d :: ds) := by
  obtain ⟨a1, a2, a3, a4⟩ := h
  obtain ⟨b1, b2, b3, b4⟩ := t
  refine ⟨?_, ?_, ?_, ?_⟩
  · show max d.depth (PyData.depthAll ds) ≤ k
    omega
  · show d.weight + 1 + PyData.weightAll ds ≤ _
    omega
  · show (d.leavesShort 20 && PyData.leavesShortAll 20 ds) = true
    rw [a3, b3]
    rfl
  · show (d.showable && PyData.showableAll ds) = true
    rw [a4, b4]
    rfl
theorem Sd.tup {k w : Nat} {ds : List PyData} (h : SdA k w ds) : Sd (k + 1) w (.tuple ds) := ⟨by show PyData.depthAll ds + 1 ≤ _; have := h.dep; omega, h.wt, h.short, h.shw⟩
theorem Sd.lst {k w : Nat} {ds : List PyData} (h : SdA k w ds) : Sd (k + 1) w (.list ds) := ⟨by show PyData.depthAll ds + 1 ≤ _; have := h.dep; omega, h.wt, h.short, h.shw⟩
/-- a dict of one key -/
theorem Sd.dct1 {k w : Nat} {x : Str} {d : PyData} (h : Sd k w d) (hx : x.cps.toList.all (fun c => decide (c < 16 ^ 8)) = true) : Sd (k + 1) (x.cps.size + w + 2) (.dict [(.str x, d)]) := by
  obtain ⟨a1, a2, a3, a4⟩ := h
  refine ⟨?_, ?_, ?_, ?_⟩
  · show max (max 0 d.depth) 0 + 1 ≤ k + 1
    omega
  · show x.cps.size + d.weight + 2 + 0 ≤ _
    omega
  · show ((x.cps.toList.all fun c => decide (c < 16 ^ 8)) && d.leavesShort 20 && true) = true
    rw [hx, a3]
    rfl
  · show (true && d.showable && true) = true
    rw [a4]
    rfl
theorem Sd.d40 {d : PyData} {k w : Nat} (s : Sd k w d) (hk : k ≤ 40 := by decide) : d.depth ≤ 40 := Nat.le_trans s.dep hk
theorem Sd.len {d : PyData} {k w : Nat} (s : Sd k w d) (hw : w ≤ 100000 := by decide) : d.shown.length ≤ sizeLine := by
  have h := PyData.shown_le 20 (by decide) d s.short
  have := s.wt
  have e : (20 + 2) * d.weight ≤ 22 * 100000 := Nat.mul_le_mul (by decide) (by omega)
  rw [sizeLine_eq]
  omega
end L2.TP

/-! Layer J: an own exception that was caught and is kept as a value behind its clause. -/
namespace L2.TP
open PySem PySem.Spec PyProof.Rows
/-- an exception object of the class cls with the dict at d stands at a -/
def ExV (cls : Value) (d : Option Addr) (a : Addr) : HO := .ext fun h => ∃ (oe : Obj) (vs : Array Value), h.get? a = some oe ∧ Zc cls d oe ∧ oe.data = .fields vs
theorem exV_ok {P : Program} {w : World} {H : Hp} {h : Heap} {a : Addr} {cls : Value} {d : Option Addr} {oe : Obj} {vs : Array Value} (e : h.get? a = some oe) (z : Zc cls d oe) (hd : oe.data = .fields vs) : ObjOk P w H h a (ExV cls d a) :=
  ⟨⟨oe, vs, e, z, hd⟩, ⟨oe, e⟩, fun _ _ ⟨o, v, q, r⟩ k => ⟨o, v, k o q, r⟩⟩
section
variable {X : Cx} {pins : List (Addr × Obj)} {σ : St} {H : Hp} {s : Shared} {a : Addr} {o : HO}
/-- what stands there already is tracked from now on -/
theorem Inv.track (I : Inv X pins σ H s) (h0 : X.s_0.heap.get? a = none) (hn : H a = none) (new : ObjOk X.prog X.w (upd H a o) s.heap a o) (nL : a ≠ X.env.locals) (nC : ∀ x c, X.env.cells.lookup x = some c → c ≠ a) (nP : ∀ p ∈ X.pn ++ pins, p.1 ≠ a) : Inv X pins σ (upd H a o) s := by
  refine ⟨I.ok, I.os, I.bare, ⟨I.base.keep, I.base.slot, fun b u q n x => ?_, I.base.there, fun b xs q => ?_, fun b u xs q => ?_, fun b ps q => ?_⟩, I.loc, I.cell, ?_, fun x c e => ?_, fun p hp => ?_, fun b u e => ?_, I.len⟩
  · have ne : b ≠ a := fun z => by
      rw [z, h0] at q
      cases q
    rw [upd_ne ne]
    exact I.base.free b u q n x
  · have z := I.base.tups b xs q
    exact (upd_ne (ne_of_none z hn)).trans z
  · have z := I.base.frzs b u xs q
    exact (upd_ne (ne_of_none z hn)).trans z
  · obtain ⟨m, z⟩ := I.base.tbls b ps q
    exact ⟨m, (upd_ne (ne_of_none z hn)).trans z⟩
  · rw [upd_ne (Ne.symm nL)]
    exact I.free
  · rw [upd_ne (nC x c e)]
    exact I.freeC x c e
  · obtain ⟨p1, p2, p3⟩ := I.pin p hp
    exact ⟨p1, by rw [upd_ne (nP p hp)]; exact p2, p3⟩
  · by_cases c : b = a
    · subst c
      rw [upd_same] at e
      cases e
      exact new
    · rw [upd_ne c] at e
      refine (I.hok b u e).stay (fun _ _ _ q => q) (fun x q => ?_) fun x xs q => ?_
      · rw [upd_ne (ne_of_none q hn)]
        exact q
      · rw [upd_ne (ne_of_none q hn)]
        exact q
end
/-- what the clause wishes: behind it the exception is tracked -/
def wKeep (K : PySem.W.Frag) (c : Value) (i : Nat) (ts : Addr → Value → Option Addr → TS) (Wout : WX) (D : Ends) : WX := fun cls d σ H =>
  ∃ b, PySem.W.exmOne K cls c = some b ∧ (b = true → ∀ a, H a = none → ts a cls d { nx := fun σ' H' => H' a = none → D.nx (σ'.set i none) (upd H' a (ExV cls d a)), rt := fun _ _ => False, bk := fun _ _ => False, ct := fun _ _ => False } (σ.set i (some (.ref a))) H) ∧
    (b = false → Wout cls d σ H)
section
variable {X : Cx} {x n : Str} {c : Value} {i : Nat} {body suite : List Stmt} {b0 : Stmt} {np pos pos' : Pos} {tb : WX → TS} {ts : Addr → Value → Option Addr → TS} {Wout : WX}
theorem ps_try_keep (hs : X.stack = X.env :: X.outer) (hf : X.env.frame = some X.env.locals) (hN : X.N.Nodup) (hi : X.N[i]? = some n) (hln : X.env.kindOf n = some .local) (hex : X.ex = []) (hc : Names X x c) (tk : Takes X Wout)
    (hb : ∀ (W : WX) (pn : List (Addr × Obj)) (xe : Value → Shared → Prop), Takes (X.tr pn xe) W → PassesOwn (model X.prog X.w) X.A X.env xe → PSs (X.tr pn xe) body (tb W))
    (hsu : ∀ (a : Addr) (oe : Obj) (cls : Value) (d : Option Addr) (pn : List (Addr × Obj)), Zc cls d oe → (∃ vs, oe.data = .fields vs) → PSs (X.suite a ((a, oe) :: pn)) (b0 :: suite) (ts a cls d)) :
    PS X (.Try body [.ExceptHandler (some (.Name x np)) (some n) (b0 :: suite) pos'] [] [] pos) (fun D σ H => tb (wKeep X.K c i ts Wout D) D σ H) := by
  refine ⟨fun pins s σ H D I h => ?_⟩
  have ok := I.ok
  have frA : X.A.frames = some (X.env :: X.outer) := by rw [ok.frames, hs]
  refine wpAny_Try_except ?_
  refine wpAny_mono ((hb (wKeep X.K c i ts Wout D) (X.pn ++ pins) (fun er s2 => wpAny (model X.prog X.w) X.A (noteFrame er X.env) (fun _ s3 => wpAny (model X.prog X.w) X.A (setFlight er none) (fun _ s4 =>
    wpAny (model X.prog X.w) X.A (handleBy er X.env [.ExceptHandler (some (.Name x np)) (some n) (b0 :: suite) pos']) (SP X pins D) X.xe s4) X.xe s3) X.xe s2) (fun u s' xx => ?_) PassesOwn.looking).run [] s σ H D (I.toTry _) h) (fun fl s1 hsp => ?_) (fun e s1 he => he)
  · obtain ⟨a, B, sI, pins', σ', H', cls, d, rfl, J', nb, up, sky, na, os, ag, b, hb1, hyes, hno⟩ := xx
    have J : Inv X pins σ' H' sI := J'.ofTry ok
    have sk : Sky B (X.env :: X.outer) a (Zc cls d) X.env.locals s'.heap := by rw [← hs]; exact sky
    show wpAny (model X.prog X.w) X.A (noteFrame (.ref a) X.env) _ _ _
    refine Sky.land Zc.steady frA hf sk fun hA flA upA => ?_
    have JA : Inv X pins σ' H' { s' with heap := hA } := J.landed nb flA.1 (up.trans upA) os ag
    obtain ⟨oA, vA, eA, zA, dA⟩ := flA.there
    have nfr : a ∉ frs (X.env :: X.outer) := fun hm => by
      obtain ⟨_, o', e', hnf⟩ := flA.2.2.1.mem hm
      rw [eA] at e'
      cases e'
      exact hnf _ dA
    have nL : a ≠ X.env.locals := fun z => nfr (List.mem_filterMap.mpr ⟨X.env, List.mem_cons_self, by rw [hf, z]⟩)
    have nF : a ∉ X.fs := fun hm => by
      obtain ⟨e, he, q⟩ := List.mem_filterMap.mp hm
      exact nfr (List.mem_filterMap.mpr ⟨e, List.mem_cons_of_mem _ he, q⟩)
    -- it is new
    have nI : ∀ q, sI.heap.get? a ≠ some q := fun q z => by
      have r := nb a q z (by rw [hs]; exact nfr)
      rw [flA.2.1] at r
      cases r
    have n0 : X.s_0.heap.get? a = none := by
      cases q : X.s_0.heap.get? a with
      | none => rfl
      | some o =>
        obtain ⟨o', z⟩ := J.base.there a o q (by rw [hex]; simp)
        exact (nI _ z).elim
    have SA := JA.suite eA dA na nL nF
    refine wpAny_handleBy_cons (codeAny_handlers_test ?_) (by intro q; cases q)
    have LT : PySem.W.Looks (model X.prog X.w) hA (typeOf (.ref a)) cls := fun A Q E s k q => wpAny_typeOf_ref (k _ _ eA) (by rw [zA.1]; exact q)
    have LM := PySem.W.exm_one (M := model X.prog X.w) (JA.kIn) LT hb1
    have test : ∀ {Q : Value → Shared → Prop} {E : Value → Shared → Prop}, Q c { s' with heap := hA } → wpAny (model X.prog X.w) (X.A.mark (some (.ref a))) (eval (.Name x np) X.env) Q E { s' with heap := hA } := fun {Q E} q => by
      obtain ⟨hg, hdbg, hm | ⟨hm, hv, hnn⟩⟩ := hc
      · exact ld_glob (X := X.suite a ((a, oA) :: (X.pn ++ pins))) SA hg hm q hdbg
      · exact ld_blt (X := X.suite a ((a, oA) :: (X.pn ++ pins))) SA hg hm hv q hnn hdbg
    refine test (LM.here ?_)
    cases b with
    | true =>
      refine codeAny_handlers_suite_as ?_
      refine HandSPX.lands_againZ flA fun hC flC upC => ?_
      have JC : Inv X pins σ' H' { s' with heap := hC } := J.landed nb flC.1 ((up.trans upA).trans upC) os ag
      obtain ⟨oC, vC, eC, zC, dC⟩ := flC.there
      have SC := JC.suite eC dC na nL nF
      refine store_ok (X := X.suite a ((a, oC) :: (X.pn ++ pins))) (v := .ref a) SC hN hi (.inl hln) rfl (fun s5 S5 => ?_) (.inr hln)
      refine wpAny_mono ((hsu a oC cls d (X.pn ++ pins) zC ⟨_, dC⟩).run [] s5 _ H' _ S5 (hyes rfl a na)) (fun fl s6 hsp => ?_) (fun _ _ z => False.elim z)
      cases fl with
      | next =>
        obtain ⟨σ6, H6, S6, q6⟩ := hsp
        obtain ⟨g6, n6, _⟩ := S6.pin (a, oC) (List.mem_append_left _ List.mem_cons_self)
        have J6 : Inv X pins σ6 H6 s6 := S6.unsuite ok
        have T6 : Inv X pins σ6 (upd H6 a (ExV cls d a)) s6 := by
          refine Inv.track J6 n0 n6 (exV_ok g6 zC dC) nL (fun y cc e z => ?_) fun p hp z => ?_
          · obtain ⟨v, o, ho, hd⟩ := J6.cell y cc e
            rw [z, g6] at ho
            cases ho
            rw [dC] at hd
            cases hd
          · obtain ⟨p1, _⟩ := J.pin p hp
            rw [z] at p1
            exact nI _ p1
        exact gone_ok T6 hN hi hln fun s7 J7 => ⟨_, _, J7, q6 n6⟩
      | brk =>
        obtain ⟨σ6, H6, S6, q6⟩ := hsp
        exact q6.elim
      | cont =>
        obtain ⟨σ6, H6, S6, q6⟩ := hsp
        exact q6.elim
      | ret u =>
        obtain ⟨v6, σ6, H6, S6, r6, q6⟩ := hsp
        exact q6.elim
    | false =>
      show wpAny _ X.A (handleBy (.ref a) X.env []) _ _ _
      refine wpAny_handleBy_nil ?_
      obtain ⟨k1, k2, k3, oe, vs, tr, oT, tS, he, hz, hd, h1, hr⟩ := id flA
      unfold PySem.passOn
      refine wpAny_bind (wpAny_field he hd h1 ?_)
      rw [if_neg (show ¬ ((Value.ref tr == Value.none) = true) from by simp)]
      have fin : wpAny (model X.prog X.w) X.A (setFlight (.ref a) X.env.frame) (fun _ sF => wpAny (model X.prog X.w) X.A (throw (.ref a) : Sem Flow) (SP X pins D) X.xe sF) X.xe { s' with heap := hA } := by
        rw [hf]
        refine HandSPX.setFlight_upZ flA fun hC hhC upC => wpAny_throw (tk _ _ ?_)
        exact ⟨a, B, sI, pins, σ', H', cls, d, rfl, J, nb, (up.trans upA).trans upC, .inr (.inr (by rw [hs]; exact hhC)), na, os, ag, hno rfl⟩
      first
        | exact wpAny_bind (wpAny_pure (wpAny_bind fin))
        | exact wpAny_bind fin
  · cases fl with
    | next =>
      obtain ⟨σ', H', J', q⟩ := hsp
      exact wpAny_execs_nil ⟨σ', H', J'.ofTry ok, q⟩
    | brk =>
      obtain ⟨σ', H', J', q⟩ := hsp
      exact ⟨σ', H', J'.ofTry ok, q⟩
    | cont =>
      obtain ⟨σ', H', J', q⟩ := hsp
      exact ⟨σ', H', J'.ofTry ok, q⟩
    | ret u =>
      obtain ⟨v, σ', H', J', r, q⟩ := hsp
      exact ⟨v, σ', H', J'.ofTry ok, r, q⟩
end
end L2.TP

/-! Layer K: what may be asked of a kept exception: its fields, isinstance. -/
namespace PySem.TPX
open PySem PySem.Spec PySem.Calls PyProof.Rows PySem.W
section
variable {prog : Program} {w : World} {A : Around} {E : Value → Shared → Prop} {s : Shared} {K : Frag} {x D : Addr} {ox od : Obj}
/-- x.__class__, x an instance with a dict of the own error class at D -/
theorem exc_class {Q : Option Value → Shared → Prop} (C : L2.ExcC K D) (X : K.In s.heap) (I : InstAt s.heap x ox D (some od)) (h : Q (some (.ref D)) { s with toks := s.toks + 1 }) : wpAny (model prog w) A (getAttr? (.ref x) "__class__") Q E s := by
  have isS : (clsIn K D).isSome = true := by
    obtain ⟨cd, hc, _⟩ := any_some C.hd
    rw [hc]
    rfl
  have hf : findObj K D (some od) "__class__" = some (.bind (.builtin "getset_descriptor.__get__") (.builtin "object.__class__")) := findObj_data isS C.ha C.hn C.ht
  obtain ⟨hp, g, d, t, os⟩ := s
  have T0 := I.type (M := model prog w)
  have T1 := looks_findIn (M := model prog w) X C.hg
  have T2 := looks_findIn (M := model prog w) X C.hk
  have T3 := looks_find (M := model prog w) X I hf
  have sub : Looks (model prog w) hp (isInstance (.ref x) (.type "BaseException")) true := T0.andThen (looks_subIn X C.hs)
  have no2 : (Value.builtin "BaseException.__getattribute__" == Value.builtin "object.__getattribute__") = false := by decide +kernel
  have no1 : (onTheHeap (Value.ref D) && Value.builtin "BaseException.__getattribute__" == Value.builtin "object.__getattribute__") = false := by rw [no2]; rfl
  have no0 : (false && onTheHeap (Value.builtin "BaseException.__getattribute__")) = false := rfl
  unfold getAttr? getAttrBy? getAttrBy
  refine wpAny_bind (wpAny_mkText (wpAny_bind (wpAny_attempt (wpAny_holding (wpAny_bind (T0.at (wpAny_bind (T1.at ?_))))))))
  show wpAny _ _ (if (onTheHeap (Value.ref D) && Value.builtin "BaseException.__getattribute__" == Value.builtin "object.__getattribute__") = true then _ else _) _ _ _
  rw [no1, if_neg Bool.false_ne_true]
  unfold getAttrByItsOwn hookBefore
  refine wpAny_bind ?_
  rw [if_pos (show onTheHeap (Value.ref D) = true from rfl)]
  refine T2.at ?_
  refine wpAny_bind (wpAny_attempt (wpAny_holding ?_))
  unfold callGetattribute
  rw [no0, if_neg Bool.false_ne_true]
  unfold boundAndCalled
  rw [PySem.F.excAttr_ValueError.ga.bind (.ref x)]
  refine wpAny_bind (wpAny_pure ?_)
  show wpAny _ _ (call (.builtin "BaseException.__getattribute__") [.ref x, .str "__class__" t]) _ _ _
  refine wpAny_call (codeAny_call_builtin PySem.F.excAttr_ValueError.ga.plain PySem.F.entry_bexc_ga ?_)
  refine @check_slot (model prog w) _ _ ⟨hp, g, d, t + 1, os⟩ "BaseException.__getattribute__" "BaseException" "__getattribute__" (.ref x) [.str "__class__" t] [] _ (by decide +kernel) (by decide +kernel) sub (PySem.F.args_bexc_ga (.ref x) (.str "__class__" t)) ?_
  unfold Builtin.«object.__getattribute__»
  refine wpAny_bind (wpAny_of_eq (a := ((Value.ref x : Value), [Value.str "__class__" t])) (by first | rfl | (simp only [slotArgs]; rfl)) ?_)
  refine wpAny_bind (wpAny_pure (wpAny_bind (T0.at (wpAny_bind (T3.at ?_)))))
  show wpAny _ _ (holding [Value.builtin "object.__class__"] (call (.builtin "getset_descriptor.__get__") [.builtin "object.__class__", .ref x, .ref D]) >>= ret) _ _ _
  refine wpAny_bind (wpAny_holding (wpAny_call (class_get (s := ⟨hp, g, d, t + 1, os⟩) (ox := ox) (od := some od) X I C.hm ?_)))
  refine wpAny_pure ?_
  show wpAny _ _ (handedOut (.ref D)) _ _ _
  rw [handedOut_of (v := .ref D) rfl]
  first
    | exact wpAny_pure (wpAny_pure h)
    | exact wpAny_pure h
    | exact wpAny_pure (wpAny_bind (wpAny_pure (wpAny_pure h)))
theorem kit_exc (C : L2.ExcC K D) : KitX K (.ref x) (.ref D) (fun h => InstAt h x ox D (some od)) where
  ty := fun _ _ _ I => I.type
  it := fun _ _ X _ => by
    obtain ⟨cdD, hcD, _⟩ := any_some C.hd
    unfold clsIn at hcD
    split at hcD
    · rename_i c' d' cd' sl' ho
      intro A' Q' E' s' k q
      unfold isType loadHead
      exact wpAny_bind (wpAny_loadPart (k _ _ (X _ _ ho)) (wpAny_pure q))
    · cases hcD
  ne := fun h tp dd its n sl X htp => by
    obtain ⟨cdD, hcD, _⟩ := any_some C.hd
    refine Bool.eq_false_iff.mpr fun q => ?_
    have e : D = tp := Value.ref.inj (beq_iff_eq.mp q)
    subst e
    unfold clsIn at hcD
    split at hcD
    · rename_i c' d' cd' sl' ho
      have z := (X _ _ ho).symm.trans htp
      cases z
    · cases hcD
  ca := fun X I k => exc_class C X I k
end
end PySem.TPX
namespace L2.TP
open PySem PySem.Spec PyProof.Rows
/-- isinstance(x, c), x a kept exception -/
def rIsV (K : PySem.W.Frag) : List V → Hp → VK → Prop := fun xs H Q => ∃ (a D d : Addr) (fs : List (Str × V)) (c : V) (u : Value) (b : Bool), xs = [.ref a, c] ∧ ClsV c u ∧ H a = some (ExV (.ref D) (some d) a) ∧ H d = some (.xd fs) ∧ ExcC K D ∧ PySem.W.kitOne K (.ref D) u = some b ∧ Q (.bl b) H
/-- e.n, e a kept exception -/
def tXfV (K : PySem.W.Frag) (n : Str) (te : TE) : TE := fun σ H Q => te σ H fun x H1 => ∃ (a D d : Addr) (fs : List (Str × V)) (v : V), x = .ref a ∧ H1 a = some (ExV (.ref D) (some d) a) ∧ H1 d = some (.xd fs) ∧ XfC K D ∧ PySem.W.findIn K (.ref D) n = some none ∧ fs.lookup n = some v ∧ Q v H1
section
variable {X : Cx} {pins : List (Addr × Obj)} {σ : St} {H : Hp} {s : Shared}
theorem exV_inst {a D d : Addr} {fs : List (Str × V)} (I : Inv X pins σ H s) (e : H a = some (ExV (.ref D) (some d) a)) (ed : H d = some (.xd fs)) :
    ∃ (oe od : Obj) (mA : Str → Option Value), PySem.W.InstAt s.heap a oe D (some od) ∧ (∀ f, RelO (fs.lookup f) (mA f)) ∧ ∀ n : Str, PySem.W.lookIn n od = some (mA n) := by
  obtain ⟨⟨oe, vs, ha, hz, hd⟩, _, _⟩ := I.hok a _ e
  obtain ⟨mA, hns, hr⟩ := I.hok d _ ed
  obtain ⟨od, ho, hl⟩ := lookIn_ns hns
  exact ⟨oe, od, mA, ⟨ha, hz.1, by unfold PySem.W.notCls; rw [hd] <;> rfl, by rw [hz.2]; exact ho⟩, hr, hl⟩
theorem call_isV : CallR X (.builtin "isinstance") (rIsV X.K) := by
  intro pins s σ H xs us Q I r h
  obtain ⟨a, D, d, fs, c, u, b, rfl, hc, ea, ed, C, k, q⟩ := h
  obtain ⟨u1, u2, rfl, r1, r2⟩ := r.two
  cases r1
  have e2 := hc.eq r2
  subst e2
  obtain ⟨oe, od, mA, J, _, _⟩ := exV_inst I ea ed
  exact PySem.W.kia_one (PySem.TPX.kit_exc C) I.kIn J k (fun z => nomatch z) fun tk => ⟨.bl b, H, I.kept (t' := tk) fun _ _ z => z, rfl, q⟩
theorem pe_xfV {e : Expr} {te : TE} {pos : Pos} {n : Str} (he : PE X e te) (hb : attributeBase e n X.env (eval e X.env) = eval e X.env := by rfl) : PE X (.Attribute e n pos) (tXfV X.K n te) := by
  refine ⟨fun pins s σ H Q I h => ?_⟩
  refine attr_of hb (thn (he.run pins s σ H _ I h) fun u s1 hh => ?_)
  obtain ⟨x, H1, I1, rx, a, D, d, fs, v, rfl, ea, ed, T, hno, l, q⟩ := hh
  obtain rfl : u = Value.ref a := rx
  obtain ⟨oe, od, mA, J, hr, hl⟩ := exV_inst I1 ea ed
  obtain ⟨u, hu, ru⟩ := RelO.some_of (v := v) (o := mA n) (by rw [← l]; exact hr n)
  exact HandSPX.exc_get I1.kIn J T.ga T.gg T.exC (PySem.W.findObj_own T.hdC hno rfl (by rw [hl, hu])) (handed_of ru) ⟨v, H1, I1.tok _, ru, q⟩
end
end L2.TP

/-! Layer L: the law's own call, with tables of code objects, the table of modules tracked. -/
namespace L2.TP
open PySem PySem.Spec PyProof.Rows LamX
/-- what the law's call may lean on: cs, the code objects and their tables -/
structure CallL (K : PySem.W.Frag) (mg mb : Str → Option Value) (cs : List (Addr × Addr)) (h : Heap) : Prop where
  kin : K.In h
  ns : h.Ns mainGlobals mg
  bl : h.Ns builtinsNs mb
  bb : ∀ x : Str, x ≠ "__name__" → mb x = bootBuiltins x
  lim : h.NoLimit
  tabs : ∀ p ∈ cs, h.get? p.2 = some { cls := .none, data := .fields #[] }
  notK : ∀ p ∈ cs, K.lookup p.2 = none
  code : ∀ p ∈ cs, PySem.W.CodeHd h p.1 p.2
  bm : ∃ (bm : Addr) (ob : Obj), mg "__builtins__" = some (.ref bm) ∧ bm ≠ builtinsNs ∧ h.get? bm = some ob ∧ ob.cls = .type "module" ∧ ob.dict = some builtinsNs ∧ ob.data = .plain
  mods : ∃ mm, h.Ns sysModules mm
  modK : K.lookup sysModules = none
/-- what is tracked: the script, the tables, the modules -/
structure StartL (K : PySem.W.Frag) (cs : List (Addr × Addr)) (a : Addr) (oS : Obj) (H : Hp) : Prop where
  tab : ∀ p ∈ cs, H p.2 = some (.tbl #[])
  sm : H sysModules = some (smF oS)
  all : ∀ b, H b = none ∨ b ∈ cs.map (·.2) ∨ ∃ o u, H b = some (.frz o u)
  only : ∀ b, H b ≠ none → b = a ∨ b ∈ cs.map (·.2) ∨ b = sysModules
  notK : H a ≠ none → K.lookup a = none
section
variable {P : Program} {w : World} {K : PySem.W.Frag} {mg mb : Str → Option Value} {CX : CXT} {k : Nat} {fa a : Addr} {cs : List (Addr × Addr)} {fd : FuncData} {x : Str} {sp : Sp} {s1 : Shared} {vs : List Value} {ns : List Int} {oS : Obj} {H : Hp}
theorem CallL.modNe (C : CallL K mg mb cs s1.heap) : (∀ p ∈ cs, p.2 ≠ sysModules) := fun p hp z => by
  obtain ⟨mm, o, es, ep, e, d, _⟩ := C.mods
  rw [← z, C.tabs p hp] at e
  cases e
  cases d
/-- the part of the heap that stays -/
theorem CallL.mod (C : CallL K mg mb cs s1.heap) (S : StartL K cs a oS H) (ha : s1.heap.get? a = some { cls := .type "list", data := .seq vs.toArray }) :
    L2.Mod K mg (hidT s1.heap H) ∧ K.In (hidT s1.heap H) ∧ (hidT s1.heap H).Ns mainGlobals mg ∧ ∀ p ∈ cs, TabB (hidT s1.heap H) mg p.1 p.2 := by
  have isT : ∀ b : Addr, b ∈ cs.map (·.2) → s1.heap.get? b = some { cls := .none, data := .fields #[] } := fun b hb => by
    obtain ⟨p, hp, e⟩ := List.mem_map.mp hb
    rw [← e]
    exact C.tabs p hp
  have noD : ∀ {b : Addr} {o : Obj}, b ≠ sysModules → s1.heap.get? b = some o → (∀ vs n, o.data ≠ .seq vs n) → o.data ≠ .fields #[] → H b = none := fun {b o} nb e h1 h2 => by
    cases q : H b with
    | none => rfl
    | some u =>
      rcases S.only b (by rw [q]; simp) with z | z | z
      · rw [z, ha] at e
        cases e
        exact (h1 _ _ rfl).elim
      · rw [isT b z] at e
        cases e
        exact (h2 rfl).elim
      · exact (nb z).elim
  have nsK : ∀ {b : Addr} {m : Str → Option Value}, b ≠ sysModules → s1.heap.Ns b m → (hidT s1.heap H).Ns b m := fun {b m} nb ⟨o, es, ep, e, d, r⟩ => by
    refine ⟨o, es, ep, hidT_get e (noD nb e (fun vs n z => ?_) fun z => ?_), d, r⟩
    · rw [d] at z
      cases z
    · rw [d] at z
      cases z
  have hKb : K.In (hidT s1.heap H) := fun b o e => hidT_get (C.kin b o e) (by
    cases q : H b with
    | none => rfl
    | some u =>
      rcases S.only b (by rw [q]; simp) with z | z | z
      · rw [z] at e q
        rw [S.notK (by rw [q]; simp)] at e
        cases e
      · obtain ⟨p, hp, ep⟩ := List.mem_map.mp z
        rw [← ep, C.notK p hp] at e
        cases e
      · rw [z, C.modK] at e
        cases e)
  have g1 : mainGlobals ≠ sysModules := by decide
  have g2 : builtinsNs ≠ sysModules := by decide
  have g3 : cStatics ≠ sysModules := by decide
  refine ⟨⟨hKb, nsK g1 C.ns, ⟨mb, nsK g2 C.bl, C.bb⟩, let ⟨mc, h1, h2⟩ := C.lim; ⟨mc, nsK g3 h1, h2⟩⟩, hKb, nsK g1 C.ns, fun p hp => ?_⟩
  have hTp := C.tabs p hp
  obtain ⟨mm, oM, esM, epM, eM, dM, _⟩ := C.mods
  refine ⟨?_, ?_, fun z => ?_⟩
  · obtain ⟨o, us, file, tf, flags, tg, inF, text, tt, e1, r1, r2, r3, r4, r5, r6, r7, r8, hne⟩ := C.code p hp
    have nb : p.1 ≠ sysModules := fun z => by
      rw [z, eM] at e1
      cases e1
      rw [dM] at r2
      cases r2
    refine ⟨o, us, file, tf, flags, tg, inF, text, tt, hidT_get e1 (noD nb e1 (fun vs n z => ?_) fun z => ?_), r1, r2, r3, r4, r5, r6, r7, r8, hne⟩
    · rw [r2] at z
      cases z
    · rw [r2] at z
      cases z
      simp at r3
  · obtain ⟨bm, ob, b1, b2, b3, b4, b5, b6⟩ := C.bm
    have nG : bm ≠ mainGlobals := fun q => by
      obtain ⟨o, es, ep, e, hd, _⟩ := C.ns
      rw [q, e] at b3
      cases b3
      rw [hd] at b6
      cases b6
    have nP : bm ≠ p.2 := fun q => by
      rw [q, hTp] at b3
      cases b3
      cases b6
    have nb : bm ≠ sysModules := fun z => by
      rw [z, eM] at b3
      cases b3
      rw [dM] at b6
      cases b6
    refine ⟨bm, ob, b1, b2, nG, nP, hidT_get b3 (noD nb b3 (fun vs n z => ?_) fun z => ?_), b4, b5, b6⟩
    · rw [b6] at z
      cases z
    · rw [b6] at z
      cases z
  · obtain ⟨o, es, ep, e, hd, _⟩ := C.ns
    rw [z, hTp] at e
    cases e
    cases hd

theorem law_core (C : CallL K mg mb cs s1.heap) (S : StartL K cs a oS H) (ha : s1.heap.get? a = some { cls := .type "list", data := .seq vs.toArray }) (hg : s1.gens = #[]) (hok : HOk P w H s1.heap) (hS : SqL K H a (ns.map V.int)) (hr : Room k callerA)
    (F : ∀ base : Heap, K.In base → base.Ns mainGlobals mg → (∀ p ∈ cs, TabB base mg p.1 p.2) → FnG P w K mg base CX k fa fd [x] sp) (hbind : ∀ (s : Shared) (u : Value), BindsTo s fd ⟨[u], []⟩ [(x, u)])
    (hsp : sp [.ref a] H (fun v _ => v = .bl true) fun _ _ _ => False) (hCX : ∀ H e s', CX [] H s1 (fun _ _ _ => False) e s' → False) :
    codeAny (model P w) callerA (.call (.ref fa) ⟨[.ref a], []⟩) (fun r s' => r = .ok (.ret (.bool true)) ∧ OldK s1.heap s'.heap ∧ s'.os = s1.os ∧ AllBare s'.gens) s1 := by
  obtain ⟨hM, hKb, hns, TB⟩ := C.mod S ha
  have e0 : Env0 P w K mg (hidT s1.heap H) callerA [] s1 H := ⟨rfl, hM, fun b o e => of_hidT e, Nat.le_of_eq (hidT_size _ _), trivial, fun b hb => absurd (show b ∈ ([] : List Addr) from hb) (by simp), hok, .of_eq hg⟩
  refine codeAny_mono ((F _ hKb hns TB).run callerA [] s1 H ⟨[.ref a], []⟩ [.ref a] [.ref a] _ _ rfl hr e0 (hbind s1 (.ref a)) (.cons rfl .nil) hsp) fun r s' h => ?_
  cases r with
  | error e => exact (hCX H e s' h).elim
  | ok fl =>
    cases fl with
    | next => exact False.elim h
    | brk => exact False.elim h
    | cont => exact False.elim h
    | ret u =>
      obtain ⟨v, H', os, bare, un, hok', r', q⟩ := h
      have q' : v = .bl true := q
      subst q'
      obtain rfl : u = Value.bool true := r'
      have key : ∀ b o, b ∉ cs.map (·.2) → s1.heap.get? b = some o → s'.heap.get? b = some o := fun b o nb e => by
        rcases S.all b with z | z | ⟨ob, xs, z⟩
        · exact un.keep b o e z (fun y => absurd (show b ∈ ([] : List Addr) from y) (by simp)) (by simp)
        · exact absurd z nb
        · obtain ⟨e1, _⟩ := hok b _ z
          obtain ⟨e2, _⟩ := hok' b _ (un.frzs b ob _ z)
          rw [e] at e1
          cases e1
          exact e2
      have grown : ∀ p ∈ cs, ∃ more : Array Value, s'.heap.get? p.2 = some { cls := .none, data := .fields more } := fun p hp => by
        obtain ⟨more, z⟩ := un.tbls p.2 #[] (S.tab p hp)
        exact ⟨_, hok' p.2 _ z⟩
      refine ⟨rfl, ⟨fun b o e => ?_, fun b o e => ?_⟩, os, bare⟩
      · by_cases hb : b ∈ cs.map (·.2)
        · obtain ⟨p, hp, ep⟩ := List.mem_map.mp hb
          obtain ⟨more, hm⟩ := grown p hp
          rw [← ep] at e ⊢
          rw [C.tabs p hp] at e
          cases e
          exact .inr (.inl ⟨((C.code p hp).tab (C.tabs p hp)).isCodeTable, rfl, #[], more, rfl, by rw [Array.empty_append]; exact hm⟩)
        · exact .inl (key b o hb e)
      · by_cases hb : b ∈ cs.map (·.2)
        · obtain ⟨p, hp, ep⟩ := List.mem_map.mp hb
          obtain ⟨more, hm⟩ := grown p hp
          rw [← ep]
          exact ⟨_, hm⟩
        · exact ⟨o, key b o hb e⟩
open Classical in
theorem law_callL (C : CallL K mg mb cs s1.heap) (ha : s1.heap.get? a = some { cls := .type "list", data := .seq vs.toArray }) (hi : IntsAre vs ns) (hl : ns.length ≤ sizeLine) (hg : s1.gens = #[]) (hr : Room k callerA)
    (F : ∀ base : Heap, K.In base → base.Ns mainGlobals mg → (∀ p ∈ cs, TabB base mg p.1 p.2) → FnG P w K mg base CX k fa fd [x] sp) (hbind : ∀ (s : Shared) (u : Value), BindsTo s fd ⟨[u], []⟩ [(x, u)])
    (hsp : ∀ (H : Hp) (oS : Obj), (∀ p ∈ cs, H p.2 = some (.tbl #[])) → H sysModules = some (smF oS) → SqL K H a (ns.map V.int) → sp [.ref a] H (fun v _ => v = .bl true) fun _ _ _ => False) (hCX : ∀ H e s', CX [] H s1 (fun _ _ _ => False) e s' → False) :
    codeAny (model P w) callerA (.call (.ref fa) ⟨[.ref a], []⟩) (fun r s' => r = .ok (.ret (.bool true)) ∧ OldK s1.heap s'.heap ∧ s'.os = s1.os ∧ AllBare s'.gens) s1 := by
  have rv := vals_ints hi
  have lenV := hi.length
  obtain ⟨mm, oS, esM, epM, eM, dM, _⟩ := id C.mods
  have aM : a ≠ sysModules := fun z => by
    rw [z, eM] at ha
    cases ha
    cases dM
  have tM := C.modNe
  have tA : ∀ p ∈ cs, p.2 ≠ a := fun p hp z => by
    have q := C.tabs p hp
    rw [z, ha] at q
    have z' : Data.seq vs.toArray _ = Data.fields #[] := congrArg Obj.data (Option.some.inj q)
    cases z'
  let fr : HO := .frz { cls := .type "list", data := .seq vs.toArray } (.lst (ns.map V.int))
  let H : Hp := fun b => if b = sysModules then some (smF oS) else if b = a then (if (K.lookup a).isSome then none else some fr) else if b ∈ cs.map (·.2) then some (.tbl #[]) else none
  have H1 : H sysModules = some (smF oS) := if_pos rfl
  have H2 : H a = if (K.lookup a).isSome then none else some fr := (if_neg aM).trans (if_pos rfl)
  have H3 : ∀ p ∈ cs, H p.2 = some (.tbl #[]) := fun p hp => (if_neg (tM p hp)).trans ((if_neg (tA p hp)).trans (if_pos (List.mem_map.mpr ⟨p, hp, rfl⟩)))
  have H4 : ∀ b, b ≠ sysModules → b ≠ a → b ∉ cs.map (·.2) → H b = none := fun b h1 h2 h3 => (if_neg h1).trans ((if_neg h2).trans (if_neg h3))
  have hS : SqL K H a (ns.map V.int) := by
    cases hk : K.lookup a with
    | some o =>
      have e := C.kin a o hk
      rw [ha] at e
      cases e
      exact .inr ⟨_, vs.toArray, _, hk, rfl, rfl, rfl, by rw [List.size_toArray, lenV]; exact hl, by simpa using rv⟩
    | none =>
      rw [hk] at H2
      exact .inl (.inr ⟨_, H2⟩)
  have S : StartL K cs a oS H := by
    refine ⟨H3, H1, fun b => ?_, fun b hb => ?_, fun z => ?_⟩
    · by_cases c1 : b = sysModules
      · rw [c1]
        exact .inr (.inr ⟨_, _, H1⟩)
      · by_cases c2 : b = a
        · rw [c2]
          by_cases c : (K.lookup a).isSome
          · exact .inl (H2.trans (if_pos c))
          · exact .inr (.inr ⟨_, _, H2.trans (if_neg c)⟩)
        · by_cases c3 : b ∈ cs.map (·.2)
          · exact .inr (.inl c3)
          · exact .inl (H4 b c1 c2 c3)
    · by_cases c1 : b = sysModules
      · exact .inr (.inr c1)
      · by_cases c2 : b = a
        · exact .inl c2
        · by_cases c3 : b ∈ cs.map (·.2)
          · exact .inr (.inl c3)
          · exact absurd (H4 b c1 c2 c3) hb
    · by_cases c : (K.lookup a).isSome
      · exact absurd (H2.trans (if_pos c)) z
      · cases e : K.lookup a with
        | none => rfl
        | some o =>
          rw [e] at c
          exact absurd rfl c
  have hok : HOk P w H s1.heap := fun b u e => by
    by_cases c1 : b = sysModules
    · rw [c1] at e ⊢
      rw [H1] at e
      cases e
      exact ⟨eM, ⟨_, eM⟩⟩
    · by_cases c2 : b = a
      · rw [c2] at e ⊢
        by_cases c : (K.lookup a).isSome
        · rw [H2.trans (if_pos c)] at e
          cases e
        · rw [H2.trans (if_neg c)] at e
          cases e
          exact ⟨ha, by rw [List.length_map]; exact hl, vs, _, rv, ha⟩
      · by_cases c3 : b ∈ cs.map (·.2)
        · obtain ⟨p, hp, ep⟩ := List.mem_map.mp c3
          rw [← ep] at e ⊢
          rw [H3 p hp] at e
          cases e
          exact C.tabs p hp
        · rw [H4 b c1 c2 c3] at e
          cases e
  exact law_core C S ha hg hok hS hr F hbind (hsp H oS H3 H1 hS) hCX
end
/-- what is to be told of the law at the head's heap h -/
def LawL (l : PySem.W.OpenLaw) (w : World) (K : PySem.W.Frag) (CX : CXT) (k n : Nat) (x : Str) (mg : Str → Option Value) (fa : Addr) (h : Heap) : Prop :=
  ∃ (fd : FuncData) (cs : List (Addr × Addr)) (sp : Sp), (∀ p ∈ cs, h.get? p.2 = some { cls := .none, data := .fields #[] }) ∧ (∀ p ∈ cs, K.lookup p.2 = none) ∧ (∀ p ∈ cs, PySem.W.CodeHd h p.1 p.2) ∧ (∀ (s : Shared) (u : Value), BindsTo s fd ⟨[u], []⟩ [(x, u)]) ∧
    (∀ (H : Hp) (oS : Obj) (a : Addr) (ns : List Int), ns.length ≤ n → (∀ p ∈ cs, H p.2 = some (.tbl #[])) → H sysModules = some (smF oS) → SqL K H a (ns.map V.int) → sp [.ref a] H (fun v _ => v = .bl true) fun _ _ _ => False) ∧
    ∀ base : Heap, K.In base → base.Ns mainGlobals mg → (∀ p ∈ cs, TabB base mg p.1 p.2) → FnG l.prog w K mg base CX k fa fd [x] sp
theorem walkL {l : PySem.W.OpenLaw} {n k : Nat} {q : Program} {loose : List Str} {XP : (Str → Option Value) → Heap → Prop} {YP : World → Heap → Prop} {d : DefRec} {K : Params → PySem.W.Frag} {CX : CXT} {x : Str}
    (hn : l.most = some n) (hn2 : n ≤ sizeLine) (hdf : d.params.defaults = []) (hr : Room k callerA) (hY : ∀ (w : World) (h : Heap), YP w h → (K w.params).In h) (hm : ∀ w : World, (K w.params).lookup sysModules = none) (hi : importsNone q = true)
    (F : ∀ (w : World) (mg : Str → Option Value) (fa : Addr) (h : Heap), (∀ d ∈ recsOf q, ∃ a o fd c P, mg d.name = some (.ref a) ∧ h.get? a = some o ∧ o.data = .func fd ∧ fd.code = .ref c ∧ h.IsCode c P #[] ∧ h.TableAt c P #[]) →
      (K w.params).In h → h.Ns mainGlobals mg → mg d.name = some (.ref fa) → LawL l w (K w.params) CX k n x mg fa h)
    (hCX : ∀ (H : Hp) (s : Shared) (e : Value) (s' : Shared), CX [] H s (fun _ _ _ => False) e s' → False) :
    PySem.W.WalkO q loose XP YP l.row.toRowW d [] (fun f vs => PySem.call f vs) := by
  refine Att.attach_callB hn hdf fun w s0 s1 mg mb fa o pm cd doc a vs ns G Y ho hd hcd hmg hobj hints hlen hbits hg => ?_
  have KX := hY w _ Y
  obtain ⟨fd, cs, sp, hT, nT, C, hb, hsp, hF⟩ := F w mg fa _ G.T.tab KX G.T.g hmg
  obtain ⟨mm, hmm, _⟩ := (G.T.seer hi).mods
  exact law_callL ⟨KX, G.T.g, G.T.b, G.T.builtins, G.T.nolimit, hT, nT, C, G.T.bmain, ⟨mm, hmm⟩, hm w⟩ hobj hints (Nat.le_trans hlen hn2) hg hr hF hb (fun H oS h1 h2 h3 => hsp H oS a ns hlen h1 h2 h3) fun H e s' => hCX H s1 e s'
end L2.TP

/-! Layer M: lists of flat values counted and compared; the type of data. -/
namespace L2.TP
open PySem PySem.Spec PyProof.Rows
section
variable {X : Cx}
/-- xs.count(y), flat items -/
def rCntF (K : PySem.W.Frag) : V → List V → Hp → VK → Prop := fun x xs H Q => ∃ (p : Addr) (ys : List V) (y : V), x = .ref p ∧ xs = [y] ∧ SqL K H p ys ∧ flatV y = true ∧ ys.all flatV = true ∧ Q (.int (ys.countP fun z => eqV z y : Nat)) H
theorem cnt_of {y : V} : ∀ {ys : List V} {us : List Value}, Vals ys us → ys.all flatV = true → us.countP (eqU y) = ys.countP fun z => eqV z y
  | _, _, .nil, _ => rfl
  | z :: ys, u :: us, .cons r t, f => by
    rw [List.all_cons, Bool.and_eq_true] at f
    rw [List.countP_cons, List.countP_cons, cnt_of t f.2, eqU_of r f.1]
theorem mt_countF : MtR X "list.count" (rCntF X.K) := by
  intro pins s σ H x xs v us Q I rx rxs h
  obtain ⟨p, ys, y, rfl, rfl, hs, fy, fys, q⟩ := h
  cases rx
  obtain ⟨u, rfl, ru⟩ := rxs.one
  obtain ⟨its, rv, ⟨⟨cls, dd, data, sl⟩, n, ho, hc, hdn, hd⟩, hlen⟩ := I.list hs
  simp only at hc hd
  subst hc hd
  refine call_meets PySem.F.slot_list_count ⟨_, ho, rfl⟩ PySem.F.entry_list_count (PySem.F.args_list_count_2 _ _)
    (SeqAt.list_countAt p its.toArray n dd sl u (eqU y)) ⟨ho, fun u' hu' => mem_eqAt ru fy rv fys u' (by simpa using hu'), ?_⟩
  refine ⟨.int (ys.countP fun z => eqV z y : Nat), H, I.tok _, ⟨s.toks, ?_⟩, q⟩
  have ec : its.toArray.toList.countP (eqU y) = ys.countP fun z => eqV z y := by
    rw [List.toList_toArray]
    exact cnt_of rv fys
  show Value.int ((its.toArray.toList.countP (eqU y) : Nat) : Int) s.toks = _
  rw [ec]
/-- xs != ys, two lists of the same flat values -/
def rNeF (K : PySem.W.Frag) : R2 := fun x y H Q => ∃ (a b : Addr) (ys : List V), x = .ref a ∧ y = .ref b ∧ SqL K H a ys ∧ SqL K H b ys ∧ ys.all flatV = true ∧ Q (.bl false) H
theorem eqV_self {y : V} (f : flatV y = true) : eqV y y = true := by
  cases y <;> first | rfl | (simp [eqV]; done) | (cases f; done)
theorem op_neF (hu : X.A.units < cLine) : OpR X (compareOp .NotEq) (rNeF X.K) := by
  intro pins s σ H x y v u Q I rx ry h
  obtain ⟨a, b, ys, rfl, rfl, ha, hb, f, q⟩ := h
  cases rx
  cases ry
  obtain ⟨its, rv, ⟨⟨cls, dd, data, sl⟩, n, ho, hc, hdn, hd⟩, hlen⟩ := I.list ha
  obtain ⟨its2, rv2, ⟨⟨cls2, dd2, data2, sl2⟩, n2, ho2, hc2, hdn2, hd2⟩, hlen2⟩ := I.list hb
  simp only at hc hd hc2 hd2
  subst hc hd hc2 hd2
  have ta : s.TypeIs (.ref a) "list" := ⟨_, ho, rfl⟩
  have tb : s.TypeIs (.ref b) "list" := ⟨_, ho2, rfl⟩
  have l1 := rv.length
  have l2 := rv2.length
  have hsz : its.toArray.size = its2.toArray.size := by
    rw [List.size_toArray, List.size_toArray]
    omega
  show wpAny _ _ (richCompare .NotEq (.ref a) (.ref b)) _ _ _
  refine wpAny_richCompare_same_room (op := .NotEq) ta tb F.slot_list_ne (call_meets F.slot_list_ne ta F.entry_list_ne (F.args_list_ne_2 _ _) (SeqAt.list_neAt a b its.toArray its2.toArray n n2 dd dd2 sl sl2 hsz (fun _ => true))
    ⟨ho, ho2, fun j h1 h2 => ?_, ?_⟩) hu
  · have j1 : j < its.length := by simpa using h1
    have j2 : j < its2.length := by simpa using h2
    have jy : j < ys.length := by omega
    obtain ⟨u1, e1, r1⟩ := rv.get (List.getElem?_eq_getElem jy)
    obtain ⟨u2, e2, r2⟩ := rv2.get (List.getElem?_eq_getElem jy)
    obtain ⟨_, g1⟩ := List.getElem?_eq_some_iff.mp e1
    obtain ⟨_, g2⟩ := List.getElem?_eq_some_iff.mp e2
    have fy : flatV ys[j] = true := flat_at f (List.getElem?_eq_getElem jy)
    have z := eqAt_V (A := X.A.in1) (s := s) r1 r2 fy fy
    rw [eqV_self fy] at z
    have k1 : its.toArray[j] = u1 := by simpa using g1
    have k2 : its2.toArray[j] = u2 := by simpa using g2
    rw [k1, k2]
    exact z
  · have e : (!(List.range its.toArray.size).all fun _ => true) = false := by simp
    rw [e]
    exact ⟨(fun x => nomatch x), ⟨.bl false, H, I, rfl, q⟩⟩
end
/-- the name of the type of data -/
def tnD : PyData → String
  | .none => "NoneType"
  | .bool _ => "bool"
  | .int _ => "int"
  | .str _ => "str"
  | .list _ => "list"
  | .tuple _ => "tuple"
  | .dict _ => "dict"
theorem tyD {K : PySem.W.Frag} {H : Hp} {v : V} {d : PyData} (h : Dq H v d) : TyX K H v (.type (tnD d)) := by
  cases h with
  | non => exact .base .non
  | bl b => exact .base (.bl b)
  | int i => exact .base (.int i)
  | str x => exact .base (.str x)
  | lst h t => exact .base (.lst h)
  | tup h t => exact .base (.tup h)
  | dct h t => exact .base (.dK h)
/-- an int, or a bool -/
def intB : PyData → Bool
  | .bool _ => true
  | .int _ => true
  | _ => false
def boolB : PyData → Bool
  | .bool _ => true
  | _ => false
theorem kitI {K : PySem.W.Frag} (d : PyData) : PySem.W.kitOne K (.type (tnD d)) (.type "int") = some (intB d) := by
  cases d with
  | none => exact kit_ty (by show kitB "NoneType" "int" = some false; decide +kernel)
  | bool _ => exact kit_ty (by show kitB "bool" "int" = some true; decide +kernel)
  | int _ => exact kit_ty (by show kitB "int" "int" = some true; decide +kernel)
  | str _ => exact kit_ty (by show kitB "str" "int" = some false; decide +kernel)
  | list _ => exact kit_ty (by show kitB "list" "int" = some false; decide +kernel)
  | tuple _ => exact kit_ty (by show kitB "tuple" "int" = some false; decide +kernel)
  | dict _ => exact kit_ty (by show kitB "dict" "int" = some false; decide +kernel)
theorem kitBl {K : PySem.W.Frag} (d : PyData) : PySem.W.kitOne K (.type (tnD d)) (.type "bool") = some (boolB d) := by
  cases d with
  | none => exact kit_ty (by show kitB "NoneType" "bool" = some false; decide +kernel)
  | bool _ => exact kit_ty (by show kitB "bool" "bool" = some true; decide +kernel)
  | int _ => exact kit_ty (by show kitB "int" "bool" = some false; decide +kernel)
  | str _ => exact kit_ty (by show kitB "str" "bool" = some false; decide +kernel)
  | list _ => exact kit_ty (by show kitB "list" "bool" = some false; decide +kernel)
  | tuple _ => exact kit_ty (by show kitB "tuple" "bool" = some false; decide +kernel)
  | dict _ => exact kit_ty (by show kitB "dict" "bool" = some false; decide +kernel)
/-- an integer from lo to hi -/
def fromD (lo hi : Int) : PyData → Bool
  | .int i => decide (lo ≤ i) && decide (i ≤ hi)
  | _ => false
end L2.TP

/-! Layer N: a lambda without parameters handed to a def, what the def wishes of its exceptions told with the def's slots. -/
namespace L2.TP
open PySem PySem.Spec PyProof.Rows LamX
/-- the context of the def g (its names Ng) that X calls at s -/
abbrev gCx (X : Cx) (Ng : List Str) (x : Str) (sg : Scope) (g : Addr) (cdg : Value) (s : Shared) (H : Hp) : Cx := cxOf C8.CX0 X.prog X.w X.K X.mg X.base Ng x sg g cdg X.A X.stack s H C8.E0
section
variable {X : Cx} {pins : List (Addr × Obj)} {σ : St} {H : Hp} {s : Shared}
/-- the call of the lambda at f, in the def that got it -/
theorem pe_actS {Ng : List Str} {qg : Str} {sg : Scope} {g f c' : Addr} {cdg pm ctv : Value} {params : Arguments} {body : Expr} {scope : Scope} {k i : Nat} {a : Str} {pn : List (Addr × Obj)} {xe : Value → Shared → Prop} {W : WX} {E : St → XK} {tb : XK → TE} {p1 p2 : Pos}
    (I : Inv X pins σ H s) (L : LamS X.env.scope scope) (hf : s.heap.get? f = some (PySem.W.kla_obj "<lambda>" (X.env.qual ++ "<lambda>") params body scope (cloFrom X.env.cells scope.names []) pm c' ctv)) (hfn : H f = none) (hfr : f ∉ frs X.stack)
    (hbind : bindArgs (PySem.W.kla_fn "<lambda>" (X.env.qual ++ "<lambda>") params body scope (cloFrom X.env.cells scope.names []) pm (.ref c') ctv) ⟨[], []⟩ = pure [])
    (tk : Takes ((gCx X Ng qg sg g cdg s H).tr pn xe) W) (hW : ∀ σ' cls d H', E σ' cls d H' → W cls d σ' H') (hr : Room (k + 1) (X.A.deeper (envOfC qg sg s.heap.objs.size g cdg)))
    (hbody : ∀ (A : Around) (outer : List Env) (s : Shared) (H : Hp) (E : XK), Room k (A.deeper (lamEnv X scope s.heap.objs.size f c')) → PE (lamCx X A outer s H E scope f c') body (tb E))
    (hN : Ng[i]? = some a) (hv : Vis sg a) (hd : (a == ("__debug__" : Str)) = false := by decide) (hcd : (a == ("__classdict__" : Str)) = false := by decide) :
    PE ((gCx X Ng qg sg g cdg s H).tr pn xe) (.Call (.Name a p1) [] [] p2) (fun τ HZ Q => τ[i]? = some (some (.ref f)) ∧ HZ c' = some (CodeO c' (X.env.qual ++ "<lambda>")) ∧ tb (E τ) σ HZ Q) := by
  refine ⟨fun pZ sZ τ HZ Q IZ h => ?_⟩
  obtain ⟨hs, hc, ht⟩ := h
  refine wpAny_Call_Name_kw (thn ((pe_var (pos := p1) (i := i) hN hv hd hcd).run pZ sZ τ HZ (fun v H1 => v = .ref f ∧ H1 = HZ) IZ ⟨.ref f, hs, rfl, rfl⟩) fun u s1 hq1 => ?_)
  obtain ⟨v, H1, I1, r1, ev, eH⟩ := hq1
  subst ev
  rw [eH] at I1
  obtain rfl : u = Value.ref f := r1
  have of1 := I1.base.keep f _ hf hfn hfr (fun z => nomatch (show f ∈ ([] : List Addr) from z))
  refine PySem.W.callWith_F0 ⟨_, _, _, _, of1⟩ ?_
  have un : Un (frs X.stack) [] H HZ s.heap s1.heap := I1.base
  obtain ⟨⟨oc, vs, t, hoc, hdc, hvc⟩, _, _⟩ := I1.hok c' _ hc
  have rc : codeAny (model X.prog X.w) (X.A.deeper (envOfC qg sg s.heap.objs.size g cdg)) (.call (.ref f) ⟨[], []⟩) (CR (L2.CX X.prog X.w) (envOfC qg sg s.heap.objs.size g cdg :: X.stack) X.prog X.w HZ s1 Q (E τ)) s1 := by
    refine PySem.W.kla_callFunE hr.depth of1 rfl L.co L.gen rfl ⟨c', oc, vs, t, rfl, hoc, hdc, hvc⟩ ?_
    rw [hbind]
    refine wpAny_pure (wpAny_newFunctionEnv (fun y hy => (L.own y hy).2) (fun y hy => absurd hy (by simp)) (fun h1 hns hsb => ⟨I1.nolimit.fresh _ hsb, ?_⟩) L.kind)
    show codeAny _ _ (.expr body (lamEnv X scope s1.heap.objs.size f c')) _ _
    have kp : ∀ b o, s1.heap.get? b = some o → h1.get? b = some o := fun b o e => hsb.extBut b o (Nat.ne_of_lt (Heap.lt_size e)) (Heap.get?_push_of_some _ e)
    have J := lam_start2 (E := E τ) (f := f) (c' := c') I L I1.env0 hr.hd un hns kp (tk := s1.toks + ([] : List (Str × Value)).length)
    refine PySem.W.kla_codeExpr (wpAny_mono ((hbody _ _ s1 HZ (E τ) (hr.deeper _)).run [] _ _ HZ Q J ht) (fun v s' hq => ?_) fun e s' hq => hq)
    obtain ⟨w', H', J', rv, q⟩ := hq
    exact ⟨w', H', J'.os, J'.bare, J'.base, J'.hok, rv, q⟩
  refine wpAny_call (codeAny_mono rc fun r s' hq => ?_)
  cases r with
  | error e => exact tk e s' (XE.of_call I1 (fun cls d H' z => hW τ cls d H' z) hq)
  | ok fl =>
    cases fl with
    | ret u => exact I1.after hq
    | next => exact False.elim hq
    | brk => exact False.elim hq
    | cont => exact False.elim hq
/-- the def g calls what it got by the name a; TT: what it makes of the lambda's reading tl -/
def GivesS (X : Cx) (Ng : List Str) (x : Str) (sg : Scope) (g : Addr) (cdg : Value) (bg : List Stmt) (a : Str) (q : Str) (TT : (XK → Hp → VK → Prop) → Hp → VK → Prop) : Prop :=
  ∀ (f c' : Addr) (s : Shared) (H : Hp) (Q : VK) (tl : XK → Hp → VK → Prop),
    (∀ (W : WX) (pn : List (Addr × Obj)) (xe : Value → Shared → Prop) (E : St → XK) (p1 p2 : Pos), Takes ((gCx X Ng x sg g cdg s H).tr pn xe) W → (∀ σ' cls d H', E σ' cls d H' → W cls d σ' H') →
      PE ((gCx X Ng x sg g cdg s H).tr pn xe) (.Call (.Name a p1) [] [] p2) (fun τ HZ Q => τ[0]? = some (some (.ref f)) ∧ HZ c' = some (CodeO c' q) ∧ tl (E τ) HZ Q)) →
    H c' = some (CodeO c' q) → TT tl H Q →
    ∃ t, PSs (gCx X Ng x sg g cdg s H).nox bg t ∧ t { nx := fun _ H' => Q .non H', rt := Q } (L2.start Ng [.ref f]) H
/-- x(lambda: body) -/
theorem pe_lamS {T : List (Addr × Str)} {TT : (XK → Hp → VK → Prop) → Hp → VK → Prop} {x a : Str} {g c P : Addr} {k : Nat} {pg : Arguments} {bg : List Stmt} {sg : Scope} {dV kV doc pm cdv ct oc : Value} {an od : Option Addr} {osl : Array (Option Value)} {Ng : List Str}
    {params : Arguments} {body : Expr} {scope : Scope} {t : XK → TE} {p lpos pos : Pos} (hg : Gl X x) (hm : X.mg x = some (.ref g)) (hk : PySem.W.keepIn X.K (.ref g) = true)
    (lk : X.K.lookup g = some ⟨oc, od, .func (PySem.W.fnOf x x pg bg sg dV kV doc pm an cdv ct), osl⟩) (hcg : PySem.W.codeIn X.K cdv x = true) (hb : L2.Binds X.K (PySem.W.fnOf x x pg bg sg dV kV doc pm an cdv ct) [a] []) (Sg : FnScope Ng [a] sg) (hNg : Ng[0]? = some a) (hva : Vis sg a)
    (hG : GivesS X Ng x sg g cdv bg a (X.env.qual ++ "<lambda>") TT)
    (TB : TabB X.base X.mg c P) (hcode : X.env.code = .ref c) (hmT : (P, X.env.qual ++ "<lambda>") ∈ T) (hu : ∀ p ∈ T, p.1 = P → p.2 = X.env.qual ++ "<lambda>") (hr : Room (k + 2) X.A) (L : LamS X.env.scope scope) (hdef : defaultsOf params X.env = ([], []))
    (hbind : ∀ (q : Str) (cl : List (Str × Addr)) (pm cv ctv : Value), bindArgs (PySem.W.kla_fn "<lambda>" q params body scope cl pm cv ctv) ⟨[], []⟩ = pure [])
    (hbody : ∀ (A : Around) (outer : List Env) (s : Shared) (H : Hp) (E : XK) (f c' : Addr), Room k (A.deeper (lamEnv X scope s.heap.objs.size f c')) → PE (lamCx X A outer s H E scope f c') body (t E))
    (hdb : (x == ("__debug__" : Str)) = false := by decide) (hd : (a == ("__debug__" : Str)) = false := by decide) (hcd : (a == ("__classdict__" : Str)) = false := by decide) :
    PE X (.Call (.Name x p) [.Lambda params body scope lpos] [] pos) (tLam T TT t) := by
  refine ⟨fun pins s σ H Q I h => ?_⟩
  obtain ⟨hT, h⟩ := h
  refine wpAny_Call_Name_kw (ld_glob I hg hm ?_ hdb)
  refine PySem.W.callWith_K (h₀ := X.base) I.ok.mod.kin hk ?_ (by rfl) (by rfl)
  show wpAny _ _ (spliced ((false, eval (.Lambda params body scope lpos) X.env) :: backTo pos (starEach [] X.env))) _ _ s
  refine Calls.spliced_cons (lam_make2 I TB hcode hmT hu hT hdef (L.has I.ok) fun f c' pm' ctv H1 s' I1 eN T1 hf hfn hfr hco => ?_)
  refine Calls.spliced_nil ⟨I1.kIn, ?_⟩
  have rc : codeAny (model X.prog X.w) X.A (.call (.ref g) ⟨[.ref f], []⟩) (CR C8.CX0 X.stack X.prog X.w H1 s' Q C8.E0) s' := by
    refine run_ofS (N := Ng) (ps := [a]) (us := [.ref f]) (vs := [.ref f]) lk hcg Sg hr I1.env0 (hb s' [.ref f] I1.kIn rfl) (.cons rfl .nil) rfl fun hr' => ?_
    obtain ⟨t', ht', hq'⟩ := hG f c' s' H1 Q (fun E H' Q' => t E σ H' Q') (fun W pn xe E p1 p2 tk hW => pe_actS (i := 0) I1 L hf hfn hfr (hbind _ _ _ _ _) tk hW hr' (fun A outer s H E hr2 => hbody A outer s H E f c' hr2) hNg hva hd hcd) hco (h H1 eN T1)
    exact ⟨t', ht'.nox, hq'⟩
  refine wpAny_call (codeAny_mono rc fun r s2 hq => ?_)
  cases r with
  | error e => exact (show False from hq).elim
  | ok fl =>
    cases fl with
    | ret u => exact I1.after hq
    | next => exact False.elim hq
    | brk => exact False.elim hq
    | cont => exact False.elim hq
end
end L2.TP

/-! Layer O: what stays when a code table grows. -/
namespace L2.TP
open PySem PySem.Spec PyProof.Rows LamX
/-- the table of the code object at c is not written down -/
def noTab (K : PySem.W.Frag) (c : Addr) : Bool := match K.lookup c with
  | some ⟨_, _, .fields vs, _⟩ => match (vs[11]? : Option Value) with
    | some (.ref P) => (K.lookup P).isNone
    | _ => false
  | _ => false
theorem noTab_of {K : PySem.W.Frag} {h : Heap} {c P : Addr} (X : K.In h) (e : noTab K c = true) (t : h.TableAt c P #[]) : K.lookup P = none := by
  obtain ⟨⟨o, vs, e1, _, e3, e4⟩, _⟩ := t
  unfold noTab at e
  split at e
  · rename_i vs' _ hk
    have q := X _ _ hk
    rw [e1] at q
    cases q
    cases e3
    rw [e4] at e
    simpa using e
  · cases e
section
variable {H H' : Hp}
mutual
theorem Dq.extN (e : ExtN H H') : ∀ {v : V} {d : PyData}, Dq H v d → Dq H' v d
  | _, _, .non => .non
  | _, _, .bl b => .bl b
  | _, _, .int i => .int i
  | _, _, .str x => .str x
  | _, _, .lst h t => .lst (e _ _ h fun _ z => by cases z) (DqAll.extN e t)
  | _, _, .tup h t => .tup (e _ _ h fun _ z => by cases z) (DqAll.extN e t)
  | _, _, .dct h t => .dct (e _ _ h fun _ z => by cases z) (DqKv.extN e t)
theorem DqAll.extN (e : ExtN H H') : ∀ {v : List V} {d : List PyData}, DqAll H v d → DqAll H' v d
  | _, _, .nil => .nil
  | _, _, .cons h t => .cons (Dq.extN e h) (DqAll.extN e t)
theorem DqKv.extN (e : ExtN H H') : ∀ {v : List (Key × V)} {d : List (PyData × PyData)}, DqKv H v d → DqKv H' v d
  | _, _, .nil => .nil
  | _, _, .cons h t => .cons (Dq.extN e h) (DqKv.extN e t)
end
theorem SmH.extN (e : ExtN H H') (h : SmH H) : SmH H' := by
  obtain ⟨o, q⟩ := h
  exact ⟨o, e _ _ q fun _ z => by cases z⟩
theorem Pot.extN {p : Addr} {k : Nat} (e : ExtN H H') (h : Pot H p k) : Pot H' p k := by
  obtain ⟨a, b, c, q, r⟩ := h.at_
  exact ⟨a, b, c, e _ _ q (fun _ z => by cases z), r⟩
end
/-- all but the pot at p and the code tables -/
def KeepB (p : Addr) (H H' : Hp) : Prop := ∀ b o, b ≠ p → H b = some o → (∀ ps, o ≠ .tbl ps) → H' b = some o
theorem KeepB.refl {p : Addr} {H : Hp} : KeepB p H H := fun _ _ _ e _ => e
theorem KeepB.trans {p : Addr} {H H1 H2 : Hp} (a : KeepB p H H1) (b : KeepB p H1 H2) : KeepB p H H2 := fun c o n e t => b c o n (a c o n e t) t
theorem KeepB.ofN {p : Addr} {H H1 : Hp} (e : ExtN H H1) : KeepB p H H1 := fun c o _ q t => e c o q t
theorem KeepB.of {p : Addr} {H H1 : Hp} (e : Ext H H1) : KeepB p H H1 := fun c o _ q _ => e c o q
theorem KeepB.ofW {p : Addr} {k : Nat} {H G H1 : Hp} (e : Ext (butP H p) G) (w : WP G p k H1) : KeepB p H H1 := fun c o n q _ => w.ext _ _ (e _ _ ((if_neg n).trans q))
/-- the same for the tables -/
theorem Tabs.ofW {p : Addr} {k : Nat} {H G H1 : Hp} {T : List (Addr × Str)} (t : Tabs T H) (hp : ∃ x y z, H p = some (.lst [x, y, z])) (e : Ext (butP H p) G) (w : WP G p k H1) : Tabs T H1 := fun q hq => by
  obtain ⟨ps, h1, h2, h3⟩ := t q hq
  obtain ⟨x, y, z, ep⟩ := hp
  have ne : ∀ {b : Addr} {o : HO}, H b = some o → (∀ xs, o ≠ .lst xs) → H1 b = some o := fun {b o} eb no => by
    have nb : b ≠ p := fun c => by
      rw [c, ep] at eb
      injection eb with eb
      exact no _ eb.symm
    exact w.ext _ _ (e _ _ ((if_neg nb).trans eb))
  refine ⟨ps, ne h1 (fun _ z => by cases z), h2, fun pos cv hc => ?_⟩
  obtain ⟨c, ec, hcc⟩ := h3 pos cv hc
  exact ⟨c, ec, ne hcc (fun _ z => by cases z)⟩
end L2.TP

/-! Layer P: an own error made as a value, not raised. -/
namespace L2.TP
open PySem PySem.Spec PyProof.Rows
section
variable {X : Cx} {C : Addr} {x : Str} {fs : List Str}
/-- x(e, ..): a new error, its dict -/
def tErrV (C : Addr) (fs : List Str) (ta : TA) : TE := fun σ H Q => ta σ H fun vs H1 => vs.length = fs.length ∧ ∀ a d, H1 a = none → H1 d = none → a ≠ d → Q (.ref a) (upd (upd H1 d (.xd (fs.zip vs))) a (ExV (.ref C) (some d) a))
theorem pe_err {e : Expr} {es : List Expr} {ta : TA} {p pos : Pos} {k : Nat} (T : Err X.prog X.K X.mg x fs C) (hfs : fs.length ≤ 1000) (hex : X.ex = []) (hr : Room k X.A) (ha : PA X (e :: es) ta) (hg : Gl X x := by rfl)
    (hdb : (x == ("__debug__" : Str)) = false := by decide)
    (he : starEach (e :: es) X.env = (false, eval e X.env) :: starEach es X.env := by rfl) (hpl : (backTo pos (starEach es X.env)).any (·.1) = false := by rfl) :
    PE X (.Call (.Name x p) (e :: es) [] pos) (tErrV C fs ta) := by
  refine ⟨fun pins s σ H Q I h => ?_⟩
  obtain ⟨fI, fd, TE, hbind⟩ := T.ex
  refine wpAny_Call_Name_kw (ld_glob I hg T.gC ?_ hdb)
  refine PySem.W.callWith_K (h₀ := X.base) I.ok.mod.kin T.kC (thn (ha.run pos pins s σ H _ I h) fun us s1 hh => ?_) he hpl
  obtain ⟨vs, H1, I1, r1, hl, q1⟩ := hh
  refine ⟨I1.kIn, ?_⟩
  show wpAny _ _ (call (.ref C) us) _ _ _
  have hlim := I1.nolimit
  obtain ⟨mb, hmb, hbb⟩ := I1.mod.blt
  have hul : us.length = fs.length := r1.length.symm.trans hl
  have hgl := I1.mod.glob.keeps I1.bk
  have hbl := hmb.keeps I1.bk
  have kin := I1.kIn
  obtain ⟨hp, g, dr, tk, os⟩ := s1
  refine wpAny_call (PySem.TPX.err_made (us := us) (vs := us) TE hul (by rw [hul]; exact Nat.le_trans hfs (by decide)) kin hlim hgl hbl hbb (by have := hr.dp; omega) (fun s' x' kk => ?_) fun h' tk' a d M => ?_)
  · have z := hbind s' (.ref x' :: us) kk (by simp [hul])
    rw [List.append_nil] at z
    exact z
  show EP X pins σ Q (.ref a) ⟨h', g, dr, tk', os⟩
  obtain ⟨oe, fv, hoe, hc, hd, hdat, h1, _, _⟩ := M.obj
  obtain ⟨mA, hns, hmA⟩ := M.ns
  have na : H1 a = none := I1.hok.fresh M.new
  have nd : H1 d = none := I1.hok.fresh M.dbig
  have J : Inv X pins σ (upd H1 d (.xd (fs.zip vs))) ⟨h', g, dr, tk', os⟩ := I1.laid (t' := tk') M.keep M.dbig ⟨mA, hns, fun f => by rw [hmA f]; exact relO_zip r1 f⟩
  have out : ∀ o, hp.get? a ≠ some o := fun o z => absurd (Heap.lt_size z) (Nat.not_lt.mpr M.new)
  have n0 : X.s_0.heap.get? a = none := by
    cases q : X.s_0.heap.get? a with
    | none => rfl
    | some o =>
      obtain ⟨o', z⟩ := I1.base.there a o q (by rw [hex]; simp)
      exact (out _ z).elim
  have na2 : upd H1 d (.xd (fs.zip vs)) a = none := by
    rw [upd_ne (Ne.symm M.dne)]
    exact na
  refine ⟨.ref a, _, Inv.track J n0 na2 (exV_ok hoe ⟨hc, hd⟩ hdat) (fun z => ?_) (fun y c e z => ?_) (fun p hp' z => ?_), rfl, q1 a d na nd (Ne.symm M.dne)⟩
  · obtain ⟨m, ⟨o, es', ep, eo, _⟩, _⟩ := I1.loc
    rw [← z] at eo
    exact out _ eo
  · obtain ⟨v, o, ho, _⟩ := I1.cell y c e
    rw [z] at ho
    exact out _ ho
  · obtain ⟨p1, _⟩ := I1.pin p hp'
    rw [z] at p1
    exact out _ p1
end
end L2.TP

/-! Layer Q: an own error class called with keywords. -/
namespace PySem.TPX
open PySem PySem.Spec PySem.Calls PyProof.Rows PySem.HandSPX
section
variable {M : Model} {A : Around} {E : Value → Shared → Prop} {h : Heap} {g : Array GenState} {d : Drawn} {t : Nat} {os : OsState}
variable {nm q : Str} {C N : Addr} {bs bm bmB : List Value} {hdct : Bool} {sn : List Str} {sub : List Value} {ab : Bool} {col : Option Bool} {dd : Option Addr} {k0 k1 k2 k3 k5 : Option Value} {B newId initId : String}
theorem check_new_kw (F : ExcBaseFacts B newId initId bmB) (hT : ∀ X : String, bm.contains (.type X) = bmB.contains (.type X)) {rest : List Value} {kw : List (Str × Value)} {Q : Unit → Shared → Prop}
    (hC : h.get? C = some (excClassObj nm q C N bs bm hdct sn sub ab col dd k0 k1 k2 k3 k5 newId)) (hq : Q () ⟨h, g, d, t, os⟩) : wpAny M A (checkBuiltinCall newId ⟨.ref C :: rest, kw⟩) Q E ⟨h, g, d, t, os⟩ := by
  have cB : (Value.ref C :: bm).contains (.type B) = true := by rw [List.contains_cons, hT, F.hasB, Bool.or_true]
  have st := F.noStar
  simp only [checkBuiltinCall, F.newKind, F.newSplit, F.newRow]
  repeat (first | refine wpAny_loadPart_at hC ?_ | (refine wpAny_isSubtype_exc hC ?_; rw [cB]) | refine wpAny_staticBase_exc hC ?_ | refine wpAny_madeBy_exc hC ?_ | simp only [bne_self_eq_false, Bool.false_eq_true, if_false] | wp_step)
  exact hq
end
section
variable {prog : Program} {w : World} {A : Around} {E : Value → Shared → Prop} {R : Result → Shared → Prop} {h : Heap} {g : Array GenState} {d : Drawn} {t : Nat} {os : OsState}
variable {nm q : Str} {C N : Addr} {bs bm bmB : List Value} {hdct : Bool} {sn : List Str} {sub : List Value} {ab : Bool} {col : Option Bool} {dd : Option Addr} {k0 k1 k2 k3 k5 : Option Value} {B newId initId : String} {kw : List (Str × Value)}
open Builtin Builtin.ObjectAttr
theorem new_kw (F : ExcBaseFacts B newId initId bmB) (hT : ∀ X : String, bm.contains (.type X) = bmB.contains (.type X)) {rest : List Value}
    (hC : h.get? C = some (excClassObj nm q C N bs bm hdct sn sub ab col dd k0 k1 k2 k3 k5 newId))
    (hq : R (.ok (.ret (.ref (h.objs.size + 1)))) ⟨(h.push (W.kdv_tup rest)).push (excO C h.objs.size), g, d, t, os⟩) (hrest : rest.length ≤ sizeLine) :
    codeAny (model prog w) A (.builtin newId ⟨.ref C :: rest, kw⟩) R ⟨h, g, d, t, os⟩ := by
  have hE := F.ends
  have cB : (Value.ref C :: bm).contains (.type B) = true := by rw [List.contains_cons, hT, F.hasB, Bool.or_true]
  have cA : (Value.ref C :: bm).contains (.type "AttributeError") = false := by rw [List.contains_cons, hT, F.noAttr]; rfl
  have cN : (Value.ref C :: bm).contains (.type "NameError") = false := by rw [List.contains_cons, hT, F.noName]; rfl
  refine codeAny_builtinAt F.entry ?_
  unfold Builtin.«BaseException.__new__»
  refine wpAt_bind ?_
  show wpAt _ _ _ (stack >>= _) _ _ _
  refine wpAt_bind (wpAt_stack fun p below => wpAt_of_wpAny ?_)
  wp_walk
  refine wpAt_of_wpAny ?_
  rw [F.owner]
  repeat (first | with_reducible refine wpAny_madeHere_exc F.canon hC ?_ | with_reducible refine wpAny_loadPart_at hC ?_ | (with_reducible refine wpAny_isSubtype_exc hC ?_; first | rw [cB] | rw [cA] | rw [cN]) | wp_step)
  show R _ _
  rw [Heap.size_push]
  exact hq
theorem type_call_kw (F : ExcBaseFacts B newId initId bmB) (hT : ∀ X : String, bm.contains (.type X) = bmB.contains (.type X)) {rest : List Value} {fI : Addr} {Q : Fin → Shared → Prop}
    (hC : h.get? C = some (excClassObj nm q C N bs bm hdct sn sub ab col dd k0 k1 k2 k3 k5 newId))
    (hi : W.Looks (model prog w) h (typeLookup (.ref C) "__init__") (some (.ref fI))) (hb : ∀ self, W.Looks (model prog w) h (bindSpecial (.ref fI) self) (.ref fI, [self])) (hrest : rest.length ≤ sizeLine)
    (hq : codeAny (model prog w) A (.call (.ref fI) ⟨.ref (h.objs.size + 1) :: rest, kw⟩)
      (fun r s' => match r with | .ok (.ret v) => v = .none ∧ Q (.done (.ret (.ref (h.objs.size + 1)))) s' | .ok _ => False | .error e => E e s')
      ⟨(h.push (W.kdv_tup rest)).push (excO C h.objs.size), g, d, t, os⟩) :
    wpAny (model prog w) A (Builtin.«type.__call__» ⟨.ref C :: rest, kw⟩) Q E ⟨h, g, d, t, os⟩ := by
  repeat (first | with_reducible refine wpAny_loadPart_at hC ?_ | with_reducible refine wpAny_madeBy_exc hC ?_ | wp_step)
  refine codeAny_call_builtin_code (Code.quiet_builtin _ F.quiet) (check_new_kw F hT hC ?_)
  refine new_kw F hT hC ?_ hrest
  show wpAny _ _ _ _ _ _
  have kk : ∀ b o, h.get? b = some o → ((h.push (W.kdv_tup rest)).push (excO C h.objs.size)).get? b = some o := fun b o e => Heap.get?_push_of_some _ (Heap.get?_push_of_some _ e)
  have hC1 := kk _ _ hC
  have hgt : ((h.push (W.kdv_tup rest)).push (excO C h.objs.size)).get? (h.objs.size + 1) = some (excO C h.objs.size) := by heap_get
  have cC : (Value.ref C :: bm).contains (.ref C) = true := by simp
  have i1 := hi.keeps kk
  have b1 := (hb (.ref (h.objs.size + 1))).keeps kk
  unfold isInstance
  repeat (first | with_reducible refine wpAny_loadPart_at hgt ?_ | (with_reducible refine wpAny_isSubtype_exc hC1 ?_; rw [cC]) | wp_step)
  show wpAny _ _ (typeLookup (.ref C) _) _ _ _
  refine i1.at ?_
  refine wpAny_holding (wpAny_bind (b1.at ?_))
  refine wpAny_bind (wpAny_call (codeAny_mono hq fun r s' z => ?_))
  rcases r with e | (v | _ | _ | _) <;> first | exact z | exact z.elim | skip
  obtain ⟨rfl, z⟩ := z
  first
    | exact wpAny_pure (wpAny_pure z)
    | (wp_walk; exact z)
theorem call_kw (F : ExcBaseFacts B newId initId bmB) (hT : ∀ X : String, bm.contains (.type X) = bmB.contains (.type X)) {rest : List Value} {fI : Addr}
    (hC : h.get? C = some (excClassObj nm q C N bs bm hdct sn sub ab col dd k0 k1 k2 k3 k5 newId))
    (hi : W.Looks (model prog w) h (typeLookup (.ref C) "__init__") (some (.ref fI))) (hb : ∀ self, W.Looks (model prog w) h (bindSpecial (.ref fI) self) (.ref fI, [self])) (hrest : rest.length ≤ sizeLine)
    (hq : codeAny (model prog w) (A.under (.builtin "type.__call__" ⟨.ref C :: rest, kw⟩)) (.call (.ref fI) ⟨.ref (h.objs.size + 1) :: rest, kw⟩) (W.InitBack (h.objs.size + 1) R)
      ⟨(h.push (W.kdv_tup rest)).push (excO C h.objs.size), g, d, t, os⟩) :
    codeAny (model prog w) A (.call (.ref C) ⟨rest, kw⟩) R ⟨h, g, d, t, os⟩ := by
  have f1 := tc_lookup
  have f2 := tc_bind (.ref C)
  have hTy : (⟨h, g, d, t, os⟩ : Shared).TypeIs (.ref C) "type" := ⟨_, hC, rfl⟩
  refine codeAny_of_tree ?_
  show wpAny _ _ (callAny (.ref C) _) _ _ _
  repeat (any_goals (first | assumption | with_reducible refine wpAny_loadPart_at hC ?_ | wp_step))
  refine ⟨rfl, ?_⟩
  refine codeAny_call_builtin_at (Code.quiet_builtin _ (by decide +kernel)) entry_typeCall (wpAny_check_type_call_sub hC (type_call_kw F hT hC hi hb hrest ?_))
  refine codeAny_mono hq fun r s' z => ?_
  rcases r with e | (v | _ | _ | _) <;> exact z
end
end PySem.TPX

/-! Layer R: an own error made as a value by keywords alone. -/
namespace PySem.TPX
open PySem PySem.Spec PySem.Calls PyProof.Rows PySem.W PySem.HandSPX
section
variable {prog : Program} {w : World} {A : Around} {R : Result → Shared → Prop} {s : Shared} {K : Frag} {mg mb : Str → Option Value} {C fI : Addr} {fs : List Str} {fd : FuncData}
theorem err_madeK (T : ErrK prog K fs C fI fd) {us vs : List Value} {kw : List (Str × Value)} (hl : vs.length = fs.length) (hul : us.length ≤ sizeLine) (X : K.In s.heap) (hlim : s.heap.NoLimit)
    (hgl : s.heap.Ns mainGlobals mg) (hbl : s.heap.Ns builtinsNs mb) (hbb : ∀ x : Str, x ≠ "__name__" → mb x = bootBuiltins x) (hroom : A.depth + 1 < recursionLimit)
    (hbind : ∀ (s : Shared) (x : Addr), K.In s.heap → BindsTo s fd ⟨.ref x :: us, kw⟩ (("self", .ref x) :: fs.zip vs))
    (hq : ∀ h' tk e d, ErrMade fs vs s.heap h' e C d → R (.ok (.ret (.ref e))) { s with heap := h', toks := tk }) :
    codeAny (model prog w) A (.call (.ref C) ⟨us, kw⟩) R s := by
  obtain ⟨nm, q, N, bs, bm, sn, sub, ab, col, dd, k0, k1, k2, k3, k5, hC, hbm⟩ := T.cls
  obtain ⟨hp, g, dr, tk, os⟩ := s
  have k : ∀ b o, hp.get? b = some o → ((hp.push (kdv_tup us)).push (excO C hp.objs.size)).get? b = some o := fun b o e => Heap.get?_push_of_some _ (Heap.get?_push_of_some _ e)
  have hget : ((hp.push (kdv_tup us)).push (excO C hp.objs.size)).get? (hp.objs.size + 1) = some (excO C hp.objs.size) := by heap_get
  have hnx : K.lookup (hp.objs.size + 1) = none := by
    cases e : K.lookup (hp.objs.size + 1) with
    | none => rfl
    | some o => exact absurd (Nat.lt_of_succ_lt (Heap.lt_size (X _ _ e))) (Nat.lt_irrefl _)
  refine call_kw F.excBase_ValueError (fun Z => refsVE_contains Z bm hbm) (X _ _ hC) (looks_findIn X T.iC) (fun self => bind_fn X self T.tI) hul ?_
  refine err_init (s := ⟨(hp.push (kdv_tup us)).push (excO C hp.objs.size), g, dr, tk, os⟩) T hl (X.keeps k) (hlim.keeps k) (hgl.keeps k) (hbl.keeps k) hbb hget hnx ?_ (hbind _ _ (X.keeps k)) fun h' tk' dx I => ?_
  · show A.depth + 1 < recursionLimit
    exact hroom
  · obtain ⟨k', ⟨t1, hx⟩, dn, dne, hns⟩ := I
    have old : ∀ b o, hp.get? b = some o → h'.get? b = some o := fun b o e => k' b o (Nat.ne_of_lt (Nat.lt_succ_of_lt (Heap.lt_size e))) (k b o e)
    have z : hp.objs.size + 1 + 1 ≤ dx := by
      have q := dn
      simp only [Heap.size_push] at q
      exact q
    exact ⟨rfl, hq h' tk' (hp.objs.size + 1) dx ⟨old, Nat.le_succ _, ⟨_, _, hx, rfl, rfl, rfl, rfl, rfl, by show 4 < 6; decide⟩, Nat.le_trans (Nat.le_trans (Nat.le_succ _) (Nat.le_succ _)) z, dne, hns⟩⟩
end
end PySem.TPX
namespace L2.TP
open PySem PySem.Spec PyProof.Rows
/-- what the text says of an error x whose __init__ is given ks by name, the others from their defaults dvs -/
structure ErrW (prog : Program) (K : PySem.W.Frag) (mg : Str → Option Value) (x : Str) (fs ks : List Str) (dvs : List V) (C : Addr) : Prop where
  ex : ∃ (fI : Addr) (fd : FuncData) (its : List Value), PySem.TPX.ErrK prog K fs C fI fd ∧ Vals dvs its ∧ ∀ (s : Shared) (x : Addr) (ws : List Value), K.In s.heap → ws.length = ks.length → BindsTo s fd ⟨[.ref x], ks.zip ws⟩ (("self", .ref x) :: fs.zip (ws ++ its))
  gC : mg x = some (.ref C)
  kC : PySem.W.keepIn K (.ref C) = true
section
variable {X : Cx} {C : Addr} {x : Str} {fs ks : List Str} {dvs : List V}
def tErrK (C : Addr) (fs : List Str) (n : Nat) (dvs : List V) (tk : TA) : TE := fun σ H Q => tk σ H fun zs H1 => zs.length = n ∧ (zs ++ dvs).length = fs.length ∧ ∀ a d, H1 a = none → H1 d = none → a ≠ d → Q (.ref a) (upd (upd H1 d (.xd (fs.zip (zs ++ dvs)))) a (ExV (.ref C) (some d) a))
/-- x(k = v, ..) -/
theorem pe_errK {kws : List Keyword} {tk : TA} {p pos : Pos} {k : Nat} (T : ErrW X.prog X.K X.mg x fs ks dvs C) (hex : X.ex = []) (hr : Room k X.A) (hkw : PK X kws tk) (hg : Gl X x := by rfl)
    (hall : (backToKw pos (keywordEach kws X.env)).all (·.1.isSome) = true := by rfl) (hks : (backToKw pos (keywordEach kws X.env)).filterMap (·.1) = ks := by rfl) (hdb : (x == ("__debug__" : Str)) = false := by decide)
    (hpl : ((backTo pos (starEach [] X.env)).any (·.1) || (backToKw pos (keywordEach kws X.env)).any (·.1.isNone)) = false := by rfl) :
    PE X (.Call (.Name x p) [] kws pos) (tErrK C fs ks.length dvs tk) := by
  refine ⟨fun pins s σ H Q I h => ?_⟩
  obtain ⟨fI, fd, its, TE, rd, hbind⟩ := T.ex
  refine wpAny_Call_Name_kw (ld_glob I hg T.gC ?_ hdb)
  refine PySem.W.callWith_KW0 (h₀ := X.base) I.ok.mod.kin T.kC hall ?_ hpl
  refine thn (hkw.run pos pins s σ H _ I h) fun ws s1 hh => ?_
  obtain ⟨zs, H1, I1, r1, hl, hl2, q1⟩ := hh
  refine ⟨I1.kIn, ?_⟩
  rw [hks]
  show wpAny _ _ (call (.ref C) [] (ks.zip ws)) _ _ _
  have hlim := I1.nolimit
  obtain ⟨mb, hmb, hbb⟩ := I1.mod.blt
  have hwl : ws.length = ks.length := r1.length.symm.trans hl
  have hvl : (ws ++ its).length = fs.length := (r1.append rd).length.symm.trans hl2
  have hgl := I1.mod.glob.keeps I1.bk
  have hbl := hmb.keeps I1.bk
  have kin := I1.kIn
  obtain ⟨hp, g, dr, tk, os⟩ := s1
  refine wpAny_call (PySem.TPX.err_madeK (us := []) (vs := ws ++ its) TE hvl (by decide) kin hlim hgl hbl hbb (by have := hr.dp; omega) (fun s' x' kk => hbind s' x' ws kk hwl) fun h' tk' a d M => ?_)
  show EP X pins σ Q (.ref a) ⟨h', g, dr, tk', os⟩
  obtain ⟨oe, fv, hoe, hc, hd, hdat, h1, _, _⟩ := M.obj
  obtain ⟨mA, hns, hmA⟩ := M.ns
  have na : H1 a = none := I1.hok.fresh M.new
  have nd : H1 d = none := I1.hok.fresh M.dbig
  have J : Inv X pins σ (upd H1 d (.xd (fs.zip (zs ++ dvs)))) ⟨h', g, dr, tk', os⟩ := I1.laid (t' := tk') M.keep M.dbig ⟨mA, hns, fun f => by rw [hmA f]; exact relO_zip (r1.append rd) f⟩
  have out : ∀ o, hp.get? a ≠ some o := fun o z => absurd (Heap.lt_size z) (Nat.not_lt.mpr M.new)
  have n0 : X.s_0.heap.get? a = none := by
    cases q : X.s_0.heap.get? a with
    | none => rfl
    | some o =>
      obtain ⟨o', z⟩ := I1.base.there a o q (by rw [hex]; simp)
      exact (out _ z).elim
  have na2 : upd H1 d (.xd (fs.zip (zs ++ dvs))) a = none := by
    rw [upd_ne (Ne.symm M.dne)]
    exact na
  refine ⟨.ref a, _, Inv.track J n0 na2 (exV_ok hoe ⟨hc, hd⟩ hdat) (fun z => ?_) (fun y c e z => ?_) (fun p hp' z => ?_), rfl, q1 a d na nd (Ne.symm M.dne)⟩
  · obtain ⟨m, ⟨o, es', ep, eo, _⟩, _⟩ := I1.loc
    rw [← z] at eo
    exact out _ eo
  · obtain ⟨v, o, ho, _⟩ := I1.cell y c e
    rw [z] at ho
    exact out _ ho
  · obtain ⟨p1, _⟩ := I1.pin p hp'
    rw [z] at p1
    exact out _ p1
end
end L2.TP

/-! Layer S: drawn values: new things beside the pot, small data that is known. -/
namespace L2.TP
open PySem PySem.Spec PyProof.Rows
theorem WP.newG {G H : Hp} {p x : Addr} {n : Nat} (o : HO) (w : WP G p n H) (h : H x = none) : ∃ G', Ext G G' ∧ G' x = some o ∧ WP G' p n (upd H x o) := ⟨_, ext_upd (ext_none w.ext h), upd_same, w.new h⟩
theorem WP.newD {G H : Hp} {p x : Addr} {n : Nat} (o o' : HO) (w : WP G p n H) (h : H x = none) : ∃ G', Ext G G' ∧ G' x = some o' ∧ WP G' p n (upd (upd H x o) x o') := by
  rw [upd_upd]
  exact WP.newG o' w h
/-- small data that stands in G -/
def Val (G : Hp) (i : Nat) (v : V) : Prop := ∃ d, Dq G v d ∧ Sd (2 + i) (60 + 10 * i) d
theorem Val.ext {G G' : Hp} {i : Nat} {v : V} (h : Val G i v) (e : Ext G G') : Val G' i v := by
  obtain ⟨d, h1, h2⟩ := h
  exact ⟨d, h1.ext e, h2⟩
theorem Val.mono {G : Hp} {i j : Nat} {v : V} (h : Val G i v) (e : i ≤ j) : Val G j v := by
  obtain ⟨d, h1, h2⟩ := h
  exact ⟨d, h1, h2.mono (by omega) (by omega)⟩
theorem sd0 {d : PyData} (h : (decide (d.depth ≤ 2) && decide (d.weight ≤ 60) && d.leavesShort 20 && d.showable) = true) : Sd 2 60 d := by
  obtain ⟨h, h4⟩ := Bool.and_eq_true_iff.mp h
  obtain ⟨h, h3⟩ := Bool.and_eq_true_iff.mp h
  obtain ⟨h1, h2⟩ := Bool.and_eq_true_iff.mp h
  exact ⟨of_decide_eq_true h1, of_decide_eq_true h2, h3, h4⟩
theorem val_of {G : Hp} {v : V} (d : PyData) (h : Dq G v d) (s : (decide (d.depth ≤ 2) && decide (d.weight ≤ 60) && d.leavesShort 20 && d.showable) = true) : Val G 0 v := ⟨d, h, sd0 s⟩
theorem str_eq {x : Str} : decide (V.str x = V.str x) = true := decide_eq_true rfl
theorem tabs_put {T : List (Addr × Str)} {H : Hp} {D : Addr} {xs : List V} {o : HO} (t : LamX.Tabs T H) (hD : H D = some (.lst xs)) : LamX.Tabs T (upd H D o) := fun pr hpr => by
  obtain ⟨ps, h1, h2, h3⟩ := t pr hpr
  have nl : ∀ {b : Addr} {u : HO}, H b = some u → (∀ xs, u ≠ .lst xs) → upd H D o b = some u := fun {b u} hb no => by
    have nb : b ≠ D := fun c => by
      rw [c, hD] at hb
      injection hb with hb
      exact no _ hb.symm
    rw [upd_ne nb]
    exact hb
  refine ⟨ps, nl h1 (fun _ z => by cases z), h2, fun pos cv hc => ?_⟩
  obtain ⟨c, ec, hcc⟩ := h3 pos cv hc
  exact ⟨c, ec, nl hcc (fun _ z => by cases z)⟩
theorem sm_put {H : Hp} {D : Addr} {xs : List V} {o : HO} (t : SmH H) (hD : H D = some (.lst xs)) : SmH (upd H D o) := by
  obtain ⟨oS, e⟩ := t
  have nb : sysModules ≠ D := fun c => by
    rw [c, hD] at e
    cases e
  exact ⟨oS, (upd_ne nb).trans e⟩
/-- the script is kept -/
theorem sq_keep {K : PySem.W.Frag} {H H' : Hp} {a : Addr} {xs : List V} (h : SqL K H a xs) (k : ∀ o, H a = some o → (∀ ps, o ≠ .tbl ps) → H' a = some o) : SqL K H' a xs := by
  rcases h with (h | ⟨o, h⟩) | h
  · exact .inl (.inl (k _ h fun _ z => by cases z))
  · exact .inl (.inr ⟨o, k _ h fun _ z => by cases z⟩)
  · exact .inr h
/-- small ints -/
theorem sd_int {i : Int} (h0 : 0 ≤ i) (h1 : i < 10) : Sd 0 4 (.int i) := by
  have h : i = 0 ∨ i = 1 ∨ i = 2 ∨ i = 3 ∨ i = 4 ∨ i = 5 ∨ i = 6 ∨ i = 7 ∨ i = 8 ∨ i = 9 := by omega
  rcases h with rfl | rfl | rfl | rfl | rfl | rfl | rfl | rfl | rfl | rfl
  all_goals exact ⟨by decide, by decide +kernel, by decide +kernel, by decide +kernel⟩
theorem SdA.mono {k k' w w' : Nat} {d : List PyData} (h : SdA k w d) (hk : k ≤ k') (hw : w ≤ w') : SdA k' w' d := ⟨Nat.le_trans h.dep hk, Nat.le_trans h.wt hw, h.short, h.shw⟩
/-- a list of small things -/
theorem sdA_of {k w : Nat} : ∀ {ds : List PyData}, (∀ d ∈ ds, Sd k w d) → SdA k ((w + 1) * ds.length) ds
  | [], _ => SdA.nil
  | d :: ds, h => by
    refine (SdA.cons (h d List.mem_cons_self) (sdA_of fun e he => h e (List.mem_cons_of_mem _ he))).mono (Nat.le_refl _) ?_
    rw [List.length_cons, Nat.mul_succ]
    omega
/-- ints as data -/
theorem dqAll_ints {H : Hp} : ∀ {ns : List Int}, DqAll H (ns.map V.int) (ns.map PyData.int)
  | [] => .nil
  | _ :: _ => .cons (.int _) dqAll_ints
theorem dqAll_app {H : Hp} : ∀ {xs ys : List V} {ds es : List PyData}, DqAll H xs ds → DqAll H ys es → DqAll H (xs ++ ys) (ds ++ es)
  | _, _, _, _, .nil, h => h
  | _, _, _, _, .cons a t, h => .cons a (dqAll_app t h)
theorem sdA_app {k w w' : Nat} : ∀ {ds es : List PyData}, SdA k w ds → SdA k w' es → SdA k (w + w') (ds ++ es)
  | [], es, _, h => h.mono (Nat.le_refl _) (Nat.le_add_left _ _)
  | d :: ds, es, ⟨a1, a2, a3, a4⟩, h => by
    have a1 : max d.depth (PyData.depthAll ds) ≤ k := a1
    have a2 : d.weight + 1 + PyData.weightAll ds ≤ w := a2
    have a3 : (d.leavesShort 20 && PyData.leavesShortAll 20 ds) = true := a3
    have a4 : (d.showable && PyData.showableAll ds) = true := a4
    obtain ⟨a3, b3⟩ := Bool.and_eq_true_iff.mp a3
    obtain ⟨a4, b4⟩ := Bool.and_eq_true_iff.mp a4
    have t := sdA_app (ds := ds) (w := w - d.weight - 1) ⟨by omega, by omega, b3, b4⟩ h
    exact (SdA.cons (d := d) (k := k) (w := d.weight) ⟨by omega, Nat.le_refl _, a3, a4⟩ t).mono (Nat.le_refl _) (by omega)
theorem WP.over {G H : Hp} {p D : Addr} {o o' : HO} {m : Nat} (w : WP (upd G D o) p m H) (h : G D = none) : WP (upd G D o') p m (upd H D o') := by
  have ne : p ≠ D := fun z => by
    have := w.no
    rw [z, upd_same] at this
    cases this
  obtain ⟨a, b, c, q, h2⟩ := w.pot.at_
  have n1 := w.no
  rw [upd_ne ne] at n1
  exact ⟨ext_both ((ext_upd h).trans w.ext), by rw [upd_ne ne]; exact n1, ⟨a, b, c, by rw [upd_ne ne]; exact q, h2⟩⟩
end L2.TP

/-! Layer T: an own error made as a value by position, its last fields from their defaults. -/
namespace L2.TP
open PySem PySem.Spec PyProof.Rows
/-- what the text says of an error x whose __init__ is given np things by position, the others from their defaults dvs -/
structure ErrP (prog : Program) (K : PySem.W.Frag) (mg : Str → Option Value) (x : Str) (fs : List Str) (np : Nat) (dvs : List V) (C : Addr) : Prop where
  ex : ∃ (fI : Addr) (fd : FuncData) (its : List Value), PySem.TPX.ErrK prog K fs C fI fd ∧ Vals dvs its ∧ ∀ (s : Shared) (x : Addr) (us : List Value), K.In s.heap → us.length = np → BindsTo s fd ⟨.ref x :: us, []⟩ (("self", .ref x) :: fs.zip (us ++ its))
  gC : mg x = some (.ref C)
  kC : PySem.W.keepIn K (.ref C) = true
section
variable {X : Cx} {C : Addr} {x : Str} {fs : List Str} {np : Nat} {dvs : List V}
def tErrP (C : Addr) (fs : List Str) (np : Nat) (dvs : List V) (ta : TA) : TE := fun σ H Q => ta σ H fun vs H1 => vs.length = np ∧ (vs ++ dvs).length = fs.length ∧ ∀ a d, H1 a = none → H1 d = none → a ≠ d → Q (.ref a) (upd (upd H1 d (.xd (fs.zip (vs ++ dvs)))) a (ExV (.ref C) (some d) a))
theorem pe_errP {e : Expr} {es : List Expr} {ta : TA} {p pos : Pos} {k : Nat} (T : ErrP X.prog X.K X.mg x fs np dvs C) (hnp : np ≤ 1000) (hex : X.ex = []) (hr : Room k X.A) (ha : PA X (e :: es) ta) (hg : Gl X x := by rfl)
    (hdb : (x == ("__debug__" : Str)) = false := by decide)
    (he : starEach (e :: es) X.env = (false, eval e X.env) :: starEach es X.env := by rfl) (hpl : (backTo pos (starEach es X.env)).any (·.1) = false := by rfl) :
    PE X (.Call (.Name x p) (e :: es) [] pos) (tErrP C fs np dvs ta) := by
  refine ⟨fun pins s σ H Q I h => ?_⟩
  obtain ⟨fI, fd, its, TE, rd, hbind⟩ := T.ex
  refine wpAny_Call_Name_kw (ld_glob I hg T.gC ?_ hdb)
  refine PySem.W.callWith_K (h₀ := X.base) I.ok.mod.kin T.kC (thn (ha.run pos pins s σ H _ I h) fun us s1 hh => ?_) he hpl
  obtain ⟨vs, H1, I1, r1, hl, hl2, q1⟩ := hh
  refine ⟨I1.kIn, ?_⟩
  show wpAny _ _ (call (.ref C) us) _ _ _
  have hlim := I1.nolimit
  obtain ⟨mb, hmb, hbb⟩ := I1.mod.blt
  have hul : us.length = np := r1.length.symm.trans hl
  have hvl : (us ++ its).length = fs.length := (r1.append rd).length.symm.trans hl2
  have hgl := I1.mod.glob.keeps I1.bk
  have hbl := hmb.keeps I1.bk
  have kin := I1.kIn
  obtain ⟨hp, g, dr, tk, os⟩ := s1
  refine wpAny_call (PySem.TPX.err_made (us := us) (vs := us ++ its) TE hvl (by rw [hul]; exact Nat.le_trans hnp (by decide)) kin hlim hgl hbl hbb (by have := hr.dp; omega) (fun s' x' kk => hbind s' x' us kk hul) fun h' tk' a d M => ?_)
  show EP X pins σ Q (.ref a) ⟨h', g, dr, tk', os⟩
  obtain ⟨oe, fv, hoe, hc, hd, hdat, h1, _, _⟩ := M.obj
  obtain ⟨mA, hns, hmA⟩ := M.ns
  have na : H1 a = none := I1.hok.fresh M.new
  have nd : H1 d = none := I1.hok.fresh M.dbig
  have J : Inv X pins σ (upd H1 d (.xd (fs.zip (vs ++ dvs)))) ⟨h', g, dr, tk', os⟩ := I1.laid (t' := tk') M.keep M.dbig ⟨mA, hns, fun f => by rw [hmA f]; exact relO_zip (r1.append rd) f⟩
  have out : ∀ o, hp.get? a ≠ some o := fun o z => absurd (Heap.lt_size z) (Nat.not_lt.mpr M.new)
  have n0 : X.s_0.heap.get? a = none := by
    cases q : X.s_0.heap.get? a with
    | none => rfl
    | some o =>
      obtain ⟨o', z⟩ := I1.base.there a o q (by rw [hex]; simp)
      exact (out _ z).elim
  have na2 : upd H1 d (.xd (fs.zip (vs ++ dvs))) a = none := by
    rw [upd_ne (Ne.symm M.dne)]
    exact na
  refine ⟨.ref a, _, Inv.track J n0 na2 (exV_ok hoe ⟨hc, hd⟩ hdat) (fun z => ?_) (fun y c e z => ?_) (fun p hp' z => ?_), rfl, q1 a d na nd (Ne.symm M.dne)⟩
  · obtain ⟨m, ⟨o, es', ep, eo, _⟩, _⟩ := I1.loc
    rw [← z] at eo
    exact out _ eo
  · obtain ⟨v, o, ho, _⟩ := I1.cell y c e
    rw [z] at ho
    exact out _ ho
  · obtain ⟨p1, _⟩ := I1.pin p hp'
    rw [z] at p1
    exact out _ p1
end
end L2.TP

namespace K03
open PySem PySem.Spec PyProof.Rows L2 L2.TP
def topS (i : Nat) : Stmt := PySem.Challenge.pw_tapedonce_k03_what_makes_no_row_and_faul.main.body.getD i (.Pass ⟨0, 0, 0, 0⟩)
abbrev s_is_integer : Stmt := topS 9
abbrev N_is_integer : List Str := ["value"]
theorem sc_is_integer : FnScope N_is_integer ["value"] (defScope s_is_integer) := ⟨rfl, rfl, rfl, by decide +kernel, rfl, by decide +kernel, by decide +kernel⟩
abbrev s_is_from : Stmt := topS 10
abbrev N_is_from : List Str := ["value", "low", "high"]
theorem sc_is_from : FnScope N_is_from ["value", "low", "high"] (defScope s_is_from) := ⟨rfl, rfl, rfl, by decide +kernel, rfl, by decide +kernel, by decide +kernel⟩
abbrev s_are_items : Stmt := topS 24
abbrev N_are_items : List Str := ["size", "most", "value", "one"]
theorem sc_are_items : FnScope N_are_items ["size", "most", "value"] (defScope s_are_items) := ⟨rfl, rfl, rfl, by decide +kernel, rfl, by decide +kernel, by decide +kernel⟩
abbrev s_Row___init__ : Stmt := inClass (topS 25) 0
abbrev N_Row___init__ : List Str := ["self", "size", "most", "items"]
theorem sc_Row___init__ : FnScope N_Row___init__ ["self", "size", "most", "items"] (defScope s_Row___init__) := ⟨rfl, rfl, rfl, by decide +kernel, rfl, by decide +kernel, by decide +kernel⟩
abbrev s_Row_worths : Stmt := inClass (topS 25) 1
abbrev N_Row_worths : List Str := ["self"]
theorem sc_Row_worths : FnScope N_Row_worths ["self"] (defScope s_Row_worths) := ⟨rfl, rfl, rfl, by decide +kernel, rfl, by decide +kernel, by decide +kernel⟩
abbrev s__law_pot : Stmt := topS 27
abbrev N__law_pot : List Str := ["_law_script", "_law_k", "_law_cell", "_law_own"]
theorem sc__law_pot : FnScope N__law_pot ["_law_script", "_law_k"] (defScope s__law_pot) := ⟨rfl, rfl, rfl, by decide +kernel, rfl, by decide +kernel, by decide +kernel⟩
abbrev s__law_take : Stmt := topS 28
abbrev N__law_take : List Str := ["_law_pot_here", "_law_upto", "_law_digit", "_law_prime", "_law_mixed"]
theorem sc__law_take : FnScope N__law_take ["_law_pot_here", "_law_upto"] (defScope s__law_take) := ⟨rfl, rfl, rfl, by decide +kernel, rfl, by decide +kernel, by decide +kernel⟩
abbrev s__law_of : Stmt := topS 29
abbrev N__law_of : List Str := ["_law_pot_here", "_law_some"]
theorem sc__law_of : FnScope N__law_of ["_law_pot_here", "_law_some"] (defScope s__law_of) := ⟨rfl, rfl, rfl, by decide +kernel, rfl, by decide +kernel, by decide +kernel⟩
abbrev s__law_any : Stmt := topS 30
abbrev N__law_any : List Str := ["_law_pot_here", "_law_some", "_law_found", "_law_turn"]
theorem sc__law_any : FnScope N__law_any ["_law_pot_here"] (defScope s__law_any) := ⟨rfl, rfl, rfl, by decide +kernel, rfl, by decide +kernel, by decide +kernel⟩
abbrev s__law_drawn : Stmt := topS 31
abbrev N__law_drawn : List Str := ["_law_pot_here", "_law_some"]
theorem sc__law_drawn : FnScope N__law_drawn ["_law_pot_here", "_law_some"] (defScope s__law_drawn) := ⟨rfl, rfl, rfl, by decide +kernel, rfl, by decide +kernel, by decide +kernel⟩
abbrev s__law_items : Stmt := topS 32
abbrev N__law_items : List Str := ["_law_pot_here", "_law_found", "_law_way", "_law_lap"]
theorem sc__law_items : FnScope N__law_items ["_law_pot_here"] (defScope s__law_items) := ⟨rfl, rfl, rfl, by decide +kernel, rfl, by decide +kernel, by decide +kernel⟩
abbrev s__law_is_from : Stmt := topS 33
abbrev N__law_is_from : List Str := ["_law_value", "_law_low", "_law_high"]
theorem sc__law_is_from : FnScope N__law_is_from ["_law_value", "_law_low", "_law_high"] (defScope s__law_is_from) := ⟨rfl, rfl, rfl, by decide +kernel, rfl, by decide +kernel, by decide +kernel⟩
abbrev s__law_due : Stmt := topS 34
abbrev N__law_due : List Str := ["_law_girth", "_law_cap", "_law_things", "_law_one"]
theorem sc__law_due : FnScope N__law_due ["_law_girth", "_law_cap", "_law_things"] (defScope s__law_due) := ⟨rfl, rfl, rfl, by decide +kernel, rfl, by decide +kernel, by decide +kernel⟩
abbrev s__law_heard : Stmt := topS 35
abbrev N__law_heard : List Str := ["_law_call", "_law_caught", "_law_found", "error", "_law_marks"]
theorem sc__law_heard : FnScope N__law_heard ["_law_call"] (defScope s__law_heard) := ⟨rfl, rfl, rfl, by decide +kernel, rfl, by decide +kernel, by decide +kernel⟩
abbrev s__law_right : Stmt := topS 36
abbrev N__law_right : List Str := ["_law_pot_here", "_law_turn", "_law_before", "_law_due_here", "_law_heard_here", "_law_fault", "_law_cap", "_law_girth", "_law_things", "_law_one"]
theorem sc__law_right : FnScope N__law_right ["_law_pot_here"] (defScope s__law_right) := ⟨rfl, rfl, rfl, by decide +kernel, rfl, by decide +kernel, by decide +kernel⟩
abbrev s_law : Stmt := topS 37
abbrev N_law : List Str := ["_law_script", "_law_k"]
theorem sc_law : FnScope N_law ["_law_script"] (defScope s_law) := ⟨rfl, rfl, rfl, by decide +kernel, rfl, by decide +kernel, by decide +kernel⟩
structure Tx (P : Program) (K : PySem.W.Frag) (mg : Str → Option Value) where
  C_Row : Addr
  Row_mg : mg "Row" = some (.ref C_Row)
  C_BadSize : Addr
  BadSize_mg : mg "BadSize" = some (.ref C_BadSize)
  C_BadMost : Addr
  BadMost_mg : mg "BadMost" = some (.ref C_BadMost)
  C_BadItems : Addr
  BadItems_mg : mg "BadItems" = some (.ref C_BadItems)
  C_Fault : Addr
  Fault_mg : mg "Fault" = some (.ref C_Fault)
  C_TapeError : Addr
  TapeError_mg : mg "TapeError" = some (.ref C_TapeError)
  Row_cl : Cls K C_Row
  Row_ty : (PySem.W.clsIn K C_Row).isSome = true ∧ PySem.W.typeIn K (.ref C_Row) = some (.type "type")
  F_is_integer : Addr
  fd_is_integer : FuncData
  is_integer_ok : Fun K "is_integer" "is_integer" s_is_integer F_is_integer fd_is_integer
  b_is_integer : Binds K fd_is_integer ["value"] []
  is_integer_mg : mg "is_integer" = some (.ref F_is_integer)
  F_is_from : Addr
  fd_is_from : FuncData
  is_from_ok : Fun K "is_from" "is_from" s_is_from F_is_from fd_is_from
  b_is_from : Binds K fd_is_from ["value", "low", "high"] []
  is_from_mg : mg "is_from" = some (.ref F_is_from)
  F_are_items : Addr
  fd_are_items : FuncData
  are_items_ok : Fun K "are_items" "are_items" s_are_items F_are_items fd_are_items
  b_are_items : Binds K fd_are_items ["size", "most", "value"] []
  are_items_mg : mg "are_items" = some (.ref F_are_items)
  F_Row___init__ : Addr
  fd_Row___init__ : FuncData
  Row___init___ok : Fun K "__init__" "Row.__init__" s_Row___init__ F_Row___init__ fd_Row___init__
  b_Row___init__ : Binds K fd_Row___init__ ["self", "size", "most", "items"] []
  Row___init___sl : SlotF K C_Row "__init__" F_Row___init__
  Row_mk : Mk K C_Row F_Row___init__
  F_Row_worths : Addr
  fd_Row_worths : FuncData
  Row_worths_ok : Fun K "worths" "Row.worths" s_Row_worths F_Row_worths fd_Row_worths
  b_Row_worths : Binds K fd_Row_worths ["self"] []
  pr_Row_worths : Addr
  Row_worths_pr : PropOf K C_Row "worths" pr_Row_worths F_Row_worths
  F__law_pot : Addr
  fd__law_pot : FuncData
  _law_pot_ok : Fun K "_law_pot" "_law_pot" s__law_pot F__law_pot fd__law_pot
  b__law_pot : Binds K fd__law_pot ["_law_script", "_law_k"] []
  _law_pot_mg : mg "_law_pot" = some (.ref F__law_pot)
  F__law_take : Addr
  fd__law_take : FuncData
  _law_take_ok : Fun K "_law_take" "_law_take" s__law_take F__law_take fd__law_take
  b__law_take : Binds K fd__law_take ["_law_pot_here", "_law_upto"] []
  _law_take_mg : mg "_law_take" = some (.ref F__law_take)
  F__law_of : Addr
  fd__law_of : FuncData
  _law_of_ok : Fun K "_law_of" "_law_of" s__law_of F__law_of fd__law_of
  b__law_of : Binds K fd__law_of ["_law_pot_here", "_law_some"] []
  _law_of_mg : mg "_law_of" = some (.ref F__law_of)
  F__law_any : Addr
  fd__law_any : FuncData
  _law_any_ok : Fun K "_law_any" "_law_any" s__law_any F__law_any fd__law_any
  b__law_any : Binds K fd__law_any ["_law_pot_here"] []
  _law_any_mg : mg "_law_any" = some (.ref F__law_any)
  F__law_drawn : Addr
  fd__law_drawn : FuncData
  _law_drawn_ok : Fun K "_law_drawn" "_law_drawn" s__law_drawn F__law_drawn fd__law_drawn
  b__law_drawn : Binds K fd__law_drawn ["_law_pot_here", "_law_some"] []
  _law_drawn_mg : mg "_law_drawn" = some (.ref F__law_drawn)
  F__law_items : Addr
  fd__law_items : FuncData
  _law_items_ok : Fun K "_law_items" "_law_items" s__law_items F__law_items fd__law_items
  b__law_items : Binds K fd__law_items ["_law_pot_here"] []
  _law_items_mg : mg "_law_items" = some (.ref F__law_items)
  F__law_is_from : Addr
  fd__law_is_from : FuncData
  _law_is_from_ok : Fun K "_law_is_from" "_law_is_from" s__law_is_from F__law_is_from fd__law_is_from
  b__law_is_from : Binds K fd__law_is_from ["_law_value", "_law_low", "_law_high"] []
  _law_is_from_mg : mg "_law_is_from" = some (.ref F__law_is_from)
  F__law_due : Addr
  fd__law_due : FuncData
  _law_due_ok : Fun K "_law_due" "_law_due" s__law_due F__law_due fd__law_due
  b__law_due : Binds K fd__law_due ["_law_girth", "_law_cap", "_law_things"] []
  _law_due_mg : mg "_law_due" = some (.ref F__law_due)
  F__law_heard : Addr
  fd__law_heard : FuncData
  _law_heard_ok : Fun K "_law_heard" "_law_heard" s__law_heard F__law_heard fd__law_heard
  b__law_heard : Binds K fd__law_heard ["_law_call"] []
  _law_heard_mg : mg "_law_heard" = some (.ref F__law_heard)
  F__law_right : Addr
  fd__law_right : FuncData
  _law_right_ok : Fun K "_law_right" "_law_right" s__law_right F__law_right fd__law_right
  b__law_right : Binds K fd__law_right ["_law_pot_here"] []
  _law_right_mg : mg "_law_right" = some (.ref F__law_right)
  F_law : Addr
  fd_law : FuncData
  law_ok : Fun K "law" "law" s_law F_law fd_law
  b_law : Binds K fd_law ["_law_script"] []
  law_mg : mg "law" = some (.ref F_law)
  BadSize_err : Err P K mg "BadSize" ["value"] C_BadSize
  BadSize_ew : ErrW P K mg "BadSize" ["value"] ["value"] [] C_BadSize
  BadSize_xf : XfC K C_BadSize
  BadSize_no0 : PySem.W.findIn K (.ref C_BadSize) "value" = some none
  BadSize_te : PySem.W.exmOne K (.ref C_BadSize) (.ref C_BadSize) = some true
  BadMost_err : Err P K mg "BadMost" ["value"] C_BadMost
  BadMost_ew : ErrW P K mg "BadMost" ["value"] ["value"] [] C_BadMost
  BadMost_xf : XfC K C_BadMost
  BadMost_no0 : PySem.W.findIn K (.ref C_BadMost) "value" = some none
  BadMost_te : PySem.W.exmOne K (.ref C_BadMost) (.ref C_BadMost) = some true
  BadItems_err : Err P K mg "BadItems" ["value"] C_BadItems
  BadItems_ew : ErrW P K mg "BadItems" ["value"] ["value"] [] C_BadItems
  BadItems_xf : XfC K C_BadItems
  BadItems_no0 : PySem.W.findIn K (.ref C_BadItems) "value" = some none
  BadItems_te : PySem.W.exmOne K (.ref C_BadItems) (.ref C_BadItems) = some true
  Fault_err : Err P K mg "Fault" ["words", "what"] C_Fault
  Fault_ew : ErrW P K mg "Fault" ["words", "what"] ["words"] [.non] C_Fault
  Fault_ep : ErrP P K mg "Fault" ["words", "what"] 1 [.non] C_Fault
  Fault_xf : XfC K C_Fault
  Fault_no0 : PySem.W.findIn K (.ref C_Fault) "words" = some none
  Fault_no1 : PySem.W.findIn K (.ref C_Fault) "what" = some none
  Fault_te : PySem.W.exmOne K (.ref C_Fault) (.ref C_Fault) = some true
  b_int : mg "int" = none
  b_bool : mg "bool" = none
  b_abs : mg "abs" = none
  b_len : mg "len" = none
  b_isinstance : mg "isinstance" = none
  b_repr : mg "repr" = none
  b_all : mg "all" = none
  b_range : mg "range" = none
  b_tuple : mg "tuple" = none
  b_list : mg "list" = none
  b_ValueError : mg "ValueError" = none
  tk_LEAST_SIZE : Tok
  k_LEAST_SIZE : mg "LEAST_SIZE" = some (.int 2 tk_LEAST_SIZE)
  tk_MOST_SIZE : Tok
  k_MOST_SIZE : mg "MOST_SIZE" = some (.int 4 tk_MOST_SIZE)
  tk_LEAST_MOST : Tok
  k_LEAST_MOST : mg "LEAST_MOST" = some (.int 1 tk_LEAST_MOST)
  tk_GREATEST_MOST : Tok
  k_GREATEST_MOST : mg "GREATEST_MOST" = some (.int 2 tk_GREATEST_MOST)
  x_cg : PySem.W.specialIn K (.builtin "object.__class__") "__get__" = some (some (.builtin "getset_descriptor.__get__"))
  x_ct : PySem.W.takesIn K (.builtin "object.__class__") = some true
  x_rcc : PySem.W.findIn K (.ref C_Row) "__class__" = some (some (.builtin "object.__class__"))
  x_rcm : PySem.W.mroIn K C_Row (.type "object") = some true
  x_eBadSizecc : PySem.W.findIn K (.ref C_BadSize) "__class__" = some (some (.builtin "object.__class__"))
  x_eBadSizecm : PySem.W.mroIn K C_BadSize (.type "object") = some true
  x_eBadMostcc : PySem.W.findIn K (.ref C_BadMost) "__class__" = some (some (.builtin "object.__class__"))
  x_eBadMostcm : PySem.W.mroIn K C_BadMost (.type "object") = some true
  x_eBadItemscc : PySem.W.findIn K (.ref C_BadItems) "__class__" = some (some (.builtin "object.__class__"))
  x_eBadItemscm : PySem.W.mroIn K C_BadItems (.type "object") = some true
  x_eFaultcc : PySem.W.findIn K (.ref C_Fault) "__class__" = some (some (.builtin "object.__class__"))
  x_eFaultcm : PySem.W.mroIn K C_Fault (.type "object") = some true
  x_r3 : PySem.W.subIn K (.ref C_Row) (.ref C_Row) = some true
  x_n_size : PySem.W.findIn K (.ref C_Row) "own_size" = some none
  x_n_most : PySem.W.findIn K (.ref C_Row) "own_most" = some none
  x_n_worths : PySem.W.findIn K (.ref C_Row) "own_worths" = some none
  x_n_counter : PySem.W.findIn K (.ref C_Row) "own_counter" = some none
  x_n_name : PySem.W.findIn K (.ref C_Row) "own_name" = some none
  x_te : PySem.W.subIn K (.ref C_TapeError) (.type "BaseException") = some true
  x_td : PySem.W.hasDictIn K C_TapeError = true
  x_tt : PySem.W.typeIn K (.ref C_TapeError) = some (.type "type")
  x_tBadSize : PySem.W.subIn K (.ref C_BadSize) (.ref C_TapeError) = some true
  x_dBadSize : PySem.W.hasDictIn K C_BadSize = true
  x_yBadSize : PySem.W.typeIn K (.ref C_BadSize) = some (.type "type")
  x_vBadBadSize : PySem.W.kitOne K (.ref C_BadSize) (.type "ValueError") = some true
  x_kBadSizeBadSize : PySem.W.subIn K (.ref C_BadSize) (.ref C_BadSize) = some true
  x_kBadSizeBadMost : PySem.W.subIn K (.ref C_BadSize) (.ref C_BadMost) = some false
  x_kBadSizeBadItems : PySem.W.subIn K (.ref C_BadSize) (.ref C_BadItems) = some false
  x_tBadMost : PySem.W.subIn K (.ref C_BadMost) (.ref C_TapeError) = some true
  x_dBadMost : PySem.W.hasDictIn K C_BadMost = true
  x_yBadMost : PySem.W.typeIn K (.ref C_BadMost) = some (.type "type")
  x_vBadBadMost : PySem.W.kitOne K (.ref C_BadMost) (.type "ValueError") = some true
  x_kBadMostBadSize : PySem.W.subIn K (.ref C_BadMost) (.ref C_BadSize) = some false
  x_kBadMostBadMost : PySem.W.subIn K (.ref C_BadMost) (.ref C_BadMost) = some true
  x_kBadMostBadItems : PySem.W.subIn K (.ref C_BadMost) (.ref C_BadItems) = some false
  x_tBadItems : PySem.W.subIn K (.ref C_BadItems) (.ref C_TapeError) = some true
  x_dBadItems : PySem.W.hasDictIn K C_BadItems = true
  x_yBadItems : PySem.W.typeIn K (.ref C_BadItems) = some (.type "type")
  x_vBadBadItems : PySem.W.kitOne K (.ref C_BadItems) (.type "ValueError") = some true
  x_kBadItemsBadSize : PySem.W.subIn K (.ref C_BadItems) (.ref C_BadSize) = some false
  x_kBadItemsBadMost : PySem.W.subIn K (.ref C_BadItems) (.ref C_BadMost) = some false
  x_kBadItemsBadItems : PySem.W.subIn K (.ref C_BadItems) (.ref C_BadItems) = some true
  x_tFault : PySem.W.subIn K (.ref C_Fault) (.ref C_TapeError) = some true
  x_dFault : PySem.W.hasDictIn K C_Fault = true
  x_yFault : PySem.W.typeIn K (.ref C_Fault) = some (.type "type")
  x_rflA : ∃ cA, (∃ (oc : Value) (od : Option Addr) (kV dc pm : Value) (an : Option Addr) (ct : Value) (sl : Array (Option Value)), fd__law_right = PySem.W.fnOf "_law_right" "_law_right" (defArgs s__law_right) (defBody s__law_right) (defScope s__law_right) .none kV dc pm an (.ref cA) ct ∧ K.lookup F__law_right = some ⟨oc, od, .func fd__law_right, sl⟩ ∧ PySem.W.codeIn K (.ref cA) "_law_right" = true) ∧ noTab K cA = true
  x_kerT : True
def tx_mk {P : Program} {K : PySem.W.Frag} {h : Heap} {mg : Str → Option Value} {C_Row : Addr} {C_BadSize : Addr} {C_BadMost : Addr} {C_BadItems : Addr} {C_Fault : Addr} {C_TapeError : Addr} {F_is_integer : Addr} {oc_is_integer kV_is_integer dc_is_integer pm_is_integer cd_is_integer ct_is_integer : Value} {od_is_integer an_is_integer : Option Addr} {sl_is_integer : Array (Option Value)} {F_is_from : Addr} {oc_is_from kV_is_from dc_is_from pm_is_from cd_is_from ct_is_from : Value} {od_is_from an_is_from : Option Addr} {sl_is_from : Array (Option Value)} {F_are_items : Addr} {oc_are_items kV_are_items dc_are_items pm_are_items cd_are_items ct_are_items : Value} {od_are_items an_are_items : Option Addr} {sl_are_items : Array (Option Value)} {F_Row___init__ : Addr} {oc_Row___init__ kV_Row___init__ dc_Row___init__ pm_Row___init__ cd_Row___init__ ct_Row___init__ : Value} {od_Row___init__ an_Row___init__ : Option Addr} {sl_Row___init__ : Array (Option Value)} {F_Row_worths : Addr} {oc_Row_worths kV_Row_worths dc_Row_worths pm_Row_worths cd_Row_worths ct_Row_worths : Value} {od_Row_worths an_Row_worths : Option Addr} {sl_Row_worths : Array (Option Value)} {pr_Row_worths : Addr} {rs_Row_worths : List Value} {F__law_pot : Addr} {oc__law_pot kV__law_pot dc__law_pot pm__law_pot cd__law_pot ct__law_pot : Value} {od__law_pot an__law_pot : Option Addr} {sl__law_pot : Array (Option Value)} {F__law_take : Addr} {oc__law_take kV__law_take dc__law_take pm__law_take cd__law_take ct__law_take : Value} {od__law_take an__law_take : Option Addr} {sl__law_take : Array (Option Value)} {F__law_of : Addr} {oc__law_of kV__law_of dc__law_of pm__law_of cd__law_of ct__law_of : Value} {od__law_of an__law_of : Option Addr} {sl__law_of : Array (Option Value)} {F__law_any : Addr} {oc__law_any kV__law_any dc__law_any pm__law_any cd__law_any ct__law_any : Value} {od__law_any an__law_any : Option Addr} {sl__law_any : Array (Option Value)} {F__law_drawn : Addr} {oc__law_drawn kV__law_drawn dc__law_drawn pm__law_drawn cd__law_drawn ct__law_drawn : Value} {od__law_drawn an__law_drawn : Option Addr} {sl__law_drawn : Array (Option Value)} {F__law_items : Addr} {oc__law_items kV__law_items dc__law_items pm__law_items cd__law_items ct__law_items : Value} {od__law_items an__law_items : Option Addr} {sl__law_items : Array (Option Value)} {F__law_is_from : Addr} {oc__law_is_from kV__law_is_from dc__law_is_from pm__law_is_from cd__law_is_from ct__law_is_from : Value} {od__law_is_from an__law_is_from : Option Addr} {sl__law_is_from : Array (Option Value)} {F__law_due : Addr} {oc__law_due kV__law_due dc__law_due pm__law_due cd__law_due ct__law_due : Value} {od__law_due an__law_due : Option Addr} {sl__law_due : Array (Option Value)} {F__law_heard : Addr} {oc__law_heard kV__law_heard dc__law_heard pm__law_heard cd__law_heard ct__law_heard : Value} {od__law_heard an__law_heard : Option Addr} {sl__law_heard : Array (Option Value)} {F__law_right : Addr} {oc__law_right kV__law_right dc__law_right pm__law_right cd__law_right ct__law_right : Value} {od__law_right an__law_right : Option Addr} {sl__law_right : Array (Option Value)} {F_law : Addr} {oc_law kV_law dc_law pm_law cd_law ct_law : Value} {od_law an_law : Option Addr} {sl_law : Array (Option Value)} {eI_BadSize ecd_BadSize ecc_BadSize : Addr} {eoc_BadSize ekV_BadSize edc_BadSize epm_BadSize ect_BadSize : Value} {eod_BadSize ean_BadSize : Option Addr} {esl_BadSize : Array (Option Value)} {enm_BadSize eq_BadSize : Str} {eN_BadSize : Addr} {ebs_BadSize ebm_BadSize : List Value} {esn_BadSize : List Str} {esb_BadSize : List Value} {eab_BadSize : Bool} {ecol_BadSize : Option Bool} {edd_BadSize : Option Addr} {ek0_BadSize ek1_BadSize ek2_BadSize ek3_BadSize ek5_BadSize : Option Value} {eccl_BadSize : Value} {ecdd_BadSize : Option Addr} {evs_BadSize : Array Value} {eccs_BadSize : Array (Option Value)} {efile_BadSize : Str} {etf_BadSize : Tok} {ecl_BadSize : Value} {ecld_BadSize : Option Addr} {ecsl_BadSize : Array (Option Value)} {eI_BadMost ecd_BadMost ecc_BadMost : Addr} {eoc_BadMost ekV_BadMost edc_BadMost epm_BadMost ect_BadMost : Value} {eod_BadMost ean_BadMost : Option Addr} {esl_BadMost : Array (Option Value)} {enm_BadMost eq_BadMost : Str} {eN_BadMost : Addr} {ebs_BadMost ebm_BadMost : List Value} {esn_BadMost : List Str} {esb_BadMost : List Value} {eab_BadMost : Bool} {ecol_BadMost : Option Bool} {edd_BadMost : Option Addr} {ek0_BadMost ek1_BadMost ek2_BadMost ek3_BadMost ek5_BadMost : Option Value} {eccl_BadMost : Value} {ecdd_BadMost : Option Addr} {evs_BadMost : Array Value} {eccs_BadMost : Array (Option Value)} {efile_BadMost : Str} {etf_BadMost : Tok} {ecl_BadMost : Value} {ecld_BadMost : Option Addr} {ecsl_BadMost : Array (Option Value)} {eI_BadItems ecd_BadItems ecc_BadItems : Addr} {eoc_BadItems ekV_BadItems edc_BadItems epm_BadItems ect_BadItems : Value} {eod_BadItems ean_BadItems : Option Addr} {esl_BadItems : Array (Option Value)} {enm_BadItems eq_BadItems : Str} {eN_BadItems : Addr} {ebs_BadItems ebm_BadItems : List Value} {esn_BadItems : List Str} {esb_BadItems : List Value} {eab_BadItems : Bool} {ecol_BadItems : Option Bool} {edd_BadItems : Option Addr} {ek0_BadItems ek1_BadItems ek2_BadItems ek3_BadItems ek5_BadItems : Option Value} {eccl_BadItems : Value} {ecdd_BadItems : Option Addr} {evs_BadItems : Array Value} {eccs_BadItems : Array (Option Value)} {efile_BadItems : Str} {etf_BadItems : Tok} {ecl_BadItems : Value} {ecld_BadItems : Option Addr} {ecsl_BadItems : Array (Option Value)} {eI_Fault ecd_Fault ecc_Fault : Addr} {eoc_Fault ekV_Fault edc_Fault epm_Fault ect_Fault : Value} {eod_Fault ean_Fault : Option Addr} {esl_Fault : Array (Option Value)} {edV_Fault : Value} {enm_Fault eq_Fault : Str} {eN_Fault : Addr} {ebs_Fault ebm_Fault : List Value} {esn_Fault : List Str} {esb_Fault : List Value} {eab_Fault : Bool} {ecol_Fault : Option Bool} {edd_Fault : Option Addr} {ek0_Fault ek1_Fault ek2_Fault ek3_Fault ek5_Fault : Option Value} {eccl_Fault : Value} {ecdd_Fault : Option Addr} {evs_Fault : Array Value} {eccs_Fault : Array (Option Value)} {efile_Fault : Str} {etf_Fault : Tok} {ecl_Fault : Value} {ecld_Fault : Option Addr} {ecsl_Fault : Array (Option Value)} {tT_Fault : Addr} {to_Fault : Obj} {ti_Fault : List Value} {tn_Fault : Nat} {tk_LEAST_SIZE : Tok} {tk_MOST_SIZE : Tok} {tk_LEAST_MOST : Tok} {tk_GREATEST_MOST : Tok} {cA : Addr} (X : K.In h) (G : h.Ns mainGlobals mg) (hP : (P.main.scope.names.lookup ("super" : Str)).isSome = false ∧ True)
  (a_Row : PySem.W.nsIn K mainGlobals "Row" = some (some (.ref C_Row)))
  (a_BadSize : PySem.W.nsIn K mainGlobals "BadSize" = some (some (.ref C_BadSize)))
  (a_BadMost : PySem.W.nsIn K mainGlobals "BadMost" = some (some (.ref C_BadMost)))
  (a_BadItems : PySem.W.nsIn K mainGlobals "BadItems" = some (some (.ref C_BadItems)))
  (a_Fault : PySem.W.nsIn K mainGlobals "Fault" = some (some (.ref C_Fault)))
  (a_TapeError : PySem.W.nsIn K mainGlobals "TapeError" = some (some (.ref C_TapeError)))
  (pg_Row : PySem.W.plainGet K C_Row Str.empty = true)
  (hd_Row : PySem.W.hasDictIn K C_Row = true)
  (po_Row : PySem.W.plainOver K C_Row = true)
  (sa_Row : PySem.W.findIn K (.ref C_Row) "__setattr__" = some (some (.builtin "object.__setattr__")))
  (kc_Row : PySem.W.keepIn K (.ref C_Row) = true)
  (tc_Row : PySem.W.typeIn K (.ref C_Row) = some (.type "type"))
  (mk_Row : PySem.W.makesIn K C_Row = true)
  (g_is_integer : PySem.W.nsIn K mainGlobals "is_integer" = some (some (.ref F_is_integer)))
  (l_is_integer : K.lookup F_is_integer = some ⟨oc_is_integer, od_is_integer, .func (PySem.W.fnOf "is_integer" "is_integer" (defArgs s_is_integer) (defBody s_is_integer) (defScope s_is_integer) .none kV_is_integer dc_is_integer pm_is_integer an_is_integer cd_is_integer ct_is_integer), sl_is_integer⟩)
  (c_is_integer : PySem.W.codeIn K cd_is_integer "is_integer" = true)
  (k_is_integer : PySem.W.keepIn K (.ref F_is_integer) = true)
  (g_is_from : PySem.W.nsIn K mainGlobals "is_from" = some (some (.ref F_is_from)))
  (l_is_from : K.lookup F_is_from = some ⟨oc_is_from, od_is_from, .func (PySem.W.fnOf "is_from" "is_from" (defArgs s_is_from) (defBody s_is_from) (defScope s_is_from) .none kV_is_from dc_is_from pm_is_from an_is_from cd_is_from ct_is_from), sl_is_from⟩)
  (c_is_from : PySem.W.codeIn K cd_is_from "is_from" = true)
  (k_is_from : PySem.W.keepIn K (.ref F_is_from) = true)
  (g_are_items : PySem.W.nsIn K mainGlobals "are_items" = some (some (.ref F_are_items)))
  (l_are_items : K.lookup F_are_items = some ⟨oc_are_items, od_are_items, .func (PySem.W.fnOf "are_items" "are_items" (defArgs s_are_items) (defBody s_are_items) (defScope s_are_items) .none kV_are_items dc_are_items pm_are_items an_are_items cd_are_items ct_are_items), sl_are_items⟩)
  (c_are_items : PySem.W.codeIn K cd_are_items "are_items" = true)
  (k_are_items : PySem.W.keepIn K (.ref F_are_items) = true)
  (g_Row___init__ : PySem.W.findIn K (.ref C_Row) "__init__" = some (some (.ref F_Row___init__)))
  (i_Row___init__ : PySem.W.isFn K (.ref F_Row___init__) = true)
  (l_Row___init__ : K.lookup F_Row___init__ = some ⟨oc_Row___init__, od_Row___init__, .func (PySem.W.fnOf "__init__" "Row.__init__" (defArgs s_Row___init__) (defBody s_Row___init__) (defScope s_Row___init__) .none kV_Row___init__ dc_Row___init__ pm_Row___init__ an_Row___init__ cd_Row___init__ ct_Row___init__), sl_Row___init__⟩)
  (c_Row___init__ : PySem.W.codeIn K cd_Row___init__ "Row.__init__" = true)
  (k_Row___init__ : PySem.W.keepIn K (.ref F_Row___init__) = true)
  (g_Row_worths : PySem.W.findIn K (.ref C_Row) "worths" = some (some (.ref pr_Row_worths)))
  (gg_Row_worths : PySem.W.specialIn K (.ref pr_Row_worths) "__get__" = some (some (.builtin "property.__get__")))
  (gt_Row_worths : PySem.W.takesIn K (.ref pr_Row_worths) = some true)
  (gr_Row_worths : PySem.W.recIn K pr_Row_worths "property" = some (.ref F_Row_worths :: rs_Row_worths))
  (l_Row_worths : K.lookup F_Row_worths = some ⟨oc_Row_worths, od_Row_worths, .func (PySem.W.fnOf "worths" "Row.worths" (defArgs s_Row_worths) (defBody s_Row_worths) (defScope s_Row_worths) .none kV_Row_worths dc_Row_worths pm_Row_worths an_Row_worths cd_Row_worths ct_Row_worths), sl_Row_worths⟩)
  (c_Row_worths : PySem.W.codeIn K cd_Row_worths "Row.worths" = true)
  (k_Row_worths : PySem.W.keepIn K (.ref F_Row_worths) = true)
  (g__law_pot : PySem.W.nsIn K mainGlobals "_law_pot" = some (some (.ref F__law_pot)))
  (l__law_pot : K.lookup F__law_pot = some ⟨oc__law_pot, od__law_pot, .func (PySem.W.fnOf "_law_pot" "_law_pot" (defArgs s__law_pot) (defBody s__law_pot) (defScope s__law_pot) .none kV__law_pot dc__law_pot pm__law_pot an__law_pot cd__law_pot ct__law_pot), sl__law_pot⟩)
  (c__law_pot : PySem.W.codeIn K cd__law_pot "_law_pot" = true)
  (k__law_pot : PySem.W.keepIn K (.ref F__law_pot) = true)
  (g__law_take : PySem.W.nsIn K mainGlobals "_law_take" = some (some (.ref F__law_take)))
  (l__law_take : K.lookup F__law_take = some ⟨oc__law_take, od__law_take, .func (PySem.W.fnOf "_law_take" "_law_take" (defArgs s__law_take) (defBody s__law_take) (defScope s__law_take) .none kV__law_take dc__law_take pm__law_take an__law_take cd__law_take ct__law_take), sl__law_take⟩)
  (c__law_take : PySem.W.codeIn K cd__law_take "_law_take" = true)
  (k__law_take : PySem.W.keepIn K (.ref F__law_take) = true)
  (g__law_of : PySem.W.nsIn K mainGlobals "_law_of" = some (some (.ref F__law_of)))
  (l__law_of : K.lookup F__law_of = some ⟨oc__law_of, od__law_of, .func (PySem.W.fnOf "_law_of" "_law_of" (defArgs s__law_of) (defBody s__law_of) (defScope s__law_of) .none kV__law_of dc__law_of pm__law_of an__law_of cd__law_of ct__law_of), sl__law_of⟩)
  (c__law_of : PySem.W.codeIn K cd__law_of "_law_of" = true)
  (k__law_of : PySem.W.keepIn K (.ref F__law_of) = true)
  (g__law_any : PySem.W.nsIn K mainGlobals "_law_any" = some (some (.ref F__law_any)))
  (l__law_any : K.lookup F__law_any = some ⟨oc__law_any, od__law_any, .func (PySem.W.fnOf "_law_any" "_law_any" (defArgs s__law_any) (defBody s__law_any) (defScope s__law_any) .none kV__law_any dc__law_any pm__law_any an__law_any cd__law_any ct__law_any), sl__law_any⟩)
  (c__law_any : PySem.W.codeIn K cd__law_any "_law_any" = true)
  (k__law_any : PySem.W.keepIn K (.ref F__law_any) = true)
  (g__law_drawn : PySem.W.nsIn K mainGlobals "_law_drawn" = some (some (.ref F__law_drawn)))
  (l__law_drawn : K.lookup F__law_drawn = some ⟨oc__law_drawn, od__law_drawn, .func (PySem.W.fnOf "_law_drawn" "_law_drawn" (defArgs s__law_drawn) (defBody s__law_drawn) (defScope s__law_drawn) .none kV__law_drawn dc__law_drawn pm__law_drawn an__law_drawn cd__law_drawn ct__law_drawn), sl__law_drawn⟩)
  (c__law_drawn : PySem.W.codeIn K cd__law_drawn "_law_drawn" = true)
  (k__law_drawn : PySem.W.keepIn K (.ref F__law_drawn) = true)
  (g__law_items : PySem.W.nsIn K mainGlobals "_law_items" = some (some (.ref F__law_items)))
  (l__law_items : K.lookup F__law_items = some ⟨oc__law_items, od__law_items, .func (PySem.W.fnOf "_law_items" "_law_items" (defArgs s__law_items) (defBody s__law_items) (defScope s__law_items) .none kV__law_items dc__law_items pm__law_items an__law_items cd__law_items ct__law_items), sl__law_items⟩)
  (c__law_items : PySem.W.codeIn K cd__law_items "_law_items" = true)
  (k__law_items : PySem.W.keepIn K (.ref F__law_items) = true)
  (g__law_is_from : PySem.W.nsIn K mainGlobals "_law_is_from" = some (some (.ref F__law_is_from)))
  (l__law_is_from : K.lookup F__law_is_from = some ⟨oc__law_is_from, od__law_is_from, .func (PySem.W.fnOf "_law_is_from" "_law_is_from" (defArgs s__law_is_from) (defBody s__law_is_from) (defScope s__law_is_from) .none kV__law_is_from dc__law_is_from pm__law_is_from an__law_is_from cd__law_is_from ct__law_is_from), sl__law_is_from⟩)
  (c__law_is_from : PySem.W.codeIn K cd__law_is_from "_law_is_from" = true)
  (k__law_is_from : PySem.W.keepIn K (.ref F__law_is_from) = true)
  (g__law_due : PySem.W.nsIn K mainGlobals "_law_due" = some (some (.ref F__law_due)))
  (l__law_due : K.lookup F__law_due = some ⟨oc__law_due, od__law_due, .func (PySem.W.fnOf "_law_due" "_law_due" (defArgs s__law_due) (defBody s__law_due) (defScope s__law_due) .none kV__law_due dc__law_due pm__law_due an__law_due cd__law_due ct__law_due), sl__law_due⟩)
  (c__law_due : PySem.W.codeIn K cd__law_due "_law_due" = true)
  (k__law_due : PySem.W.keepIn K (.ref F__law_due) = true)
  (g__law_heard : PySem.W.nsIn K mainGlobals "_law_heard" = some (some (.ref F__law_heard)))
  (l__law_heard : K.lookup F__law_heard = some ⟨oc__law_heard, od__law_heard, .func (PySem.W.fnOf "_law_heard" "_law_heard" (defArgs s__law_heard) (defBody s__law_heard) (defScope s__law_heard) .none kV__law_heard dc__law_heard pm__law_heard an__law_heard cd__law_heard ct__law_heard), sl__law_heard⟩)
  (c__law_heard : PySem.W.codeIn K cd__law_heard "_law_heard" = true)
  (k__law_heard : PySem.W.keepIn K (.ref F__law_heard) = true)
  (g__law_right : PySem.W.nsIn K mainGlobals "_law_right" = some (some (.ref F__law_right)))
  (l__law_right : K.lookup F__law_right = some ⟨oc__law_right, od__law_right, .func (PySem.W.fnOf "_law_right" "_law_right" (defArgs s__law_right) (defBody s__law_right) (defScope s__law_right) .none kV__law_right dc__law_right pm__law_right an__law_right cd__law_right ct__law_right), sl__law_right⟩)
  (c__law_right : PySem.W.codeIn K cd__law_right "_law_right" = true)
  (k__law_right : PySem.W.keepIn K (.ref F__law_right) = true)
  (g_law : PySem.W.nsIn K mainGlobals "law" = some (some (.ref F_law)))
  (l_law : K.lookup F_law = some ⟨oc_law, od_law, .func (PySem.W.fnOf "law" "law" (defArgs s_law) (defBody s_law) (defScope s_law) .none kV_law dc_law pm_law an_law cd_law ct_law), sl_law⟩)
  (c_law : PySem.W.codeIn K cd_law "law" = true)
  (k_law : PySem.W.keepIn K (.ref F_law) = true)
  (e1_BadSize : K.lookup C_BadSize = some (excClassObj enm_BadSize eq_BadSize C_BadSize eN_BadSize ebs_BadSize ebm_BadSize true esn_BadSize esb_BadSize eab_BadSize ecol_BadSize edd_BadSize ek0_BadSize ek1_BadSize ek2_BadSize ek3_BadSize ek5_BadSize "ValueError.__new__"))
  (e2_BadSize : PySem.HandSPX.refsVE ebm_BadSize = true)
  (e3_BadSize : PySem.W.findIn K (.ref C_BadSize) "__setattr__" = some (some (.builtin "object.__setattr__")))
  (e4_BadSize : PySem.W.findIn K (.ref C_BadSize) "__init__" = some (some (.ref eI_BadSize)))
  (e5_BadSize : PySem.W.typeIn K (.ref eI_BadSize) = some (.type "function"))
  (e6_BadSize : PySem.W.ks_superIn K C_BadSize C_BadSize "__init__" = some (some (.builtin "ValueError.__init__")))
  (e7_BadSize : PySem.W.subIn K (.ref C_BadSize) (.type "ValueError") = some true)
  (e8_BadSize : PySem.W.mroIn K C_BadSize (.ref C_BadSize) = some true)
  (ef0_BadSize : PySem.W.findIn K (.ref C_BadSize) "value" = some none)
  (e9_BadSize : K.lookup eI_BadSize = some ⟨eoc_BadSize, eod_BadSize, .func (PySem.W.ksFn "__init__" "BadSize.__init__" (defArgs (inClass (topS 4) 0)) (defBody (inClass (topS 4) 0)) (defScope (inClass (topS 4) 0)) .none ekV_BadSize edc_BadSize epm_BadSize ean_BadSize (.ref ecd_BadSize) ect_BadSize ecc_BadSize), esl_BadSize⟩)
  (ea_BadSize : PySem.W.codeIn K (.ref ecd_BadSize) "BadSize.__init__" = true)
  (eb_BadSize : K.lookup ecd_BadSize = some ⟨eccl_BadSize, ecdd_BadSize, .fields evs_BadSize, eccs_BadSize⟩)
  (ec_BadSize : evs_BadSize[2]? = some (.str efile_BadSize etf_BadSize))
  (ed_BadSize : ((P.main.file : Str) == efile_BadSize) = true)
  (ee_BadSize : K.lookup ecc_BadSize = some ⟨ecl_BadSize, ecld_BadSize, .cell (some (.ref C_BadSize)), ecsl_BadSize⟩)
  (ek_BadSize : PySem.W.keepIn K (.ref C_BadSize) = true)
  (ex_BadSize : PySem.W.subIn K (.ref C_BadSize) (.type "BaseException") = some true)
  (et_BadSize : PySem.W.typeIn K (.ref C_BadSize) = some (.type "type"))
  (eh_BadSize : PySem.W.hasDictIn K C_BadSize = true)
  (eg_BadSize : PySem.W.findIn K (.ref C_BadSize) "__getattribute__" = some (some (.builtin "BaseException.__getattribute__")))
  (ei_BadSize : PySem.W.findIn K (.ref C_BadSize) "__getattr__" = some none)
  (e1_BadMost : K.lookup C_BadMost = some (excClassObj enm_BadMost eq_BadMost C_BadMost eN_BadMost ebs_BadMost ebm_BadMost true esn_BadMost esb_BadMost eab_BadMost ecol_BadMost edd_BadMost ek0_BadMost ek1_BadMost ek2_BadMost ek3_BadMost ek5_BadMost "ValueError.__new__"))
  (e2_BadMost : PySem.HandSPX.refsVE ebm_BadMost = true)
  (e3_BadMost : PySem.W.findIn K (.ref C_BadMost) "__setattr__" = some (some (.builtin "object.__setattr__")))
  (e4_BadMost : PySem.W.findIn K (.ref C_BadMost) "__init__" = some (some (.ref eI_BadMost)))
  (e5_BadMost : PySem.W.typeIn K (.ref eI_BadMost) = some (.type "function"))
  (e6_BadMost : PySem.W.ks_superIn K C_BadMost C_BadMost "__init__" = some (some (.builtin "ValueError.__init__")))
  (e7_BadMost : PySem.W.subIn K (.ref C_BadMost) (.type "ValueError") = some true)
  (e8_BadMost : PySem.W.mroIn K C_BadMost (.ref C_BadMost) = some true)
  (ef0_BadMost : PySem.W.findIn K (.ref C_BadMost) "value" = some none)
  (e9_BadMost : K.lookup eI_BadMost = some ⟨eoc_BadMost, eod_BadMost, .func (PySem.W.ksFn "__init__" "BadMost.__init__" (defArgs (inClass (topS 6) 0)) (defBody (inClass (topS 6) 0)) (defScope (inClass (topS 6) 0)) .none ekV_BadMost edc_BadMost epm_BadMost ean_BadMost (.ref ecd_BadMost) ect_BadMost ecc_BadMost), esl_BadMost⟩)
  (ea_BadMost : PySem.W.codeIn K (.ref ecd_BadMost) "BadMost.__init__" = true)
  (eb_BadMost : K.lookup ecd_BadMost = some ⟨eccl_BadMost, ecdd_BadMost, .fields evs_BadMost, eccs_BadMost⟩)
  (ec_BadMost : evs_BadMost[2]? = some (.str efile_BadMost etf_BadMost))
  (ed_BadMost : ((P.main.file : Str) == efile_BadMost) = true)
  (ee_BadMost : K.lookup ecc_BadMost = some ⟨ecl_BadMost, ecld_BadMost, .cell (some (.ref C_BadMost)), ecsl_BadMost⟩)
  (ek_BadMost : PySem.W.keepIn K (.ref C_BadMost) = true)
  (ex_BadMost : PySem.W.subIn K (.ref C_BadMost) (.type "BaseException") = some true)
  (et_BadMost : PySem.W.typeIn K (.ref C_BadMost) = some (.type "type"))
  (eh_BadMost : PySem.W.hasDictIn K C_BadMost = true)
  (eg_BadMost : PySem.W.findIn K (.ref C_BadMost) "__getattribute__" = some (some (.builtin "BaseException.__getattribute__")))
  (ei_BadMost : PySem.W.findIn K (.ref C_BadMost) "__getattr__" = some none)
  (e1_BadItems : K.lookup C_BadItems = some (excClassObj enm_BadItems eq_BadItems C_BadItems eN_BadItems ebs_BadItems ebm_BadItems true esn_BadItems esb_BadItems eab_BadItems ecol_BadItems edd_BadItems ek0_BadItems ek1_BadItems ek2_BadItems ek3_BadItems ek5_BadItems "ValueError.__new__"))
  (e2_BadItems : PySem.HandSPX.refsVE ebm_BadItems = true)
  (e3_BadItems : PySem.W.findIn K (.ref C_BadItems) "__setattr__" = some (some (.builtin "object.__setattr__")))
  (e4_BadItems : PySem.W.findIn K (.ref C_BadItems) "__init__" = some (some (.ref eI_BadItems)))
  (e5_BadItems : PySem.W.typeIn K (.ref eI_BadItems) = some (.type "function"))
  (e6_BadItems : PySem.W.ks_superIn K C_BadItems C_BadItems "__init__" = some (some (.builtin "ValueError.__init__")))
  (e7_BadItems : PySem.W.subIn K (.ref C_BadItems) (.type "ValueError") = some true)
  (e8_BadItems : PySem.W.mroIn K C_BadItems (.ref C_BadItems) = some true)
  (ef0_BadItems : PySem.W.findIn K (.ref C_BadItems) "value" = some none)
  (e9_BadItems : K.lookup eI_BadItems = some ⟨eoc_BadItems, eod_BadItems, .func (PySem.W.ksFn "__init__" "BadItems.__init__" (defArgs (inClass (topS 7) 0)) (defBody (inClass (topS 7) 0)) (defScope (inClass (topS 7) 0)) .none ekV_BadItems edc_BadItems epm_BadItems ean_BadItems (.ref ecd_BadItems) ect_BadItems ecc_BadItems), esl_BadItems⟩)
  (ea_BadItems : PySem.W.codeIn K (.ref ecd_BadItems) "BadItems.__init__" = true)
  (eb_BadItems : K.lookup ecd_BadItems = some ⟨eccl_BadItems, ecdd_BadItems, .fields evs_BadItems, eccs_BadItems⟩)
  (ec_BadItems : evs_BadItems[2]? = some (.str efile_BadItems etf_BadItems))
  (ed_BadItems : ((P.main.file : Str) == efile_BadItems) = true)
  (ee_BadItems : K.lookup ecc_BadItems = some ⟨ecl_BadItems, ecld_BadItems, .cell (some (.ref C_BadItems)), ecsl_BadItems⟩)
  (ek_BadItems : PySem.W.keepIn K (.ref C_BadItems) = true)
  (ex_BadItems : PySem.W.subIn K (.ref C_BadItems) (.type "BaseException") = some true)
  (et_BadItems : PySem.W.typeIn K (.ref C_BadItems) = some (.type "type"))
  (eh_BadItems : PySem.W.hasDictIn K C_BadItems = true)
  (eg_BadItems : PySem.W.findIn K (.ref C_BadItems) "__getattribute__" = some (some (.builtin "BaseException.__getattribute__")))
  (ei_BadItems : PySem.W.findIn K (.ref C_BadItems) "__getattr__" = some none)
  (e1_Fault : K.lookup C_Fault = some (excClassObj enm_Fault eq_Fault C_Fault eN_Fault ebs_Fault ebm_Fault true esn_Fault esb_Fault eab_Fault ecol_Fault edd_Fault ek0_Fault ek1_Fault ek2_Fault ek3_Fault ek5_Fault "ValueError.__new__"))
  (e2_Fault : PySem.HandSPX.refsVE ebm_Fault = true)
  (e3_Fault : PySem.W.findIn K (.ref C_Fault) "__setattr__" = some (some (.builtin "object.__setattr__")))
  (e4_Fault : PySem.W.findIn K (.ref C_Fault) "__init__" = some (some (.ref eI_Fault)))
  (e5_Fault : PySem.W.typeIn K (.ref eI_Fault) = some (.type "function"))
  (e6_Fault : PySem.W.ks_superIn K C_Fault C_Fault "__init__" = some (some (.builtin "ValueError.__init__")))
  (e7_Fault : PySem.W.subIn K (.ref C_Fault) (.type "ValueError") = some true)
  (e8_Fault : PySem.W.mroIn K C_Fault (.ref C_Fault) = some true)
  (ef0_Fault : PySem.W.findIn K (.ref C_Fault) "words" = some none)
  (ef1_Fault : PySem.W.findIn K (.ref C_Fault) "what" = some none)
  (e9_Fault : K.lookup eI_Fault = some ⟨eoc_Fault, eod_Fault, .func (PySem.W.ksFn "__init__" "Fault.__init__" (defArgs (inClass (topS 3) 0)) (defBody (inClass (topS 3) 0)) (defScope (inClass (topS 3) 0)) edV_Fault ekV_Fault edc_Fault epm_Fault ean_Fault (.ref ecd_Fault) ect_Fault ecc_Fault), esl_Fault⟩)
  (ea_Fault : PySem.W.codeIn K (.ref ecd_Fault) "Fault.__init__" = true)
  (eb_Fault : K.lookup ecd_Fault = some ⟨eccl_Fault, ecdd_Fault, .fields evs_Fault, eccs_Fault⟩)
  (ec_Fault : evs_Fault[2]? = some (.str efile_Fault etf_Fault))
  (ed_Fault : ((P.main.file : Str) == efile_Fault) = true)
  (ee_Fault : K.lookup ecc_Fault = some ⟨ecl_Fault, ecld_Fault, .cell (some (.ref C_Fault)), ecsl_Fault⟩)
  (ek_Fault : PySem.W.keepIn K (.ref C_Fault) = true)
  (ex_Fault : PySem.W.subIn K (.ref C_Fault) (.type "BaseException") = some true)
  (et_Fault : PySem.W.typeIn K (.ref C_Fault) = some (.type "type"))
  (eh_Fault : PySem.W.hasDictIn K C_Fault = true)
  (eg_Fault : PySem.W.findIn K (.ref C_Fault) "__getattribute__" = some (some (.builtin "BaseException.__getattribute__")))
  (ei_Fault : PySem.W.findIn K (.ref C_Fault) "__getattr__" = some none)
  (dV1_Fault : edV_Fault = .ref tT_Fault)
  (dV2_Fault : K.lookup tT_Fault = some to_Fault)
  (dV3_Fault : to_Fault.data = .seq ti_Fault.toArray tn_Fault)
  (dV4_Fault : Vals [.non] ti_Fault)
  (z_super : PySem.W.nsIn K mainGlobals "super" = some none)
  (z_tp : PySem.W.nsIn K cStatics "thirdparty.any" = some none)
  (z_int : PySem.W.nsIn K mainGlobals "int" = some none)
  (z_bool : PySem.W.nsIn K mainGlobals "bool" = some none)
  (z_abs : PySem.W.nsIn K mainGlobals "abs" = some none)
  (z_len : PySem.W.nsIn K mainGlobals "len" = some none)
  (z_isinstance : PySem.W.nsIn K mainGlobals "isinstance" = some none)
  (z_repr : PySem.W.nsIn K mainGlobals "repr" = some none)
  (z_all : PySem.W.nsIn K mainGlobals "all" = some none)
  (z_range : PySem.W.nsIn K mainGlobals "range" = some none)
  (z_tuple : PySem.W.nsIn K mainGlobals "tuple" = some none)
  (z_list : PySem.W.nsIn K mainGlobals "list" = some none)
  (z_ValueError : PySem.W.nsIn K mainGlobals "ValueError" = some none)
  (q_LEAST_SIZE : PySem.W.nsIn K mainGlobals "LEAST_SIZE" = some (some (.int 2 tk_LEAST_SIZE)))
  (q_MOST_SIZE : PySem.W.nsIn K mainGlobals "MOST_SIZE" = some (some (.int 4 tk_MOST_SIZE)))
  (q_LEAST_MOST : PySem.W.nsIn K mainGlobals "LEAST_MOST" = some (some (.int 1 tk_LEAST_MOST)))
  (q_GREATEST_MOST : PySem.W.nsIn K mainGlobals "GREATEST_MOST" = some (some (.int 2 tk_GREATEST_MOST)))
  (x_cg : PySem.W.specialIn K (.builtin "object.__class__") "__get__" = some (some (.builtin "getset_descriptor.__get__")))
  (x_ct : PySem.W.takesIn K (.builtin "object.__class__") = some true)
  (x_rcc : PySem.W.findIn K (.ref C_Row) "__class__" = some (some (.builtin "object.__class__")))
  (x_rcm : PySem.W.mroIn K C_Row (.type "object") = some true)
  (x_eBadSizecc : PySem.W.findIn K (.ref C_BadSize) "__class__" = some (some (.builtin "object.__class__")))
  (x_eBadSizecm : PySem.W.mroIn K C_BadSize (.type "object") = some true)
  (x_eBadMostcc : PySem.W.findIn K (.ref C_BadMost) "__class__" = some (some (.builtin "object.__class__")))
  (x_eBadMostcm : PySem.W.mroIn K C_BadMost (.type "object") = some true)
  (x_eBadItemscc : PySem.W.findIn K (.ref C_BadItems) "__class__" = some (some (.builtin "object.__class__")))
  (x_eBadItemscm : PySem.W.mroIn K C_BadItems (.type "object") = some true)
  (x_eFaultcc : PySem.W.findIn K (.ref C_Fault) "__class__" = some (some (.builtin "object.__class__")))
  (x_eFaultcm : PySem.W.mroIn K C_Fault (.type "object") = some true)
  (x_r3 : PySem.W.subIn K (.ref C_Row) (.ref C_Row) = some true)
  (x_n_size : PySem.W.findIn K (.ref C_Row) "own_size" = some none)
  (x_n_most : PySem.W.findIn K (.ref C_Row) "own_most" = some none)
  (x_n_worths : PySem.W.findIn K (.ref C_Row) "own_worths" = some none)
  (x_n_counter : PySem.W.findIn K (.ref C_Row) "own_counter" = some none)
  (x_n_name : PySem.W.findIn K (.ref C_Row) "own_name" = some none)
  (x_te : PySem.W.subIn K (.ref C_TapeError) (.type "BaseException") = some true)
  (x_td : PySem.W.hasDictIn K C_TapeError = true)
  (x_tt : PySem.W.typeIn K (.ref C_TapeError) = some (.type "type"))
  (x_tBadSize : PySem.W.subIn K (.ref C_BadSize) (.ref C_TapeError) = some true)
  (x_dBadSize : PySem.W.hasDictIn K C_BadSize = true)
  (x_yBadSize : PySem.W.typeIn K (.ref C_BadSize) = some (.type "type"))
  (x_vBadBadSize : PySem.W.kitOne K (.ref C_BadSize) (.type "ValueError") = some true)
  (x_kBadSizeBadSize : PySem.W.subIn K (.ref C_BadSize) (.ref C_BadSize) = some true)
  (x_kBadSizeBadMost : PySem.W.subIn K (.ref C_BadSize) (.ref C_BadMost) = some false)
  (x_kBadSizeBadItems : PySem.W.subIn K (.ref C_BadSize) (.ref C_BadItems) = some false)
  (x_tBadMost : PySem.W.subIn K (.ref C_BadMost) (.ref C_TapeError) = some true)
  (x_dBadMost : PySem.W.hasDictIn K C_BadMost = true)
  (x_yBadMost : PySem.W.typeIn K (.ref C_BadMost) = some (.type "type"))
  (x_vBadBadMost : PySem.W.kitOne K (.ref C_BadMost) (.type "ValueError") = some true)
  (x_kBadMostBadSize : PySem.W.subIn K (.ref C_BadMost) (.ref C_BadSize) = some false)
  (x_kBadMostBadMost : PySem.W.subIn K (.ref C_BadMost) (.ref C_BadMost) = some true)
  (x_kBadMostBadItems : PySem.W.subIn K (.ref C_BadMost) (.ref C_BadItems) = some false)
  (x_tBadItems : PySem.W.subIn K (.ref C_BadItems) (.ref C_TapeError) = some true)
  (x_dBadItems : PySem.W.hasDictIn K C_BadItems = true)
  (x_yBadItems : PySem.W.typeIn K (.ref C_BadItems) = some (.type "type"))
  (x_vBadBadItems : PySem.W.kitOne K (.ref C_BadItems) (.type "ValueError") = some true)
  (x_kBadItemsBadSize : PySem.W.subIn K (.ref C_BadItems) (.ref C_BadSize) = some false)
  (x_kBadItemsBadMost : PySem.W.subIn K (.ref C_BadItems) (.ref C_BadMost) = some false)
  (x_kBadItemsBadItems : PySem.W.subIn K (.ref C_BadItems) (.ref C_BadItems) = some true)
  (x_tFault : PySem.W.subIn K (.ref C_Fault) (.ref C_TapeError) = some true)
  (x_dFault : PySem.W.hasDictIn K C_Fault = true)
  (x_yFault : PySem.W.typeIn K (.ref C_Fault) = some (.type "type"))
  (x_rflA : cd__law_right = .ref cA)
  (x_kerT : noTab K cA = true) : Tx P K mg where
  C_Row := C_Row
  Row_mg := PySem.W.mg_of X G a_Row
  C_BadSize := C_BadSize
  BadSize_mg := PySem.W.mg_of X G a_BadSize
  C_BadMost := C_BadMost
  BadMost_mg := PySem.W.mg_of X G a_BadMost
  C_BadItems := C_BadItems
  BadItems_mg := PySem.W.mg_of X G a_BadItems
  C_Fault := C_Fault
  Fault_mg := PySem.W.mg_of X G a_Fault
  C_TapeError := C_TapeError
  TapeError_mg := PySem.W.mg_of X G a_TapeError
  Row_cl := ⟨pg_Row, hd_Row, po_Row, sa_Row⟩
  Row_ty := ⟨cls_some hd_Row, tc_Row⟩
  F_is_integer := F_is_integer
  fd_is_integer := (PySem.W.fnOf "is_integer" "is_integer" (defArgs s_is_integer) (defBody s_is_integer) (defScope s_is_integer) .none kV_is_integer dc_is_integer pm_is_integer an_is_integer cd_is_integer ct_is_integer)
  is_integer_ok := fun_mk l_is_integer c_is_integer k_is_integer
  b_is_integer := (fun_mk (st := s_is_integer) l_is_integer c_is_integer k_is_integer).binds (ps := ["value"]) fun _ _ _ _ _ _ us hl => match us, hl with | [_], _ => rfl
  is_integer_mg := PySem.W.mg_of X G g_is_integer
  F_is_from := F_is_from
  fd_is_from := (PySem.W.fnOf "is_from" "is_from" (defArgs s_is_from) (defBody s_is_from) (defScope s_is_from) .none kV_is_from dc_is_from pm_is_from an_is_from cd_is_from ct_is_from)
  is_from_ok := fun_mk l_is_from c_is_from k_is_from
  b_is_from := (fun_mk (st := s_is_from) l_is_from c_is_from k_is_from).binds (ps := ["value", "low", "high"]) fun _ _ _ _ _ _ us hl => match us, hl with | [_, _, _], _ => rfl
  is_from_mg := PySem.W.mg_of X G g_is_from
  F_are_items := F_are_items
  fd_are_items := (PySem.W.fnOf "are_items" "are_items" (defArgs s_are_items) (defBody s_are_items) (defScope s_are_items) .none kV_are_items dc_are_items pm_are_items an_are_items cd_are_items ct_are_items)
  are_items_ok := fun_mk l_are_items c_are_items k_are_items
  b_are_items := (fun_mk (st := s_are_items) l_are_items c_are_items k_are_items).binds (ps := ["size", "most", "value"]) fun _ _ _ _ _ _ us hl => match us, hl with | [_, _, _], _ => rfl
  are_items_mg := PySem.W.mg_of X G g_are_items
  F_Row___init__ := F_Row___init__
  fd_Row___init__ := (PySem.W.fnOf "__init__" "Row.__init__" (defArgs s_Row___init__) (defBody s_Row___init__) (defScope s_Row___init__) .none kV_Row___init__ dc_Row___init__ pm_Row___init__ an_Row___init__ cd_Row___init__ ct_Row___init__)
  Row___init___ok := fun_mk l_Row___init__ c_Row___init__ k_Row___init__
  b_Row___init__ := (fun_mk (st := s_Row___init__) l_Row___init__ c_Row___init__ k_Row___init__).binds (ps := ["self", "size", "most", "items"]) fun _ _ _ _ _ _ us hl => match us, hl with | [_, _, _, _], _ => rfl
  Row___init___sl := ⟨g_Row___init__, i_Row___init__⟩
  Row_mk := ⟨mk_Row, g_Row___init__, i_Row___init__, kc_Row⟩
  F_Row_worths := F_Row_worths
  fd_Row_worths := (PySem.W.fnOf "worths" "Row.worths" (defArgs s_Row_worths) (defBody s_Row_worths) (defScope s_Row_worths) .none kV_Row_worths dc_Row_worths pm_Row_worths an_Row_worths cd_Row_worths ct_Row_worths)
  Row_worths_ok := fun_mk l_Row_worths c_Row_worths k_Row_worths
  b_Row_worths := (fun_mk (st := s_Row_worths) l_Row_worths c_Row_worths k_Row_worths).binds (ps := ["self"]) fun _ _ _ _ _ _ us hl => match us, hl with | [_], _ => rfl
  pr_Row_worths := pr_Row_worths
  Row_worths_pr := ⟨g_Row_worths, gg_Row_worths, gt_Row_worths, _, gr_Row_worths⟩
  F__law_pot := F__law_pot
  fd__law_pot := (PySem.W.fnOf "_law_pot" "_law_pot" (defArgs s__law_pot) (defBody s__law_pot) (defScope s__law_pot) .none kV__law_pot dc__law_pot pm__law_pot an__law_pot cd__law_pot ct__law_pot)
  _law_pot_ok := fun_mk l__law_pot c__law_pot k__law_pot
  b__law_pot := (fun_mk (st := s__law_pot) l__law_pot c__law_pot k__law_pot).binds (ps := ["_law_script", "_law_k"]) fun _ _ _ _ _ _ us hl => match us, hl with | [_, _], _ => rfl
  _law_pot_mg := PySem.W.mg_of X G g__law_pot
  F__law_take := F__law_take
  fd__law_take := (PySem.W.fnOf "_law_take" "_law_take" (defArgs s__law_take) (defBody s__law_take) (defScope s__law_take) .none kV__law_take dc__law_take pm__law_take an__law_take cd__law_take ct__law_take)
  _law_take_ok := fun_mk l__law_take c__law_take k__law_take
  b__law_take := (fun_mk (st := s__law_take) l__law_take c__law_take k__law_take).binds (ps := ["_law_pot_here", "_law_upto"]) fun _ _ _ _ _ _ us hl => match us, hl with | [_, _], _ => rfl
  _law_take_mg := PySem.W.mg_of X G g__law_take
  F__law_of := F__law_of
  fd__law_of := (PySem.W.fnOf "_law_of" "_law_of" (defArgs s__law_of) (defBody s__law_of) (defScope s__law_of) .none kV__law_of dc__law_of pm__law_of an__law_of cd__law_of ct__law_of)
  _law_of_ok := fun_mk l__law_of c__law_of k__law_of
  b__law_of := (fun_mk (st := s__law_of) l__law_of c__law_of k__law_of).binds (ps := ["_law_pot_here", "_law_some"]) fun _ _ _ _ _ _ us hl => match us, hl with | [_, _], _ => rfl
  _law_of_mg := PySem.W.mg_of X G g__law_of
  F__law_any := F__law_any
  fd__law_any := (PySem.W.fnOf "_law_any" "_law_any" (defArgs s__law_any) (defBody s__law_any) (defScope s__law_any) .none kV__law_any dc__law_any pm__law_any an__law_any cd__law_any ct__law_any)
  _law_any_ok := fun_mk l__law_any c__law_any k__law_any
  b__law_any := (fun_mk (st := s__law_any) l__law_any c__law_any k__law_any).binds (ps := ["_law_pot_here"]) fun _ _ _ _ _ _ us hl => match us, hl with | [_], _ => rfl
  _law_any_mg := PySem.W.mg_of X G g__law_any
  F__law_drawn := F__law_drawn
  fd__law_drawn := (PySem.W.fnOf "_law_drawn" "_law_drawn" (defArgs s__law_drawn) (defBody s__law_drawn) (defScope s__law_drawn) .none kV__law_drawn dc__law_drawn pm__law_drawn an__law_drawn cd__law_drawn ct__law_drawn)
  _law_drawn_ok := fun_mk l__law_drawn c__law_drawn k__law_drawn
  b__law_drawn := (fun_mk (st := s__law_drawn) l__law_drawn c__law_drawn k__law_drawn).binds (ps := ["_law_pot_here", "_law_some"]) fun _ _ _ _ _ _ us hl => match us, hl with | [_, _], _ => rfl
  _law_drawn_mg := PySem.W.mg_of X G g__law_drawn
  F__law_items := F__law_items
  fd__law_items := (PySem.W.fnOf "_law_items" "_law_items" (defArgs s__law_items) (defBody s__law_items) (defScope s__law_items) .none kV__law_items dc__law_items pm__law_items an__law_items cd__law_items ct__law_items)
  _law_items_ok := fun_mk l__law_items c__law_items k__law_items
  b__law_items := (fun_mk (st := s__law_items) l__law_items c__law_items k__law_items).binds (ps := ["_law_pot_here"]) fun _ _ _ _ _ _ us hl => match us, hl with | [_], _ => rfl
  _law_items_mg := PySem.W.mg_of X G g__law_items
  F__law_is_from := F__law_is_from
  fd__law_is_from := (PySem.W.fnOf "_law_is_from" "_law_is_from" (defArgs s__law_is_from) (defBody s__law_is_from) (defScope s__law_is_from) .none kV__law_is_from dc__law_is_from pm__law_is_from an__law_is_from cd__law_is_from ct__law_is_from)
  _law_is_from_ok := fun_mk l__law_is_from c__law_is_from k__law_is_from
  b__law_is_from := (fun_mk (st := s__law_is_from) l__law_is_from c__law_is_from k__law_is_from).binds (ps := ["_law_value", "_law_low", "_law_high"]) fun _ _ _ _ _ _ us hl => match us, hl with | [_, _, _], _ => rfl
  _law_is_from_mg := PySem.W.mg_of X G g__law_is_from
  F__law_due := F__law_due
  fd__law_due := (PySem.W.fnOf "_law_due" "_law_due" (defArgs s__law_due) (defBody s__law_due) (defScope s__law_due) .none kV__law_due dc__law_due pm__law_due an__law_due cd__law_due ct__law_due)
  _law_due_ok := fun_mk l__law_due c__law_due k__law_due
  b__law_due := (fun_mk (st := s__law_due) l__law_due c__law_due k__law_due).binds (ps := ["_law_girth", "_law_cap", "_law_things"]) fun _ _ _ _ _ _ us hl => match us, hl with | [_, _, _], _ => rfl
  _law_due_mg := PySem.W.mg_of X G g__law_due
  F__law_heard := F__law_heard
  fd__law_heard := (PySem.W.fnOf "_law_heard" "_law_heard" (defArgs s__law_heard) (defBody s__law_heard) (defScope s__law_heard) .none kV__law_heard dc__law_heard pm__law_heard an__law_heard cd__law_heard ct__law_heard)
  _law_heard_ok := fun_mk l__law_heard c__law_heard k__law_heard
  b__law_heard := (fun_mk (st := s__law_heard) l__law_heard c__law_heard k__law_heard).binds (ps := ["_law_call"]) fun _ _ _ _ _ _ us hl => match us, hl with | [_], _ => rfl
  _law_heard_mg := PySem.W.mg_of X G g__law_heard
  F__law_right := F__law_right
  fd__law_right := (PySem.W.fnOf "_law_right" "_law_right" (defArgs s__law_right) (defBody s__law_right) (defScope s__law_right) .none kV__law_right dc__law_right pm__law_right an__law_right cd__law_right ct__law_right)
  _law_right_ok := fun_mk l__law_right c__law_right k__law_right
  b__law_right := (fun_mk (st := s__law_right) l__law_right c__law_right k__law_right).binds (ps := ["_law_pot_here"]) fun _ _ _ _ _ _ us hl => match us, hl with | [_], _ => rfl
  _law_right_mg := PySem.W.mg_of X G g__law_right
  F_law := F_law
  fd_law := (PySem.W.fnOf "law" "law" (defArgs s_law) (defBody s_law) (defScope s_law) .none kV_law dc_law pm_law an_law cd_law ct_law)
  law_ok := fun_mk l_law c_law k_law
  b_law := (fun_mk (st := s_law) l_law c_law k_law).binds (ps := ["_law_script"]) fun _ _ _ _ _ _ us hl => match us, hl with | [_], _ => rfl
  law_mg := PySem.W.mg_of X G g_law
  BadSize_err := ⟨⟨_, (PySem.W.ksFn "__init__" "BadSize.__init__" (defArgs (inClass (topS 4) 0)) (defBody (inClass (topS 4) 0)) (defScope (inClass (topS 4) 0)) .none ekV_BadSize edc_BadSize epm_BadSize ean_BadSize (.ref ecd_BadSize) ect_BadSize ecc_BadSize), ⟨⟨_, _, _, _, _, _, _, _, _, _, _, _, _, _, _, e1_BadSize, e2_BadSize⟩, e3_BadSize, e4_BadSize, e5_BadSize, e6_BadSize, e7_BadSize, e8_BadSize, z_super, z_tp, hP.1, (by intro f hf; simp only [List.mem_cons, List.not_mem_nil, or_false] at hf; subst hf; exact ef0_BadSize), ⟨_, _, _, _, _, _, _, _, _, _, _, _, _, _, _, rfl, e9_BadSize, ea_BadSize, ⟨_, _, _, _, _, _, eb_BadSize, ec_BadSize, ed_BadSize⟩, ⟨_, _, _, ee_BadSize⟩, ⟨_, rfl, rfl⟩, ⟨rfl, rfl, rfl, by decide +kernel, by decide +kernel, by decide +kernel, by decide +kernel, by decide +kernel, by decide +kernel, by decide +kernel⟩, .inl ⟨_, _, _, _, _, _, _, _, _, _, _, rfl, rfl, rfl⟩⟩⟩, (.all fun us hl => match us, hl with | [_, _], _ => rfl)⟩, PySem.W.mg_of X G a_BadSize, ek_BadSize, ex_BadSize, et_BadSize⟩
  BadSize_ew := ⟨⟨_, (PySem.W.ksFn "__init__" "BadSize.__init__" (defArgs (inClass (topS 4) 0)) (defBody (inClass (topS 4) 0)) (defScope (inClass (topS 4) 0)) .none ekV_BadSize edc_BadSize epm_BadSize ean_BadSize (.ref ecd_BadSize) ect_BadSize ecc_BadSize), [], ⟨⟨_, _, _, _, _, _, _, _, _, _, _, _, _, _, _, e1_BadSize, e2_BadSize⟩, e3_BadSize, e4_BadSize, e5_BadSize, e6_BadSize, e7_BadSize, e8_BadSize, z_super, z_tp, hP.1, (by intro f hf; simp only [List.mem_cons, List.not_mem_nil, or_false] at hf; subst hf; exact ef0_BadSize), ⟨_, _, _, _, _, _, _, _, _, _, _, _, _, _, _, rfl, e9_BadSize, ea_BadSize, ⟨_, _, _, _, _, _, eb_BadSize, ec_BadSize, ed_BadSize⟩, ⟨_, _, _, ee_BadSize⟩, ⟨_, rfl, rfl⟩, ⟨rfl, rfl, rfl, by decide +kernel, by decide +kernel, by decide +kernel, by decide +kernel, by decide +kernel, by decide +kernel, by decide +kernel⟩, .inl ⟨_, _, _, _, _, _, _, _, _, _, _, rfl, rfl, rfl⟩⟩⟩, .nil, fun s x ws _ hl => match ws, hl with | [_], _ => .of_eq rfl⟩, PySem.W.mg_of X G a_BadSize, ek_BadSize⟩
  BadSize_xf := ⟨eg_BadSize, ei_BadSize, ex_BadSize, eh_BadSize⟩
  BadSize_no0 := ef0_BadSize
  BadSize_te := EXM ex_BadSize eh_BadSize et_BadSize e8_BadSize
  BadMost_err := ⟨⟨_, (PySem.W.ksFn "__init__" "BadMost.__init__" (defArgs (inClass (topS 6) 0)) (defBody (inClass (topS 6) 0)) (defScope (inClass (topS 6) 0)) .none ekV_BadMost edc_BadMost epm_BadMost ean_BadMost (.ref ecd_BadMost) ect_BadMost ecc_BadMost), ⟨⟨_, _, _, _, _, _, _, _, _, _, _, _, _, _, _, e1_BadMost, e2_BadMost⟩, e3_BadMost, e4_BadMost, e5_BadMost, e6_BadMost, e7_BadMost, e8_BadMost, z_super, z_tp, hP.1, (by intro f hf; simp only [List.mem_cons, List.not_mem_nil, or_false] at hf; subst hf; exact ef0_BadMost), ⟨_, _, _, _, _, _, _, _, _, _, _, _, _, _, _, rfl, e9_BadMost, ea_BadMost, ⟨_, _, _, _, _, _, eb_BadMost, ec_BadMost, ed_BadMost⟩, ⟨_, _, _, ee_BadMost⟩, ⟨_, rfl, rfl⟩, ⟨rfl, rfl, rfl, by decide +kernel, by decide +kernel, by decide +kernel, by decide +kernel, by decide +kernel, by decide +kernel, by decide +kernel⟩, .inl ⟨_, _, _, _, _, _, _, _, _, _, _, rfl, rfl, rfl⟩⟩⟩, (.all fun us hl => match us, hl with | [_, _], _ => rfl)⟩, PySem.W.mg_of X G a_BadMost, ek_BadMost, ex_BadMost, et_BadMost⟩
  BadMost_ew := ⟨⟨_, (PySem.W.ksFn "__init__" "BadMost.__init__" (defArgs (inClass (topS 6) 0)) (defBody (inClass (topS 6) 0)) (defScope (inClass (topS 6) 0)) .none ekV_BadMost edc_BadMost epm_BadMost ean_BadMost (.ref ecd_BadMost) ect_BadMost ecc_BadMost), [], ⟨⟨_, _, _, _, _, _, _, _, _, _, _, _, _, _, _, e1_BadMost, e2_BadMost⟩, e3_BadMost, e4_BadMost, e5_BadMost, e6_BadMost, e7_BadMost, e8_BadMost, z_super, z_tp, hP.1, (by intro f hf; simp only [List.mem_cons, List.not_mem_nil, or_false] at hf; subst hf; exact ef0_BadMost), ⟨_, _, _, _, _, _, _, _, _, _, _, _, _, _, _, rfl, e9_BadMost, ea_BadMost, ⟨_, _, _, _, _, _, eb_BadMost, ec_BadMost, ed_BadMost⟩, ⟨_, _, _, ee_BadMost⟩, ⟨_, rfl, rfl⟩, ⟨rfl, rfl, rfl, by decide +kernel, by decide +kernel, by decide +kernel, by decide +kernel, by decide +kernel, by decide +kernel, by decide +kernel⟩, .inl ⟨_, _, _, _, _, _, _, _, _, _, _, rfl, rfl, rfl⟩⟩⟩, .nil, fun s x ws _ hl => match ws, hl with | [_], _ => .of_eq rfl⟩, PySem.W.mg_of X G a_BadMost, ek_BadMost⟩
  BadMost_xf := ⟨eg_BadMost, ei_BadMost, ex_BadMost, eh_BadMost⟩
  BadMost_no0 := ef0_BadMost
  BadMost_te := EXM ex_BadMost eh_BadMost et_BadMost e8_BadMost
  BadItems_err := ⟨⟨_, (PySem.W.ksFn "__init__" "BadItems.__init__" (defArgs (inClass (topS 7) 0)) (defBody (inClass (topS 7) 0)) (defScope (inClass (topS 7) 0)) .none ekV_BadItems edc_BadItems epm_BadItems ean_BadItems (.ref ecd_BadItems) ect_BadItems ecc_BadItems), ⟨⟨_, _, _, _, _, _, _, _, _, _, _, _, _, _, _, e1_BadItems, e2_BadItems⟩, e3_BadItems, e4_BadItems, e5_BadItems, e6_BadItems, e7_BadItems, e8_BadItems, z_super, z_tp, hP.1, (by intro f hf; simp only [List.mem_cons, List.not_mem_nil, or_false] at hf; subst hf; exact ef0_BadItems), ⟨_, _, _, _, _, _, _, _, _, _, _, _, _, _, _, rfl, e9_BadItems, ea_BadItems, ⟨_, _, _, _, _, _, eb_BadItems, ec_BadItems, ed_BadItems⟩, ⟨_, _, _, ee_BadItems⟩, ⟨_, rfl, rfl⟩, ⟨rfl, rfl, rfl, by decide +kernel, by decide +kernel, by decide +kernel, by decide +kernel, by decide +kernel, by decide +kernel, by decide +kernel⟩, .inl ⟨_, _, _, _, _, _, _, _, _, _, _, rfl, rfl, rfl⟩⟩⟩, (.all fun us hl => match us, hl with | [_, _], _ => rfl)⟩, PySem.W.mg_of X G a_BadItems, ek_BadItems, ex_BadItems, et_BadItems⟩
  BadItems_ew := ⟨⟨_, (PySem.W.ksFn "__init__" "BadItems.__init__" (defArgs (inClass (topS 7) 0)) (defBody (inClass (topS 7) 0)) (defScope (inClass (topS 7) 0)) .none ekV_BadItems edc_BadItems epm_BadItems ean_BadItems (.ref ecd_BadItems) ect_BadItems ecc_BadItems), [], ⟨⟨_, _, _, _, _, _, _, _, _, _, _, _, _, _, _, e1_BadItems, e2_BadItems⟩, e3_BadItems, e4_BadItems, e5_BadItems, e6_BadItems, e7_BadItems, e8_BadItems, z_super, z_tp, hP.1, (by intro f hf; simp only [List.mem_cons, List.not_mem_nil, or_false] at hf; subst hf; exact ef0_BadItems), ⟨_, _, _, _, _, _, _, _, _, _, _, _, _, _, _, rfl, e9_BadItems, ea_BadItems, ⟨_, _, _, _, _, _, eb_BadItems, ec_BadItems, ed_BadItems⟩, ⟨_, _, _, ee_BadItems⟩, ⟨_, rfl, rfl⟩, ⟨rfl, rfl, rfl, by decide +kernel, by decide +kernel, by decide +kernel, by decide +kernel, by decide +kernel, by decide +kernel, by decide +kernel⟩, .inl ⟨_, _, _, _, _, _, _, _, _, _, _, rfl, rfl, rfl⟩⟩⟩, .nil, fun s x ws _ hl => match ws, hl with | [_], _ => .of_eq rfl⟩, PySem.W.mg_of X G a_BadItems, ek_BadItems⟩
  BadItems_xf := ⟨eg_BadItems, ei_BadItems, ex_BadItems, eh_BadItems⟩
  BadItems_no0 := ef0_BadItems
  BadItems_te := EXM ex_BadItems eh_BadItems et_BadItems e8_BadItems
  Fault_err := ⟨⟨_, (PySem.W.ksFn "__init__" "Fault.__init__" (defArgs (inClass (topS 3) 0)) (defBody (inClass (topS 3) 0)) (defScope (inClass (topS 3) 0)) edV_Fault ekV_Fault edc_Fault epm_Fault ean_Fault (.ref ecd_Fault) ect_Fault ecc_Fault), ⟨⟨_, _, _, _, _, _, _, _, _, _, _, _, _, _, _, e1_Fault, e2_Fault⟩, e3_Fault, e4_Fault, e5_Fault, e6_Fault, e7_Fault, e8_Fault, z_super, z_tp, hP.1, (by intro f hf; simp only [List.mem_cons, List.not_mem_nil, or_false] at hf; rcases hf with rfl | rfl; exact ef0_Fault; exact ef1_Fault), ⟨_, _, _, _, _, _, _, _, _, _, _, _, _, _, _, rfl, e9_Fault, ea_Fault, ⟨_, _, _, _, _, _, eb_Fault, ec_Fault, ed_Fault⟩, ⟨_, _, _, ee_Fault⟩, ⟨_, rfl, rfl⟩, ⟨rfl, rfl, rfl, by decide +kernel, by decide +kernel, by decide +kernel, by decide +kernel, by decide +kernel, by decide +kernel, by decide +kernel⟩, .inr ⟨_, _, _, _, _, _, _, _, _, _, _, _, _, _, _, _, rfl, rfl, by decide +kernel, rfl⟩⟩⟩, (by subst dV1_Fault; cases dV4_Fault with | cons r t => cases t; exact binds_ks dV2_Fault dV3_Fault fun us hl => match us, hl with | [_, _, _], _ => ⟨_, rfl, rfl⟩)⟩, PySem.W.mg_of X G a_Fault, ek_Fault, ex_Fault, et_Fault⟩
  Fault_ew := ⟨(by subst dV1_Fault; cases dV4_Fault with | cons r t => cases t; exact ⟨_, _, _, ⟨⟨_, _, _, _, _, _, _, _, _, _, _, _, _, _, _, e1_Fault, e2_Fault⟩, e3_Fault, e4_Fault, e5_Fault, e6_Fault, e7_Fault, e8_Fault, z_super, z_tp, hP.1, (by intro f hf; simp only [List.mem_cons, List.not_mem_nil, or_false] at hf; rcases hf with rfl | rfl; exact ef0_Fault; exact ef1_Fault), ⟨_, _, _, _, _, _, _, _, _, _, _, _, _, _, _, rfl, e9_Fault, ea_Fault, ⟨_, _, _, _, _, _, eb_Fault, ec_Fault, ed_Fault⟩, ⟨_, _, _, ee_Fault⟩, ⟨_, rfl, rfl⟩, ⟨rfl, rfl, rfl, by decide +kernel, by decide +kernel, by decide +kernel, by decide +kernel, by decide +kernel, by decide +kernel, by decide +kernel⟩, .inr ⟨_, _, _, _, _, _, _, _, _, _, _, _, _, _, _, _, rfl, rfl, by decide +kernel, rfl⟩⟩⟩, .cons r .nil, fun s x ws XX hl => match ws, hl with | [_], _ => BindsTo.of_looks fun M => looks_items XX dV2_Fault dV3_Fault (.of_pure rfl)⟩), PySem.W.mg_of X G a_Fault, ek_Fault⟩
  Fault_ep := ⟨(by subst dV1_Fault; cases dV4_Fault with | cons r t => cases t; exact ⟨_, _, _, ⟨⟨_, _, _, _, _, _, _, _, _, _, _, _, _, _, _, e1_Fault, e2_Fault⟩, e3_Fault, e4_Fault, e5_Fault, e6_Fault, e7_Fault, e8_Fault, z_super, z_tp, hP.1, (by intro f hf; simp only [List.mem_cons, List.not_mem_nil, or_false] at hf; rcases hf with rfl | rfl; exact ef0_Fault; exact ef1_Fault), ⟨_, _, _, _, _, _, _, _, _, _, _, _, _, _, _, rfl, e9_Fault, ea_Fault, ⟨_, _, _, _, _, _, eb_Fault, ec_Fault, ed_Fault⟩, ⟨_, _, _, ee_Fault⟩, ⟨_, rfl, rfl⟩, ⟨rfl, rfl, rfl, by decide +kernel, by decide +kernel, by decide +kernel, by decide +kernel, by decide +kernel, by decide +kernel, by decide +kernel⟩, .inr ⟨_, _, _, _, _, _, _, _, _, _, _, _, _, _, _, _, rfl, rfl, by decide +kernel, rfl⟩⟩⟩, .cons r .nil, fun s x ws XX hl => match ws, hl with | [_], _ => BindsTo.of_looks fun M => looks_items XX dV2_Fault dV3_Fault (.of_pure rfl)⟩), PySem.W.mg_of X G a_Fault, ek_Fault⟩
  Fault_xf := ⟨eg_Fault, ei_Fault, ex_Fault, eh_Fault⟩
  Fault_no0 := ef0_Fault
  Fault_no1 := ef1_Fault
  Fault_te := EXM ex_Fault eh_Fault et_Fault e8_Fault
  b_int := PySem.W.mg_none_of X G z_int
  b_bool := PySem.W.mg_none_of X G z_bool
  b_abs := PySem.W.mg_none_of X G z_abs
  b_len := PySem.W.mg_none_of X G z_len
  b_isinstance := PySem.W.mg_none_of X G z_isinstance
  b_repr := PySem.W.mg_none_of X G z_repr
  b_all := PySem.W.mg_none_of X G z_all
  b_range := PySem.W.mg_none_of X G z_range
  b_tuple := PySem.W.mg_none_of X G z_tuple
  b_list := PySem.W.mg_none_of X G z_list
  b_ValueError := PySem.W.mg_none_of X G z_ValueError
  tk_LEAST_SIZE := tk_LEAST_SIZE
  k_LEAST_SIZE := PySem.W.mg_of X G q_LEAST_SIZE
  tk_MOST_SIZE := tk_MOST_SIZE
  k_MOST_SIZE := PySem.W.mg_of X G q_MOST_SIZE
  tk_LEAST_MOST := tk_LEAST_MOST
  k_LEAST_MOST := PySem.W.mg_of X G q_LEAST_MOST
  tk_GREATEST_MOST := tk_GREATEST_MOST
  k_GREATEST_MOST := PySem.W.mg_of X G q_GREATEST_MOST
  x_cg := x_cg
  x_ct := x_ct
  x_rcc := x_rcc
  x_rcm := x_rcm
  x_eBadSizecc := x_eBadSizecc
  x_eBadSizecm := x_eBadSizecm
  x_eBadMostcc := x_eBadMostcc
  x_eBadMostcm := x_eBadMostcm
  x_eBadItemscc := x_eBadItemscc
  x_eBadItemscm := x_eBadItemscm
  x_eFaultcc := x_eFaultcc
  x_eFaultcm := x_eFaultcm
  x_r3 := x_r3
  x_n_size := x_n_size
  x_n_most := x_n_most
  x_n_worths := x_n_worths
  x_n_counter := x_n_counter
  x_n_name := x_n_name
  x_te := x_te
  x_td := x_td
  x_tt := x_tt
  x_tBadSize := x_tBadSize
  x_dBadSize := x_dBadSize
  x_yBadSize := x_yBadSize
  x_vBadBadSize := x_vBadBadSize
  x_kBadSizeBadSize := x_kBadSizeBadSize
  x_kBadSizeBadMost := x_kBadSizeBadMost
  x_kBadSizeBadItems := x_kBadSizeBadItems
  x_tBadMost := x_tBadMost
  x_dBadMost := x_dBadMost
  x_yBadMost := x_yBadMost
  x_vBadBadMost := x_vBadBadMost
  x_kBadMostBadSize := x_kBadMostBadSize
  x_kBadMostBadMost := x_kBadMostBadMost
  x_kBadMostBadItems := x_kBadMostBadItems
  x_tBadItems := x_tBadItems
  x_dBadItems := x_dBadItems
  x_yBadItems := x_yBadItems
  x_vBadBadItems := x_vBadBadItems
  x_kBadItemsBadSize := x_kBadItemsBadSize
  x_kBadItemsBadMost := x_kBadItemsBadMost
  x_kBadItemsBadItems := x_kBadItemsBadItems
  x_tFault := x_tFault
  x_dFault := x_dFault
  x_yFault := x_yFault
  x_rflA := by subst x_rflA; exact ⟨cA, ⟨_, _, _, _, _, _, _, _, rfl, l__law_right, c__law_right⟩, x_kerT⟩
  x_kerT := trivial

end K03

namespace K03
open PySem PySem.Spec PyProof.Rows L2 L2.TP
/-! ### Rows -/
def rf (n m : Int) (t : V) : List (Str × V) := [("own_size", .int n), ("own_most", .int m), ("own_worths", t), ("own_counter", .non), ("own_name", .non)]
theorem lk_no {k a : Str} {b : V} {l : List (Str × V)} (h : (k == a) = false) : List.lookup k ((a, b) :: l) = List.lookup k l := by simp [List.lookup, h]
theorem lk_yes {k : Str} {b : V} {l : List (Str × V)} : List.lookup k ((k, b) :: l) = some b := by simp [List.lookup]
theorem pf_no {f g : Str} {v x : V} {r : List (Str × V)} (h : (g == f) = false) : putF f v ((g, x) :: r) = (g, x) :: putF f v r := by
  show (if g = f then _ else _) = _
  rw [if_neg (by simpa using h)]
theorem pf_yes {f : Str} {v x : V} {r : List (Str × V)} : putF f v ((f, x) :: r) = (f, v) :: r := by
  show (if f = f then _ else _) = _
  rw [if_pos rfl]
theorem pf_nil {f : Str} {v : V} : putF f v [] = [(f, v)] := rfl
theorem rf_size (n m : Int) (t : V) : (rf n m t).lookup ("own_size" : Str) = some (.int n) := lk_yes
theorem rf_most (n m : Int) (t : V) : (rf n m t).lookup ("own_most" : Str) = some (.int m) := (lk_no (by decide +kernel)).trans lk_yes
theorem rf_worths (n m : Int) (t : V) : (rf n m t).lookup ("own_worths" : Str) = some t := (lk_no (by decide +kernel)).trans ((lk_no (by decide +kernel)).trans lk_yes)
theorem rf_counter (n m : Int) (t : V) : (rf n m t).lookup ("own_counter" : Str) = some .non := (lk_no (by decide +kernel)).trans ((lk_no (by decide +kernel)).trans ((lk_no (by decide +kernel)).trans lk_yes))
theorem rf_put (n m : Int) (t t' : V) : putF "own_worths" t' (rf n m t) = rf n m t' := by
  unfold rf
  rw [pf_no (by decide +kernel), pf_no (by decide +kernel), pf_yes]
theorem pf_b {f : Str} {v : V} : ∀ {l : List (Str × V)} {k : Nat}, l.length ≤ k → (putF f v l).length ≤ k + 1
  | [], k, _ => by rw [pf_nil]; exact Nat.succ_le_succ (Nat.zero_le _)
  | (g, x) :: r, k, h => by
    show (if g = f then _ else _ : List (Str × V)).length ≤ k + 1
    split
    · exact Nat.le_succ_of_le h
    · match k, h with
      | k + 1, h => exact Nat.succ_le_succ (pf_b (Nat.le_of_succ_le_succ h))
theorem rf_make (n m : Int) (t : V) : putF "own_name" .non (putF "own_counter" .non (putF "own_worths" t (putF "own_most" (.int m) (putF "own_size" (.int n) [])))) = rf n m t := by
  have r2 : putF "own_most" (.int m) (putF "own_size" (.int n) []) = ([("own_size", .int n), ("own_most", .int m)] : List (Str × V)) := by
    rw [pf_nil, pf_no (by decide +kernel), pf_nil]
  have r3 : putF "own_worths" t [("own_size", .int n), ("own_most", .int m)] = ([("own_size", .int n), ("own_most", .int m), ("own_worths", t)] : List (Str × V)) := by
    rw [pf_no (by decide +kernel), pf_no (by decide +kernel), pf_nil]
  have r4 : putF "own_counter" .non [("own_size", .int n), ("own_most", .int m), ("own_worths", t)] = ([("own_size", .int n), ("own_most", .int m), ("own_worths", t), ("own_counter", .non)] : List (Str × V)) := by
    rw [pf_no (by decide +kernel), pf_no (by decide +kernel), pf_no (by decide +kernel), pf_nil]
  have r5 : putF "own_name" .non [("own_size", .int n), ("own_most", .int m), ("own_worths", t), ("own_counter", .non)] = rf n m t := by
    rw [pf_no (by decide +kernel), pf_no (by decide +kernel), pf_no (by decide +kernel), pf_no (by decide +kernel), pf_nil]
    rfl
  rw [r2, r3, r4, r5]
/-- all but what stands at r -/
def ExtB (r : Addr) (H H' : Hp) : Prop := ∀ a o, a ≠ r → H a = some o → H' a = some o
theorem ExtB.of {r : Addr} {H H' : Hp} (h : Ext H H') : ExtB r H H' := fun a o _ e => h a o e
theorem ExtB.trans {r : Addr} {H H' H2 : Hp} (h : ExtB r H H') (h2 : ExtB r H' H2) : ExtB r H H2 := fun a o n e => h2 a o n (h a o n e)
theorem extB_upd {r : Addr} {H : Hp} {o : HO} : ExtB r H (upd H r o) := fun a o' n e => by rw [upd_ne n]; exact e
theorem isI_int {d : PyData} (h : (intB d && !boolB d) = true) : ∃ i, d = .int i := by
  cases d <;> first | exact ⟨_, rfl⟩ | (cases h; done)
theorem from_false {lo hi : Int} {d : PyData} (h : (intB d && !boolB d) = false) : fromD lo hi d = false := by
  cases d <;> first | rfl | (cases h; done)
theorem from_true {lo hi : Int} {d : PyData} (h : fromD lo hi d = true) : ∃ i, d = .int i ∧ lo ≤ i ∧ i ≤ hi := by
  cases d <;> first | (cases h; done) | skip
  rename_i i
  obtain ⟨h1, h2⟩ := Bool.and_eq_true_iff.mp h
  exact ⟨i, rfl, of_decide_eq_true h1, of_decide_eq_true h2⟩
def tupB : PyData → Bool
  | .tuple _ => true
  | _ => false
theorem kitT {K : PySem.W.Frag} (d : PyData) : PySem.W.kitOne K (.type (tnD d)) (.type "tuple") = some (tupB d) := by
  cases d with
  | none => exact kit_ty (by show kitB "NoneType" "tuple" = some false; decide +kernel)
  | bool _ => exact kit_ty (by show kitB "bool" "tuple" = some false; decide +kernel)
  | int _ => exact kit_ty (by show kitB "int" "tuple" = some false; decide +kernel)
  | str _ => exact kit_ty (by show kitB "str" "tuple" = some false; decide +kernel)
  | list _ => exact kit_ty (by show kitB "list" "tuple" = some false; decide +kernel)
  | tuple _ => exact kit_ty (by show kitB "tuple" "tuple" = some true; decide +kernel)
  | dict _ => exact kit_ty (by show kitB "dict" "tuple" = some false; decide +kernel)
/-- items of a row -/
def areD (n m : Int) : PyData → Bool
  | .tuple ds => decide ((ds.length : Int) ≤ m) && ds.all (fromD 0 (n - 1))
  | _ => false
section
variable {P : Program} {w : World} {K : PySem.W.Frag} {mg : Str → Option Value} {base : Heap}
def spIsI : Sp := fun vs H Q _ => ∃ v d, vs = [v] ∧ Dq H v d ∧ Q (.bl (intB d && !boolB d)) H
theorem ok_is_integer (T : Tx P K mg) : FnOk P w K mg base CX0 1 T.F_is_integer T.fd_is_integer ["value"] spIsI := by
  refine T.is_integer_ok.ok sc_is_integer (fun vs H Q E h => ?_) (fun cdv A outer s H vs Q E hr h => ?_)
  · obtain ⟨v, d, rfl, _⟩ := h
    rfl
  · obtain ⟨v, d, rfl, hd, q⟩ := h
    have nd := sc_is_integer.nd
    refine ⟨_, (pss_one (ps_ret (pe_and (pe_callB call_isi (by rfl) T.b_isinstance (by decide +kernel) (pa_cons (pv 0) (pa_cons (pe_bltn (by rfl) T.b_int (by decide +kernel) (v := .ty "int") rfl) pa_nil))) (pe_one (pe_not (pe_callB call_isi (by rfl) T.b_isinstance (by decide +kernel) (pa_cons (pv 0) (pa_cons (pe_bltn (by rfl) T.b_bool (by decide +kernel) (v := .ty "bool") rfl) pa_nil)))))))), ?_⟩
    refine ⟨_, rfl, _, _, _, _, _, rfl, .ty _, tyD hd, kitI d, _, rfl, ?_⟩
    cases e : intB d with
    | false =>
      rw [e] at q
      exact iteF q
    | true =>
      rw [e] at q
      refine iteT ?_
      exact ⟨_, rfl, _, _, _, _, _, rfl, .ty _, tyD hd, kitBl d, _, rfl, q⟩
def spFrom : Sp := fun vs H Q _ => ∃ v d lo hi, vs = [v, .int lo, .int hi] ∧ Dq H v d ∧ Q (.bl (fromD lo hi d)) H
theorem ok_is_from (T : Tx P K mg) : FnOk P w K mg base CX0 2 T.F_is_from T.fd_is_from ["value", "low", "high"] spFrom := by
  refine T.is_from_ok.ok sc_is_from (fun vs H Q E h => ?_) (fun cdv A outer s H vs Q E hr h => ?_)
  · obtain ⟨v, d, lo, hi, rfl, _⟩ := h
    rfl
  · obtain ⟨v, d, lo, hi, rfl, hd, q⟩ := h
    have nd := sc_is_from.nd
    refine ⟨_, (pss_one (ps_ret (pe_and (pe_call (ok_is_integer T) (hr.mono (by decide)) rfl T.is_integer_mg T.is_integer_ok.kp T.b_is_integer .nil pass0 (pa_cons (pv 0) pa_nil)) (pe_one (pe_chain op_le op_le (pv 1) (pv 0) (pv 2)))))), ?_⟩
    refine ⟨_, rfl, v, d, rfl, hd, _, rfl, ?_⟩
    cases e : (intB d && !boolB d) with
    | false =>
      rw [from_false e] at q
      exact iteF q
    | true =>
      obtain ⟨i, rfl⟩ := isI_int e
      cases hd
      refine iteT ?_
      refine ⟨_, rfl, _, rfl, _, _, rfl, rfl, _, rfl, ?_⟩
      have q : Q (.bl (decide (lo ≤ i) && decide (i ≤ hi))) H := q
      by_cases c : lo ≤ i
      · rw [decide_eq_true c] at q ⊢
        exact iteT ⟨_, rfl, _, _, rfl, rfl, q⟩
      · rw [decide_eq_false c] at q ⊢
        exact iteF q
theorem ok__law_is_from (T : Tx P K mg) : FnOk P w K mg base CX0 1 T.F__law_is_from T.fd__law_is_from ["_law_value", "_law_low", "_law_high"] spFrom := by
  refine T._law_is_from_ok.ok sc__law_is_from (fun vs H Q E h => ?_) (fun cdv A outer s H vs Q E hr h => ?_)
  · obtain ⟨v, d, lo, hi, rfl, _⟩ := h
    rfl
  · obtain ⟨v, d, lo, hi, rfl, hd, q⟩ := h
    have nd := sc__law_is_from.nd
    refine ⟨_, (pss_one (ps_ret (pe_and (pe_callB call_isi (by rfl) T.b_isinstance (by decide +kernel) (pa_cons (pv 0) (pa_cons (pe_bltn (by rfl) T.b_int (by decide +kernel) (v := .ty "int") rfl) pa_nil))) (pe_and (pe_not (pe_callB call_isi (by rfl) T.b_isinstance (by decide +kernel) (pa_cons (pv 0) (pa_cons (pe_bltn (by rfl) T.b_bool (by decide +kernel) (v := .ty "bool") rfl) pa_nil)))) (pe_one (pe_chain op_le op_le (pv 1) (pv 0) (pv 2))))))), ?_⟩
    refine ⟨_, rfl, _, _, _, _, _, rfl, .ty _, tyD hd, kitI d, _, rfl, ?_⟩
    cases e1 : intB d with
    | false =>
      rw [from_false (by rw [e1]; rfl)] at q
      exact iteF q
    | true =>
      refine iteT ?_
      refine ⟨_, rfl, _, _, _, _, _, rfl, .ty _, tyD hd, kitBl d, _, rfl, _, rfl, ?_⟩
      cases e2 : boolB d with
      | true =>
        rw [from_false (by rw [e1, e2]; rfl)] at q
        exact iteF q
      | false =>
        obtain ⟨i, rfl⟩ := isI_int (d := d) (by rw [e1, e2]; rfl)
        cases hd
        refine iteT ?_
        refine ⟨_, rfl, _, rfl, _, _, rfl, rfl, _, rfl, ?_⟩
        have q : Q (.bl (decide (lo ≤ i) && decide (i ≤ hi))) H := q
        by_cases c : lo ≤ i
        · rw [decide_eq_true c] at q ⊢
          exact iteT ⟨_, rfl, _, _, rfl, rfl, q⟩
        · rw [decide_eq_false c] at q ⊢
          exact iteF q
end
section
variable {P : Program} {w : World} {K : PySem.W.Frag} {mg : Str → Option Value} {base : Heap}
theorem primes_at (i : Int) (h0 : 0 ≤ i) (h5 : i < 5) : ∃ q : Int, atI [V.int 2147483647, V.int 2147483629, V.int 2147483587, V.int 2147483579, V.int 2147483563] i = some (.int q) ∧ 0 < q ∧ q < 4294967296 := by
  have h : i = 0 ∨ i = 1 ∨ i = 2 ∨ i = 3 ∨ i = 4 := by omega
  rcases h with rfl | rfl | rfl | rfl | rfl
  all_goals exact ⟨_, rfl, by decide, by decide⟩
theorem fm_nn {x m : Int} (h : 0 < m) : 0 ≤ x.fmod m := by
  rw [Int.fmod_eq_emod_of_nonneg x (by omega)]
  exact Int.emod_nonneg x (by omega)
theorem fm_lt {x m : Int} (h : 0 < m) : x.fmod m < m := by
  rw [Int.fmod_eq_emod_of_nonneg x (by omega)]
  exact Int.emod_lt_of_pos x h
theorem fd_nn {x m : Int} (hx : 0 ≤ x) (h : 0 < m) : 0 ≤ x.fdiv m := by
  rw [Int.fdiv_eq_ediv_of_nonneg x (by omega)]
  exact Int.ediv_nonneg hx (by omega)
theorem sq_lt {c : Int} (h0 : 0 ≤ c) (h1 : c ≤ 100001) : 0 ≤ 98129 * c * c ∧ 98129 * c * c ≤ 98129 * 100001 * 100001 := by
  have a1 : 0 ≤ 98129 * c := by omega
  have a2 : 98129 * c ≤ 98129 * 100001 := by omega
  exact ⟨Int.mul_nonneg a1 h0, Int.mul_le_mul a2 h1 h0 (by decide)⟩
theorem ok__law_take (T : Tx P K mg) : FnOk P w K mg base CX0 1 T.F__law_take T.fd__law_take ["_law_pot_here", "_law_upto"] spTake := by
  refine T._law_take_ok.ok sc__law_take (fun vs H Q E h => ?_) (fun cdv A outer s H vs Q E hr h => ?_)
  · obtain ⟨G, p, n, m, rfl, _⟩ := h
    rfl
  · obtain ⟨G, p, n, m, rfl, wp, hn, m0, m1, k⟩ := h
    have nd := sc__law_take.nd
    obtain ⟨a, b, c, hp, a0, b0, b1, c0, c1⟩ := wp.pot.at_
    refine ⟨_, (pss_cons (ps_if (pt_cmpR op_gt (pe_ix ix_list (pv 0) pe_int (fun _ _ => rfl)) pe_int (nomark _)) (pss_cons (ps_set (i := 2) nd rfl (Or.inl rfl) (pe_op op_modN (pe_callTy call_int1 (by rfl) T.b_int (by decide +kernel) (pa_cons (pe_ix ix_list (pv 0) pe_int (fun _ _ => rfl)) pa_nil)) (pv 1))) (pss_cons (ps_asg (pe_op op_fdivN (pe_ix ix_list (pv 0) pe_int (fun _ _ => rfl)) (pv 1)) (pg_sub (pv 0) pe_int set_list)) (pss_one (ps_ret (pv 2))))) pss_nil) (pss_cons (ps_asg (pe_op op_add (pe_ix ix_list (pv 0) pe_int (fun _ _ => rfl)) pe_int) (pg_sub (pv 0) pe_int set_list)) (pss_cons (ps_set (i := 3) nd rfl (Or.inl rfl) (pe_ix ix_list (pe_lst (pa_cons pe_int (pa_cons pe_int (pa_cons pe_int (pa_cons pe_int (pa_cons pe_int pa_nil)))))) (pe_op op_modN (pe_callTy call_int1 (by rfl) T.b_int (by decide +kernel) (pa_cons (pe_ix ix_list (pv 0) pe_int (fun _ _ => rfl)) pa_nil)) pe_int) (fun _ _ => rfl))) (pss_cons (ps_set (i := 4) nd rfl (Or.inl rfl) (pe_op op_modN (pe_callTy call_int1 (by rfl) T.b_int (by decide +kernel) (pa_cons (pe_op op_pow (pe_callTy call_int1 (by rfl) T.b_int (by decide +kernel) (pa_cons (pe_op op_add (pe_op op_add (pe_ix ix_list (pv 0) pe_int (fun _ _ => rfl)) (pe_op op_mul (pe_op op_mul pe_int (pe_ix ix_list (pv 0) pe_int (fun _ _ => rfl))) (pe_ix ix_list (pv 0) pe_int (fun _ _ => rfl)))) pe_int) pa_nil)) pe_int) pa_nil)) (pv 3))) (pss_cons (ps_set (i := 4) nd rfl (Or.inl rfl) (pe_op op_modN (pe_callTy call_int1 (by rfl) T.b_int (by decide +kernel) (pa_cons (pe_op op_mul (pv 4) (pe_op op_add (pe_op op_modN (pe_callTy call_int1 (by rfl) T.b_int (by decide +kernel) (pa_cons (pv 4) pa_nil)) pe_int) (pe_op op_mul pe_int (pe_ix ix_list (pv 0) pe_int (fun _ _ => rfl))))) pa_nil)) pe_int)) (pss_one (ps_ret (pe_op op_modN (pe_callTy call_int1 (by rfl) T.b_int (by decide +kernel) (pa_cons (pe_op op_fdivN (pv 4) pe_int) pa_nil)) (pv 1))))))))), ?_⟩
    refine ⟨_, rfl, p, _, _, _, rfl, rfl, SqL.of hp, rfl, _, _, rfl, rfl, _, rfl, ?_⟩
    refine ite2 (fun _ => ?_) (fun _ => ?_)
    · refine ⟨_, rfl, p, _, _, _, rfl, rfl, SqL.of hp, rfl, .inl ⟨_, rfl, _, rfl, _, _, rfl, rfl, (by show m ≠ 0; omega), ?_⟩⟩
      refine ⟨_, rfl, p, _, _, _, rfl, rfl, SqL.of hp, rfl, _, rfl, _, _, rfl, rfl, ⟨by omega, by omega⟩, ?_⟩
      refine ⟨_, rfl, p, _, _, 0, rfl, rfl, hp, rfl, ?_⟩
      refine ⟨_, rfl, ?_⟩
      refine k _ _ (fm_nn m0) (fm_lt m0) ⟨ext_over wp.ext wp.no, wp.no, ⟨_, b, c, upd_same, fd_nn a0 m0, b0, b1, c0, by omega⟩⟩
    · refine ⟨_, rfl, p, _, _, _, rfl, rfl, SqL.of hp, rfl, _, _, rfl, rfl, _, rfl, p, _, _, 2, rfl, rfl, hp, rfl, ?_⟩
      refine ⟨by show 5 ≤ sizeLine; decide, fun l hl => ?_⟩
      have ne : p ≠ l := fun z => by
        rw [← z, upd_same] at hl
        cases hl
      have hp2 : upd (upd H p (.lst [.int a, .int b, .int (c + 1)])) l (.lst [V.int 2147483647, V.int 2147483629, V.int 2147483587, V.int 2147483579, V.int 2147483563]) p = some (.lst [.int a, .int b, .int (c + 1)]) := by
        rw [upd_ne ne]
        exact upd_same
      obtain ⟨q, hq, q0, q1⟩ := primes_at ((c + 1).fmod 5) (fm_nn (by decide)) (fm_lt (by decide))
      refine ⟨_, rfl, p, _, _, _, rfl, rfl, SqL.of hp2, rfl, .inl ⟨_, rfl, _, _, rfl, rfl, (by show (5 : Int) ≠ 0; decide), l, _, _, _, rfl, rfl, SqL.of upd_same, hq, ?_⟩⟩
      obtain ⟨s1, s2⟩ := sq_lt (c := c + 1) (by omega) (by omega)
      refine ⟨_, rfl, p, _, _, _, rfl, rfl, SqL.of hp2, rfl, _, rfl, p, _, _, _, rfl, rfl, SqL.of hp2, rfl, _, _, rfl, rfl, .inl ⟨by omega, by omega⟩, _, rfl, p, _, _, _, rfl, rfl, SqL.of hp2, rfl, _, _, rfl, rfl, .inr ⟨by omega, by omega⟩, _, _, rfl, rfl, _, _, rfl, rfl, .inl ⟨_, rfl, _, _, rfl, rfl, ⟨by decide, by decide, ?_⟩, .inl ⟨_, rfl, _, rfl, _, _, rfl, rfl, (by show q ≠ 0; omega), ?_⟩⟩⟩
      · show (b + 98129 * (c + 1) * (c + 1) + 41).natAbs < 2 ^ 64
        omega
      have x0 := fm_nn (x := (b + 98129 * (c + 1) * (c + 1) + 41) ^ (3 : Int).toNat) q0
      have x1 := fm_lt (x := (b + 98129 * (c + 1) * (c + 1) + 41) ^ (3 : Int).toNat) q0
      generalize hx : ((b + 98129 * (c + 1) * (c + 1) + 41) ^ (3 : Int).toNat).fmod q = x at x0 x1
      refine ⟨_, rfl, _, rfl, .inl ⟨_, rfl, _, _, rfl, rfl, (by show (10009 : Int) ≠ 0; decide), _, rfl, p, _, _, _, rfl, rfl, SqL.of hp2, rfl, _, _, rfl, rfl, .inl ⟨by omega, by omega⟩, _, _, rfl, rfl, _, _, rfl, rfl, ?_, .inl ⟨_, rfl, _, _, rfl, rfl, (by show (2305843009213693907 : Int) ≠ 0; decide), ?_⟩⟩⟩
      · refine .inl ⟨?_, ?_⟩
        · show -(2 ^ 64) < ((b + 98129 * (c + 1) * (c + 1) + 41) ^ (3 : Int).toNat).fmod q
          rw [hx]
          omega
        · show ((b + 98129 * (c + 1) * (c + 1) + 41) ^ (3 : Int).toNat).fmod q < 2 ^ 64
          rw [hx]
          omega
      refine ⟨_, rfl, _, _, rfl, rfl, ⟨by decide, by decide⟩, .inl ⟨_, rfl, _, rfl, _, _, rfl, rfl, (by show m ≠ 0; omega), ?_⟩⟩
      refine k _ _ (fm_nn m0) (fm_lt m0) ⟨ext_over (ext_over wp.ext wp.no) (ext_none (ext_over wp.ext wp.no) hl), wp.no, ⟨a, b, c + 1, hp2, a0, b0, b1, by omega, by omega⟩⟩

/-- the pot of a cell -/
def spPot (K : PySem.W.Frag) : Sp := fun vs H Q _ => ∃ (a : Addr) (ns : List Int) (k : Int), vs = [.ref a, .int k] ∧ SqL K H a (ns.map V.int) ∧ 0 ≤ k ∧ k ≤ 100 ∧
  ∀ (p : Addr) (x y : Int), H p = none → 0 ≤ x → 0 ≤ y → y < 2305843009213693952 → Q (.ref p) (upd H p (.lst [.int x, .int y, .int 0]))
theorem ok__law_pot (T : Tx P K mg) : FnOk P w K mg base CX0 1 T.F__law_pot T.fd__law_pot ["_law_script", "_law_k"] (spPot K) := by
  refine T._law_pot_ok.ok sc__law_pot (fun vs H Q E h => ?_) (fun cdv A outer s H vs Q E hr h => ?_)
  · obtain ⟨a, ns, k, rfl, _⟩ := h
    rfl
  · obtain ⟨a, ns, k, rfl, hS, k0, k1, q⟩ := h
    have nd := sc__law_pot.nd
    refine ⟨_, (Evl.pss_cut (ps_set (i := 2) nd rfl (Or.inl rfl) (pe_ifExp (pt_cmpR op_lt (pv 1) (pe_callB call_len_seq (by rfl) T.b_len (by decide +kernel) (pa_cons (pv 0) pa_nil)) (nomark _)) (pe_ix ix_list (pv 0) (pv 1) (fun _ _ => rfl)) (pe_op op_add (pe_op op_mul pe_int (pv 1)) pe_int))) (pss_cons (ps_set (i := 3) nd rfl (Or.inl rfl) (pe_op op_mul (pe_op op_modN (pe_callTy call_int1 (by rfl) T.b_int (by decide +kernel) (pa_cons (pe_callB call_abs (by rfl) T.b_abs (by decide +kernel) (pa_cons (pv 2) pa_nil)) pa_nil)) (pe_op op_powW (pe_op op_pow pe_int pe_int) pe_int)) (pe_callTy call_int1 (by rfl) T.b_int (by decide +kernel) (pa_cons (pe_cmpR op_ge (pe_callB call_abs (by rfl) T.b_abs (by decide +kernel) (pa_cons (pv 2) pa_nil)) (pe_op op_pow pe_int pe_int) (nomark _)) pa_nil)))) (pss_one (ps_ret (pe_lst (pa_cons (pv 3) (pa_cons (pe_op op_modN (pe_callTy call_int1 (by rfl) T.b_int (by decide +kernel) (pa_cons (pe_op op_add (pe_op op_add (pe_op op_mul (pe_op op_modN (pe_callTy call_int1 (by rfl) T.b_int (by decide +kernel) (pa_cons (pv 2) pa_nil)) pe_int) pe_int) (pe_op op_mul (pe_op op_mul pe_int (pv 1)) (pv 1))) pe_int) pa_nil)) pe_int) (pa_cons pe_int pa_nil)))))))), ?_⟩
    refine ⟨fun σ' H' => ∃ c : Int, σ' = [some (.ref a), some (.int k), some (.int c), none] ∧ H' = H, ?_, ?_⟩
    · refine ⟨_, rfl, _, rfl, a, _, rfl, .inl hS, _, _, rfl, rfl, _, rfl, ?_⟩
      refine ite2 (fun h => ?_) (fun _ => ?_)
      · have hk : k < ((ns.map V.int).length : Int) := of_decide_eq_true h
        rw [List.length_map] at hk
        obtain ⟨j, rfl⟩ : ∃ j : Nat, k = (j : Int) := ⟨k.toNat, by omega⟩
        have hj : j < ns.length := by omega
        refine ⟨_, rfl, _, rfl, a, _, _, _, rfl, rfl, hS, atI_nat (v := V.int ns[j]) ?_, ns[j], rfl, rfl⟩
        rw [List.getElem?_map, List.getElem?_eq_getElem hj]
        rfl
      · exact ⟨_, rfl, _, _, rfl, rfl, .inl ⟨by omega, by omega⟩, _, _, rfl, rfl, _, rfl, rfl⟩
    · rintro σ' H' ⟨c, rfl, rfl⟩
      refine ⟨_, rfl, _, rfl, .inl ⟨_, rfl, _, _, rfl, rfl, ⟨by decide, by decide, by decide⟩, _, _, rfl, rfl, ⟨by decide, by decide +kernel⟩, _, _, rfl, rfl, (by show ((10 : Int) ^ (60 : Int).toNat) ^ (5 : Int).toNat ≠ 0; decide +kernel), ?_⟩⟩
      generalize hA : (if c < 0 then -c else c) = A'
      have hb : (0 : Int) < (10 ^ (60 : Int).toNat) ^ (5 : Int).toNat := by decide +kernel
      refine ⟨_, rfl, _, rfl, _, _, rfl, rfl, ⟨by decide, by decide, by decide⟩, _, _, rfl, rfl, .inr ⟨_, rfl, _, _, rfl, rfl, .inr ?_, ?_⟩⟩
      · constructor <;> (split <;> omega)
      have own0 : 0 ≤ A'.fmod ((10 ^ (60 : Int).toNat) ^ (5 : Int).toNat) * (if decide ((10 : Int) ^ (18 : Int).toNat ≤ (if c < 0 then -c else c)) = true then (1 : Int) else 0) := by
        refine Int.mul_nonneg (fm_nn hb) ?_
        split <;> omega
      have y0 := fm_nn (x := c) (m := 2305843009213693951) (by decide)
      have y1 := fm_lt (x := c) (m := 2305843009213693951) (by decide)
      refine ⟨_, rfl, _, rfl, .inl ⟨_, rfl, _, _, rfl, rfl, (by show (2305843009213693951 : Int) ≠ 0; decide), _, _, rfl, rfl, .inr ⟨by decide, by decide⟩, _, rfl, _, _, rfl, rfl, .inl ⟨by decide, by decide⟩, _, rfl, _, _, rfl, rfl, .inr ⟨by omega, by omega⟩, _, _, rfl, rfl, _, _, rfl, rfl, .inl ⟨_, rfl, _, _, rfl, rfl, (by show (2305843009213693921 : Int) ≠ 0; decide), by show 3 ≤ sizeLine; decide, fun p hp => ?_⟩⟩⟩
      exact q p _ _ hp own0 (fm_nn (by decide)) (Int.lt_trans (fm_lt (by decide)) (by decide))

/-- one of some things -/
def spOf (K : PySem.W.Frag) : Sp := fun vs H Q _ => ∃ (G : Hp) (p l : Addr) (n : Nat) (xs : List V), vs = [.ref p, .ref l] ∧ WP G p n H ∧ n ≤ 100000 ∧ SqL K G l xs ∧ 0 < xs.length ∧ xs.length ≤ 1000 ∧
  ∀ (i : Nat) (v : V) (H' : Hp), xs[i]? = some v → WP G p (n + 1) H' → Q v H'
theorem ok__law_of (T : Tx P K mg) : FnOk P w K mg base CX0 2 T.F__law_of T.fd__law_of ["_law_pot_here", "_law_some"] (spOf K) := by
  refine T._law_of_ok.ok sc__law_of (fun vs H Q E h => ?_) (fun cdv A outer s H vs Q E hr h => ?_)
  · obtain ⟨G, p, l, n, xs, rfl, _⟩ := h
    rfl
  · obtain ⟨G, p, l, n, xs, rfl, wp, hn, hl, l0, l1, k⟩ := h
    have nd := sc__law_of.nd
    refine ⟨_, (pss_one (ps_ret (pe_ix ix_list (pv 1) (pe_call (ok__law_take T) (hr.mono (by decide)) rfl T._law_take_mg T._law_take_ok.kp T.b__law_take .nil pass0 (pa_cons (pv 0) (pa_cons (pe_callB call_len_seq (by rfl) T.b_len (by decide +kernel) (pa_cons (pv 1) pa_nil)) pa_nil))) (fun _ _ => rfl)))), ?_⟩
    refine ⟨_, rfl, _, rfl, _, rfl, l, _, rfl, .inl (hl.ext wp.ext), G, p, n, (xs.length : Int), rfl, wp, hn, by omega, by omega, fun r H' r0 r1 wp' => ?_⟩
    obtain ⟨j, rfl⟩ : ∃ j : Nat, r = (j : Int) := ⟨r.toNat, by omega⟩
    have hj : j < xs.length := by omega
    refine ⟨l, _, _, _, rfl, rfl, hl.ext wp'.ext, atI_nat (List.getElem?_eq_getElem hj), ?_⟩
    exact k j _ H' (List.getElem?_eq_getElem hj) wp'

end
end K03

namespace K03
open PySem PySem.Spec PyProof.Rows L2 L2.TP
theorem all_len {H : Hp} : ∀ {xs : List V} {ds : List PyData}, DqAll H xs ds → xs.length = ds.length
  | _, _, .nil => rfl
  | _, _, .cons _ t => congrArg Nat.succ (all_len t)
theorem all_at {H : Hp} : ∀ {xs : List V} {ds : List PyData}, DqAll H xs ds → ∀ {i : Nat} {x : V}, xs[i]? = some x → ∃ d, ds[i]? = some d ∧ Dq H x d
  | _, _, .nil, i, x, h => by simp at h
  | _, _, .cons h t, 0, x, e => by
    cases e
    exact ⟨_, rfl, h⟩
  | _, _, .cons _ t, i + 1, x, e => all_at t (i := i) e
section
variable {P : Program} {w : World} {K : PySem.W.Frag} {mg : Str → Option Value} {base : Heap}
def spAre : Sp := fun vs H Q _ => ∃ (n m : Int) (v : V) (d : PyData), vs = [.int n, .int m, v] ∧ Dq H v d ∧ m ≤ 2 ∧ ∀ H', Ext H H' → Q (.bl (areD n m d)) H'
theorem ok_are_items (T : Tx P K mg) : FnOk P w K mg base CX0 4 T.F_are_items T.fd_are_items ["size", "most", "value"] spAre := by
  refine T.are_items_ok.ok sc_are_items (fun vs H Q E h => ?_) (fun cdv A outer s H vs Q E hr h => ?_)
  · obtain ⟨n, m, v, d, rfl, _⟩ := h
    rfl
  · obtain ⟨n, m, v, d, rfl, hd, m2, k⟩ := h
    have nd := sc_are_items.nd
    refine ⟨_, (pss_cons (ps_if (PW.pt (pw_or (pt_not (pt_val (pe_callB call_isi (by rfl) T.b_isinstance (by decide +kernel) (pa_cons (pv 2) (pa_cons (pe_bltn (by rfl) T.b_tuple (by decide +kernel) (v := .ty "tuple") rfl) pa_nil))))) (pw_or1 (pt_cmpR op_gt (pe_callB call_len_seq (by rfl) T.b_len (by decide +kernel) (pa_cons (pv 2) pa_nil)) (pv 1) (nomark _))))) (pss_one (ps_ret pe_bl)) pss_nil) (pss_one (ps_ret (pe_callB (cr_all rfl) (by rfl) T.b_all (by decide +kernel) (pa_cons (pe_lc (own := [("one", 3)]) (g := gName 3) (by rfl) nd (pi_tup (pv 2)) (blkOk_by (own := [("one", 3)]) (N := N_are_items) (sc := defScope s_are_items) (by decide +kernel)) (fun _ _ _ _ _ => (pg_name (i := 3) nd rfl (Or.inl rfl))) (fun _ _ _ _ _ => pts_nil) (fun _ _ _ _ _ => (pe_call (ok_is_from T) (hr.mono (by decide)) rfl T.is_from_mg T.is_from_ok.kp T.b_is_from .nil pass0 (pa_cons (pv 3) (pa_cons pe_int (pa_cons (pe_op op_sub (pv 0) pe_int) pa_nil)))))) pa_nil))))), ?_⟩
    refine ⟨_, rfl, _, _, _, _, _, rfl, .ty _, tyD hd, kitT d, _, rfl, ?_⟩
    cases hd with
    | tup ht al =>
      rename_i a xs ds
      refine iteF ?_
      refine ⟨_, rfl, a, _, rfl, .inr (SqT.of ht), _, rfl, _, _, rfl, rfl, _, rfl, ?_⟩
      have ll := all_len al
      by_cases c : (ds.length : Int) ≤ m
      · refine (if_neg (show ¬ decide (m < (xs.length : Int)) = true from fun z => absurd (of_decide_eq_true z) (by omega))).mpr ?_
        refine ⟨_, rfl, a, rfl, ⟨_, SqT.of ht⟩, fun D hD => ?_⟩
        refine lc_tup (K := K) (a := a) (xs := xs) (fun i H'' => Ext H H'' ∧ H'' D = some (.lst ((ds.take i).map fun f => .bl (fromD 0 (n - 1) f)))) ⟨ext_upd hD, upd_same⟩ (fun i H'' _ h => SqT.of (h.1 _ _ ht)) (fun i x H'' hx h => ?_) (fun H'' h => ?_)
        · obtain ⟨f, hf, df⟩ := all_at al hx
          have i2 : i < ds.length := (List.getElem?_eq_some_iff.mp hf).1
          refine ⟨rfl, ?_⟩
          refine ⟨_, rfl, _, rfl, _, _, rfl, rfl, x, f, 0, n - 1, rfl, df.ext h.1, ?_⟩
          refine ⟨_, h.2, by rw [List.length_map, List.length_take]; exact Nat.lt_of_le_of_lt (Nat.min_le_left _ _) (Nat.lt_trans (by omega : i < 4) (by decide)), ?_⟩
          refine ⟨ext_over h.1 hD, ?_⟩
          rw [upd_same, List.take_succ, hf, List.map_append]
          rfl
        · rw [ll, List.take_length] at h
          refine ⟨D, ds.map (fromD 0 (n - 1)), rfl, SqL.of (by rw [List.map_map]; exact h.2), ?_⟩
          have z := k _ h.1
          have e : areD n m (.tuple ds) = (ds.map (fromD 0 (n - 1))).all id := by
            show (decide ((ds.length : Int) ≤ m) && ds.all (fromD 0 (n - 1))) = _
            rw [decide_eq_true c, Bool.true_and, List.all_map]
            rfl
          rw [e] at z
          exact z
      · refine (if_pos (show decide (m < (xs.length : Int)) = true from decide_eq_true (by omega))).mpr ?_
        have z := k H Ext.rfl'
        have e : areD n m (.tuple ds) = false := by
          show (decide ((ds.length : Int) ≤ m) && ds.all (fromD 0 (n - 1))) = _
          rw [decide_eq_false c]
          rfl
        rw [e] at z
        exact z
    | non => exact iteT (k H Ext.rfl')
    | bl b => exact iteT (k H Ext.rfl')
    | int i => exact iteT (k H Ext.rfl')
    | str x => exact iteT (k H Ext.rfl')
    | lst h t => exact iteT (k H Ext.rfl')
    | dct h t => exact iteT (k H Ext.rfl')
end
end K03

namespace K03
open PySem PySem.Spec PyProof.Rows L2 L2.TP
section
variable {P : Program} {w : World} {K : PySem.W.Frag} {mg : Str → Option Value} {base : Heap}
/-- an own error with the value v -/
def BadE (CE : Addr) (v : V) (H : Hp) (E : XK) : Prop := ∀ dd, H dd = none → E (.ref CE) (some dd) (upd H dd (.xd [("value", v)]))
def spRInit (C CZ CM CI : Addr) : Sp := fun vs H Q E => ∃ (x dx : Addr) (v u t : V) (d e f : PyData), vs = [.ref x, v, u, t] ∧ H x = some (.ins C dx []) ∧ Dq H v d ∧ Dq H u e ∧ Dq H t f ∧ (fromD 2 4 d = false → BadE CZ v H E) ∧
  (fromD 2 4 d = true → fromD 1 2 e = false → BadE CM u H E) ∧ (∀ n m, d = .int n → e = .int m → fromD 2 4 d = true → fromD 1 2 e = true → areD n m f = false → ∀ H', Ext H H' → BadE CI t H' E) ∧
  (∀ n m, d = .int n → e = .int m → fromD 2 4 d = true → fromD 1 2 e = true → areD n m f = true → ∀ H', ExtB x H H' → H' x = some (.ins C dx (rf n m t)) → Q .non H')
theorem ok_Row__init__ (T : Tx P K mg) : FnOk P w K mg base (L2.CX P w) 6 T.F_Row___init__ T.fd_Row___init__ ["self", "size", "most", "items"] (spRInit T.C_Row T.C_BadSize T.C_BadMost T.C_BadItems) := by
  refine T.Row___init___ok.okX sc_Row___init__ (fun vs H Q E h => ?_) (fun cdv A outer s H vs Q E hr h => ?_)
  · obtain ⟨x, dx, v, u, t, d, e, f, rfl, _⟩ := h
    rfl
  · obtain ⟨x, dx, v, u, t, d, e, f, rfl, hx, hv, hu, ht, k1, k2, k3, k4⟩ := h
    have nd := sc_Row___init__.nd
    refine ⟨_, (pss_cons (ps_if (pt_not (pt_val (pe_call (ok_is_from T) (hr.mono (by decide)) rfl T.is_from_mg T.is_from_ok.kp T.b_is_from .nil pass0 (pa_cons (pv 1) (pa_cons (pe_glob (v := .int 2) rfl T.k_LEAST_SIZE ⟨_, rfl⟩) (pa_cons (pe_glob (v := .int 4) rfl T.k_MOST_SIZE ⟨_, rfl⟩) pa_nil)))))) (pss_one (ps_raiseE rfl (takes_of rfl rfl rfl rfl) T.BadSize_err (by decide) hr (pa_cons (pv 1) pa_nil))) pss_nil) (pss_cons (ps_if (pt_not (pt_val (pe_call (ok_is_from T) (hr.mono (by decide)) rfl T.is_from_mg T.is_from_ok.kp T.b_is_from .nil pass0 (pa_cons (pv 2) (pa_cons (pe_glob (v := .int 1) rfl T.k_LEAST_MOST ⟨_, rfl⟩) (pa_cons (pe_glob (v := .int 2) rfl T.k_GREATEST_MOST ⟨_, rfl⟩) pa_nil)))))) (pss_one (ps_raiseE rfl (takes_of rfl rfl rfl rfl) T.BadMost_err (by decide) hr (pa_cons (pv 2) pa_nil))) pss_nil) (pss_cons (ps_if (pt_not (pt_val (pe_call (ok_are_items T) (hr.mono (by decide)) rfl T.are_items_mg T.are_items_ok.kp T.b_are_items .nil pass0 (pa_cons (pv 1) (pa_cons (pv 2) (pa_cons (pv 3) pa_nil)))))) (pss_one (ps_raiseE rfl (takes_of rfl rfl rfl rfl) T.BadItems_err (by decide) hr (pa_cons (pv 3) pa_nil))) pss_nil) (pss_cons (ps_fld (pv 0) (pv 1) rfl) (pss_cons (ps_fld (pv 0) (pv 2) rfl) (pss_cons (ps_fld (pv 0) (pv 3) rfl) (pss_cons (ps_fld (pv 0) pe_non rfl) (pss_one (ps_fld (pv 0) pe_non rfl))))))))), ?_⟩
    refine ⟨_, rfl, v, d, 2, 4, rfl, hv, _, rfl, ?_⟩
    cases c1 : fromD 2 4 d with
    | false => exact iteT ⟨_, rfl, rfl, fun dd hdd => k1 c1 dd hdd⟩
    | true =>
      refine iteF ?_
      obtain ⟨n, rfl, n2, n4⟩ := from_true c1
      cases hv
      refine ⟨_, rfl, u, e, 1, 2, rfl, hu, _, rfl, ?_⟩
      cases c2 : fromD 1 2 e with
      | false => exact iteT ⟨_, rfl, rfl, fun dd hdd => k2 c1 c2 dd hdd⟩
      | true =>
        refine iteF ?_
        obtain ⟨m, rfl, m1, m2⟩ := from_true c2
        cases hu
        refine ⟨_, rfl, _, rfl, _, rfl, n, m, t, f, rfl, ht, m2, fun H1 x1 => ?_⟩
        refine ⟨_, rfl, ?_⟩
        cases c3 : areD n m f with
        | false => exact iteT ⟨_, rfl, rfl, fun dd hdd => k3 n m rfl rfl c1 c2 c3 H1 x1 dd hdd⟩
        | true =>
          refine iteF ?_
          refine ⟨_, rfl, _, rfl, x, T.C_Row, dx, [], rfl, x1 _ _ hx, T.Row_cl, T.x_n_size, by decide, ?_⟩
          refine ⟨_, rfl, _, rfl, x, T.C_Row, dx, _, rfl, upd_same, T.Row_cl, T.x_n_most, Nat.lt_of_le_of_lt (pf_b (Nat.le_refl 0)) (by decide), ?_⟩
          refine ⟨_, rfl, _, rfl, x, T.C_Row, dx, _, rfl, upd_same, T.Row_cl, T.x_n_worths, Nat.lt_of_le_of_lt (pf_b (pf_b (Nat.le_refl 0))) (by decide), ?_⟩
          refine ⟨_, rfl, x, T.C_Row, dx, _, rfl, upd_same, T.Row_cl, T.x_n_counter, Nat.lt_of_le_of_lt (pf_b (pf_b (pf_b (Nat.le_refl 0)))) (by decide), ?_⟩
          refine ⟨_, rfl, x, T.C_Row, dx, _, rfl, upd_same, T.Row_cl, T.x_n_name, Nat.lt_of_le_of_lt (pf_b (pf_b (pf_b (pf_b (Nat.le_refl 0))))) (by decide), ?_⟩
          rw [upd_upd, upd_upd, upd_upd, upd_upd, rf_make]
          exact k4 n m rfl rfl c1 c2 c3 _ ((ExtB.of x1).trans extB_upd) upd_same
theorem ok_Row_worths (T : Tx P K mg) : FnOk P w K mg base CX0 1 T.F_Row_worths T.fd_Row_worths ["self"] (getSp T.C_Row "own_worths") := by
  obtain ⟨oc, od, kV, doc, pm, an, cdv, ct, osl, e, lk, hcd⟩ := T.Row_worths_ok.ex
  rw [e] at lk ⊢
  exact fn_getter lk hcd sc_Row_worths rfl rfl T.Row_cl T.x_n_worths
end
end K03

namespace K03
open PySem PySem.Spec PyProof.Rows L2 L2.TP
theorem int_r {i : Nat} {v : V} (h : [V.int 0, V.int 0, V.int 0, V.int 1, V.int 12][i]? = some v) : ∃ r : Nat, v = .int r ∧ r ≤ 12 := by
  match i, h with
  | 0, h => cases h; exact ⟨0, rfl, by decide⟩
  | 1, h => cases h; exact ⟨0, rfl, by decide⟩
  | 2, h => cases h; exact ⟨0, rfl, by decide⟩
  | 3, h => cases h; exact ⟨1, rfl, by decide⟩
  | 4, h => cases h; exact ⟨12, rfl, by decide⟩
  | n + 5, h => simp at h
section
variable {P : Program} {w : World} {K : PySem.W.Frag} {mg : Str → Option Value} {base : Heap}
def spAny : Sp := fun vs H Q _ => ∃ (G : Hp) (p : Addr) (k : Nat), vs = [.ref p] ∧ WP G p k H ∧ k ≤ 50000 ∧ ∀ v G' H', Ext G G' → WP G' p (k + 14) H' → Val G' 12 v → Q v H'
theorem ok__law_any (T : Tx P K mg) : FnOk P w K mg base CX0 4 T.F__law_any T.fd__law_any ["_law_pot_here"] spAny := by
  refine T._law_any_ok.ok sc__law_any (fun vs H Q E h => ?_) (fun cdv A outer s H vs Q E hr h => ?_)
  · obtain ⟨G, p, k, rfl, _⟩ := h
    rfl
  · obtain ⟨G, p, k, rfl, wp, hk, q⟩ := h
    have nd := sc__law_any.nd
    refine ⟨_, (pss_cons (ps_set (i := 1) nd rfl (Or.inl rfl) (pe_lst (pa_cons pe_non (pa_cons pe_bl (pa_cons pe_bl (pa_cons (pe_un un_neg pe_int) (pa_cons pe_int (pa_cons pe_int (pa_cons pe_int (pa_cons pe_int (pa_cons pe_int (pa_cons (pe_op op_pow pe_int pe_int) (pa_cons pe_str (pa_cons pe_str (pa_cons (pe_tup pa_nil) (pa_cons (pe_lst pa_nil) (pa_cons (pe_lst (pa_cons pe_int pa_nil)) (pa_cons pe_dnewK (pa_cons (pe_disp (pps_cons pe_str pe_int pps_nil) (by rfl) (by rfl) (fun z => by cases z) (by decide)) (pa_cons (pe_tup (pa_cons pe_non pa_nil)) (pa_cons (pe_tup (pa_cons (pe_tup (pa_cons pe_int pa_nil)) pa_nil)) pa_nil))))))))))))))))))))) (pss_cons (ps_set (i := 2) nd rfl (Or.inl rfl) (pe_call (ok__law_of T) (hr.mono (by decide)) rfl T._law_of_mg T._law_of_ok.kp T.b__law_of .nil pass0 (pa_cons (pv 0) (pa_cons (pv 1) pa_nil)))) (pss_cons (ps_for PassesOwn.never rfl (pi_range1 (by rfl) T.b_range (pa_cons (pe_call (ok__law_of T) (hr.mono (by decide)) rfl T._law_of_mg T._law_of_ok.kp T.b__law_of .nil pass0 (pa_cons (pv 0) (pa_cons (pe_lst (pa_cons pe_int (pa_cons pe_int (pa_cons pe_int (pa_cons pe_int (pa_cons pe_int pa_nil)))))) pa_nil))) pa_nil)) (pg_name (i := 3) nd rfl (Or.inl rfl)) (pss_one (ps_set (i := 2) nd rfl (Or.inl rfl) (pe_call (ok__law_of T) (hr.mono (by decide)) rfl T._law_of_mg T._law_of_ok.kp T.b__law_of .nil pass0 (pa_cons (pv 0) (pa_cons (pe_lst (pa_cons (pe_tup (pa_cons (pv 2) pa_nil)) (pa_cons (pe_lst (pa_cons (pv 2) pa_nil)) (pa_cons (pe_disp (pps_cons pe_str (pv 2) pps_nil) (by rfl) (by rfl) (fun z => by cases z) (by decide)) pa_nil)))) pa_nil)))))) (pss_one (ps_ret (pv 2)))))), ?_⟩
    refine ⟨_, rfl, _, _, rfl, rfl, ⟨by decide, by decide, by decide⟩, by show 0 ≤ sizeLine; decide, fun a1 h1 => ?_⟩
    obtain ⟨G1, e1, f1, w1⟩ := wp.newG (.tup []) h1
    refine ⟨by show 0 ≤ sizeLine; decide, fun a2 h2 => ?_⟩
    obtain ⟨G2, e2, f2, w2⟩ := w1.newG (.lst []) h2
    refine ⟨by show 1 ≤ sizeLine; decide, fun a3 h3 => ?_⟩
    obtain ⟨G3, e3, f3, w3⟩ := w2.newG (.lst [.int 1]) h3
    intro a4 h4
    obtain ⟨G4, e4, f4, w4⟩ := w3.newG (.dK []) h4
    intro a5 h5
    refine ⟨upd_same, [(.inr "a", .int 1)], rfl, by show 1 ≤ 15; decide, ?_⟩
    obtain ⟨G5, e5, f5, w5⟩ := w4.newD (.dK []) (.dK (mergeK [] [(.inr "a", .int 1)])) h5
    have em : mergeK [] [(Sum.inr "a", V.int 1)] = ([(Sum.inr "a", .int 1)] : List (Key × V)) := rfl
    rw [em] at f5
    refine ⟨by show 1 ≤ sizeLine; decide, fun a6 h6 => ?_⟩
    obtain ⟨G6, e6, f6, w6⟩ := w5.newG (.tup [.non]) h6
    refine ⟨by show 1 ≤ sizeLine; decide, fun a7 h7 => ?_⟩
    obtain ⟨G7, e7, f7, w7⟩ := w6.newG (.tup [.int 1]) h7
    refine ⟨by show 1 ≤ sizeLine; decide, fun a8 h8 => ?_⟩
    obtain ⟨G8, e8, f8, w8⟩ := w7.newG (.tup [.ref a7]) h8
    have y7 := e8
    have y6 := e7.trans y7
    have y5 := e6.trans y6
    have y4 := e5.trans y5
    have y3 := e4.trans y4
    have y2 := e3.trans y3
    have y1 := e2.trans y2
    have y0 := e1.trans y1
    have f1 := y1 _ _ f1
    have f2 := y2 _ _ f2
    have f3 := y3 _ _ f3
    have f4 := y4 _ _ f4
    have f5 := y5 _ _ f5
    have f6 := y6 _ _ f6
    have f7 := y7 _ _ f7
    clear y1 y2 y3 y4 y5 y6 y7 e1 e2 e3 e4 e5 e6 e7 e8 w1 w2 w3 w4 w5 w6 w7 h1 h2 h3 h4 h5 h6 h7 h8
    revert w8
    generalize upd _ a8 (HO.tup [.ref a7]) = H8
    intro w8
    refine ⟨by show 19 ≤ sizeLine; decide, fun l hl => ?_⟩
    obtain ⟨G9, e9, f9, w9⟩ := w8.newG (.lst [V.non, .bl true, .bl false, .int (-1), .int 0, .int 1, .int 2, .int 3, .int 5, .int (10 ^ 17), .str "", .str "1", .ref a1, .ref a2, .ref a3, .ref a4, .ref a5, .ref a6, .ref a8]) hl
    refine ⟨_, rfl, _, rfl, _, p, l, _, [V.non, .bl true, .bl false, .int (-1), .int 0, .int 1, .int 2, .int 3, .int 5, .int (10 ^ 17), .str "", .str "1", .ref a1, .ref a2, .ref a3, .ref a4, .ref a5, .ref a6, .ref a8], rfl, w9, by omega, SqL.of f9, (by show 0 < 19; decide), (by show 19 ≤ 1000; decide), fun j v H10 hj w10 => ?_⟩
    have hv : Val G8 0 v := by
      match j, hj with
      | 0, hj => cases hj; exact val_of _ .non (by decide +kernel)
      | 1, hj => cases hj; exact val_of _ (.bl _) (by decide +kernel)
      | 2, hj => cases hj; exact val_of _ (.bl _) (by decide +kernel)
      | 3, hj => cases hj; exact val_of _ (.int _) (by decide +kernel)
      | 4, hj => cases hj; exact val_of _ (.int _) (by decide +kernel)
      | 5, hj => cases hj; exact val_of _ (.int _) (by decide +kernel)
      | 6, hj => cases hj; exact val_of _ (.int _) (by decide +kernel)
      | 7, hj => cases hj; exact val_of _ (.int _) (by decide +kernel)
      | 8, hj => cases hj; exact val_of _ (.int _) (by decide +kernel)
      | 9, hj => cases hj; exact val_of _ (.int _) (by decide +kernel)
      | 10, hj => cases hj; exact val_of _ (.str _) (by decide +kernel)
      | 11, hj => cases hj; exact val_of _ (.str _) (by decide +kernel)
      | 12, hj => cases hj; exact val_of _ (.tup f1 .nil) (by decide +kernel)
      | 13, hj => cases hj; exact val_of _ (.lst f2 .nil) (by decide +kernel)
      | 14, hj => cases hj; exact val_of _ (.lst f3 (.cons (.int _) .nil)) (by decide +kernel)
      | 15, hj => cases hj; exact val_of _ (.dct f4 .nil) (by decide +kernel)
      | 16, hj => cases hj; exact val_of _ (.dct f5 (.cons (.int _) .nil)) (by decide +kernel)
      | 17, hj => cases hj; exact val_of _ (.tup f6 (.cons .non .nil)) (by decide +kernel)
      | 18, hj => cases hj; exact val_of _ (.tup f8 (.cons (.tup f7 (.cons (.int _) .nil)) .nil)) (by decide +kernel)
      | n + 19, hj => simp at hj
    have hv9 := hv.ext e9
    clear hj w9
    refine ⟨_, rfl, by show 5 ≤ sizeLine; decide, fun l4 hl4 => ?_⟩
    obtain ⟨G11, e11, f11, w11⟩ := w10.newG (.lst [.int 0, .int 0, .int 0, .int 1, .int 12]) hl4
    refine ⟨_, p, l4, _, [.int 0, .int 0, .int 0, .int 1, .int 12], rfl, w11, by omega, SqL.of f11, by decide, by decide, fun j r H12 hj w12 => ?_⟩
    obtain ⟨r, rfl, r12⟩ := int_r hj
    refine ⟨_, rfl, by omega, by omega, ?_⟩
    refine for_range (n := ((r : Int)).toNat) (lo := 0) (fun i σ H' => ∃ (G' : Hp) (v : V) (v1 v3 : Option V), σ = [some (.ref p), v1, some v, v3] ∧ Ext G G' ∧ WP G' p (k + 2 + i) H' ∧ Val G' i v)
      ⟨_, v, _, _, rfl, y0.trans (e9.trans e11), w12, hv9.ext e11⟩ ?_ ?_
    · rintro i σ H' hi ⟨G', v, v1, v3, rfl, xg, wi, vi⟩
      have i12 : i < 12 := by
        have : ((r : Int)).toNat = r := rfl
        omega
      refine ⟨_, rfl, _, rfl, by show 1 ≤ sizeLine; decide, fun b1 hb1 => ?_⟩
      obtain ⟨J1, z1, g1, u1⟩ := wi.newG (.tup [v]) hb1
      refine ⟨_, rfl, by show 1 ≤ sizeLine; decide, fun b2 hb2 => ?_⟩
      obtain ⟨J2, z2, g2, u2⟩ := u1.newG (.lst [v]) hb2
      intro b3 hb3
      refine ⟨_, rfl, upd_same, [(.inr "a", v)], rfl, by show 1 ≤ 15; decide, ?_⟩
      obtain ⟨J3, z3, g3, u3⟩ := u2.newD (.dK []) (.dK (mergeK [] [(.inr "a", v)])) hb3
      have em : mergeK [] [(Sum.inr "a", v)] = ([(Sum.inr "a", v)] : List (Key × V)) := rfl
      rw [em] at g3
      refine ⟨by show 3 ≤ sizeLine; decide, fun b4 hb4 => ?_⟩
      obtain ⟨J4, z4, g4, u4⟩ := u3.newG (.lst [.ref b1, .ref b2, .ref b3]) hb4
      refine ⟨_, p, b4, _, [.ref b1, .ref b2, .ref b3], rfl, u4, by omega, SqL.of g4, (by show 0 < 3; decide), (by show 3 ≤ 1000; decide), fun j u H13 hj w13 => ?_⟩
      refine ⟨_, u, _, _, rfl, xg.trans (z1.trans (z2.trans (z3.trans z4))), w13, ?_⟩
      obtain ⟨d, hd, sd⟩ := vi.ext (z1.trans (z2.trans (z3.trans z4)))
      match j, hj with
      | 0, hj =>
        cases hj
        exact ⟨_, .tup ((z2.trans (z3.trans z4)) _ _ g1) (.cons hd .nil), (Sd.tup (SdA.cons sd (SdA.nil (w := 0)))).mono (by omega) (by omega)⟩
      | 1, hj =>
        cases hj
        exact ⟨_, .lst ((z3.trans z4) _ _ g2) (.cons hd .nil), (Sd.lst (SdA.cons sd (SdA.nil (w := 0)))).mono (by omega) (by omega)⟩
      | 2, hj =>
        cases hj
        exact ⟨.dict [(.str "a", d)], .dct (z4 _ _ g3) (.cons hd .nil), (Sd.dct1 (x := "a") sd (by decide +kernel)).mono (by omega) (by show 1 + (60 + 10 * i) + 2 ≤ _; omega)⟩
      | n + 3, hj => simp at hj
    · rintro σ H' ⟨G', v, v1, v3, rfl, xg, wi, vi⟩
      have rr : ((r : Int)).toNat = r := rfl
      refine ⟨_, rfl, ?_⟩
      exact q v G' H' xg (wi.mono (by omega)) (vi.mono (by omega))
def spDrawn (K : PySem.W.Frag) : Sp := fun vs H Q _ => ∃ (G : Hp) (p l : Addr) (k : Nat) (xs : List V), vs = [.ref p, .ref l] ∧ WP G p k H ∧ k ≤ 40000 ∧ SqL K G l xs ∧ 0 < xs.length ∧ xs.length ≤ 1000 ∧ (∀ x ∈ xs, Val G 0 x) ∧ ∀ v G' H', Ext G G' → WP G' p (k + 15) H' → Val G' 12 v → Q v H'
theorem ok__law_drawn (T : Tx P K mg) : FnOk P w K mg base CX0 5 T.F__law_drawn T.fd__law_drawn ["_law_pot_here", "_law_some"] (spDrawn K) := by
  refine T._law_drawn_ok.ok sc__law_drawn (fun vs H Q E h => ?_) (fun cdv A outer s H vs Q E hr h => ?_)
  · obtain ⟨G, p, l, k, xs, rfl, _⟩ := h
    rfl
  · obtain ⟨G, p, l, k, xs, rfl, wp, hk, hl, l0, l1, hx, q⟩ := h
    have nd := sc__law_drawn.nd
    refine ⟨_, (pss_one (ps_ret (pe_ifExp (pt_cmpR op_gt (pe_call (ok__law_take T) (hr.mono (by decide)) rfl T._law_take_mg T._law_take_ok.kp T.b__law_take .nil pass0 (pa_cons (pv 0) (pa_cons pe_int pa_nil))) pe_int (nomark _)) (pe_call (ok__law_of T) (hr.mono (by decide)) rfl T._law_of_mg T._law_of_ok.kp T.b__law_of .nil pass0 (pa_cons (pv 0) (pa_cons (pv 1) pa_nil))) (pe_call (ok__law_any T) (hr.mono (by decide)) rfl T._law_any_mg T._law_any_ok.kp T.b__law_any .nil pass0 (pa_cons (pv 0) pa_nil))))), ?_⟩
    refine ⟨_, rfl, G, p, k, 4, rfl, wp, by omega, by decide, by decide, fun r H1 r0 r1 w1 => ?_⟩
    refine ⟨_, _, rfl, rfl, _, rfl, ?_⟩
    refine ite2 (fun _ => ?_) (fun _ => ?_)
    · refine ⟨_, rfl, _, rfl, G, p, l, _, xs, rfl, w1, by omega, hl, l0, l1, fun i v H2 hi w2 => ?_⟩
      exact q v G H2 Ext.rfl' (w2.mono (by omega)) ((hx v (List.mem_of_getElem? hi)).mono (by omega))
    · refine ⟨_, rfl, G, p, _, rfl, w1, by omega, fun v G' H2 x2 w2 hv => ?_⟩
      exact q v G' H2 x2 (w2.mono (by omega)) hv
def spItems : Sp := fun vs H Q _ => ∃ (G : Hp) (p : Addr) (k : Nat), vs = [.ref p] ∧ WP G p k H ∧ k ≤ 40000 ∧ ∀ v G' H', Ext G G' → WP G' p (k + 8) H' → Val G' 12 v → Q v H'
theorem odd_at {i : Nat} {v : V} (h : [V.bl true, .int (-1), .str "1", .non, .bl false][i]? = some v) : ∃ d, (∀ G, Dq G v d) ∧ Sd 0 4 d := by
  match i, h with
  | 0, h => cases h; exact ⟨_, fun _ => .bl _, ⟨by decide, by decide +kernel, by decide +kernel, by decide +kernel⟩⟩
  | 1, h => cases h; exact ⟨_, fun _ => .int _, ⟨by decide, by decide +kernel, by decide +kernel, by decide +kernel⟩⟩
  | 2, h => cases h; exact ⟨_, fun _ => .str _, ⟨by decide, by decide +kernel, by decide +kernel, by decide +kernel⟩⟩
  | 3, h => cases h; exact ⟨_, fun _ => .non, ⟨by decide, by decide +kernel, by decide +kernel, by decide +kernel⟩⟩
  | 4, h => cases h; exact ⟨_, fun _ => .bl _, ⟨by decide, by decide +kernel, by decide +kernel, by decide +kernel⟩⟩
  | n + 5, h => simp at h
theorem ok__law_items (T : Tx P K mg) : FnOk P w K mg base CX0 5 T.F__law_items T.fd__law_items ["_law_pot_here"] spItems := by
  refine T._law_items_ok.ok sc__law_items (fun vs H Q E h => ?_) (fun cdv A outer s H vs Q E hr h => ?_)
  · obtain ⟨G, p, k, rfl, _⟩ := h
    rfl
  · obtain ⟨G, p, k, rfl, wp, hk, q⟩ := h
    have nd := sc__law_items.nd
    refine ⟨_, (pss_cons (ps_setLc (i := 1) (own := [("_law_lap", 3)]) (g := gName 3) (by rfl) nd rfl rfl (sw_true rfl rfl rfl (by decide +kernel)) (pi_range1 (by rfl) T.b_range (pa_cons (pe_call (ok__law_take T) (hr.mono (by decide)) rfl T._law_take_mg T._law_take_ok.kp T.b__law_take .nil pass0 (pa_cons (pv 0) (pa_cons pe_int pa_nil))) pa_nil)) (blkOk_by (own := [("_law_lap", 3)]) (N := N__law_items) (sc := defScope s__law_items) (by decide +kernel)) (fun _ _ _ _ _ => (pg_name (i := 3) nd rfl (Or.inl rfl))) (fun _ _ _ _ _ => pts_nil) (fun _ _ _ _ _ => (pe_call (ok__law_take T) (hr.mono (by decide)) rfl T._law_take_mg T._law_take_ok.kp T.b__law_take .nil pass0 (pa_cons (pv 0) (pa_cons pe_int pa_nil))))) (pss_cons (ps_set (i := 2) nd rfl (Or.inl rfl) (pe_call (ok__law_take T) (hr.mono (by decide)) rfl T._law_take_mg T._law_take_ok.kp T.b__law_take .nil pass0 (pa_cons (pv 0) (pa_cons pe_int pa_nil)))) (pss_cons (ps_if (pt_cmpR op_eq (pv 2) pe_int (nomark _)) (pss_one (ps_ret (pe_callTy call_list_of (by rfl) T.b_list (by decide +kernel) (pa_cons (pv 1) pa_nil)))) pss_nil) (pss_cons (ps_if (pt_cmpR op_eq (pv 2) pe_int (nomark _)) (pss_one (ps_ret (pe_callTy call_tuple_of (by rfl) T.b_tuple (by decide +kernel) (pa_cons (pe_op op_cat (pv 1) (pe_lst (pa_cons (pe_call (ok__law_of T) (hr.mono (by decide)) rfl T._law_of_mg T._law_of_ok.kp T.b__law_of .nil pass0 (pa_cons (pv 0) (pa_cons (pe_lst (pa_cons pe_bl (pa_cons (pe_un un_neg pe_int) (pa_cons pe_str (pa_cons pe_non (pa_cons pe_bl pa_nil)))))) pa_nil))) pa_nil))) pa_nil)))) pss_nil) (pss_one (ps_ret (pe_callTy call_tuple_of (by rfl) T.b_tuple (by decide +kernel) (pa_cons (pv 1) pa_nil)))))))), ?_⟩
    refine ⟨_, rfl, G, p, k, 4, rfl, wp, by omega, by decide, by decide, fun r H1 r0 r1 w1 => ?_⟩
    refine ⟨r, rfl, by omega, by omega, fun D hD => ?_⟩
    have gD := ext_none w1.ext hD
    refine lc_range (n := r.toNat) (lo := 0) (fun i H' => ∃ ns : List Int, ns.length = i ∧ (∀ z ∈ ns, 0 ≤ z ∧ z < 5) ∧ WP (upd G D (.lst (ns.map V.int))) p (k + 1 + i) H') ⟨[], rfl, fun _ z => (nomatch z), w1.new hD⟩ (fun i H' hi h => ?_) (fun H' h => ?_)
    · obtain ⟨ns, hn, hb, wi⟩ := h
      refine ⟨rfl, ?_⟩
      refine ⟨_, rfl, _, p, _, 5, rfl, wi, by omega, by decide, by decide, fun x H2 x0 x5 w2 => ?_⟩
      refine ⟨_, w2.ext _ _ upd_same, by rw [List.length_map]; exact Nat.lt_trans (by omega : ns.length < 5) (by decide), ?_⟩
      refine ⟨ns ++ [x], by rw [List.length_append]; exact congrArg Nat.succ hn, fun z hz => ?_, ?_⟩
      · rcases List.mem_append.mp hz with hz | hz
        · exact hb z hz
        · rw [List.mem_singleton.mp hz]
          exact ⟨x0, x5⟩
      · rw [List.map_append]
        exact WP.over w2 gD
    · obtain ⟨ns, hn, hb, wi⟩ := h
      have n4 : ns.length < 5 := by omega
      have xG : Ext G (upd G D (.lst (ns.map V.int))) := ext_upd gD
      have fD : upd G D (.lst (ns.map V.int)) D = some (.lst (ns.map V.int)) := upd_same
      generalize upd G D (.lst (ns.map V.int)) = G1 at wi xG fD
      have sns : SdA 0 25 (ns.map PyData.int) := (sdA_of (k := 0) (w := 4) fun d hd => by
        obtain ⟨z, hz, rfl⟩ := List.mem_map.mp hd
        exact sd_int (hb z hz).1 (by have := (hb z hz).2; omega)).mono (Nat.le_refl _) (by rw [List.length_map]; omega)
      refine ⟨_, rfl, G1, p, _, 8, rfl, wi, by omega, by decide, by decide, fun y H2 y0 y8 w2 => ?_⟩
      have hD2 := w2.ext _ _ fD
      refine ⟨_, rfl, rfl, _, rfl, ?_⟩
      refine ite2 (fun _ => ?_) (fun _ => ?_)
      · refine ⟨_, rfl, D, _, rfl, .inl (SqL.of hD2), fun l hl => ?_⟩
        obtain ⟨G2, e2, f2, w3⟩ := w2.newG (.lst (ns.map V.int)) hl
        exact q _ G2 _ (xG.trans e2) (w3.mono (by omega)) ⟨_, .lst f2 dqAll_ints, (Sd.lst sns).mono (by omega) (by omega)⟩
      · refine ⟨_, rfl, rfl, _, rfl, ?_⟩
        refine ite2 (fun _ => ?_) (fun _ => ?_)
        · refine ⟨_, rfl, _, rfl, _, rfl, by show 5 ≤ sizeLine; decide, fun l hl => ?_⟩
          obtain ⟨G2, e2, f2, w3⟩ := w2.newG (.lst [.bl true, .int (-1), .str "1", .non, .bl false]) hl
          refine ⟨_, p, l, _, _, rfl, w3, by omega, SqL.of f2, (by show 0 < 5; decide), (by show 5 ≤ 1000; decide), fun j v H3 hj w4 => ?_⟩
          obtain ⟨d, hd, sd⟩ := odd_at hj
          refine ⟨by show 1 ≤ sizeLine; decide, fun l2 hl2 => ?_⟩
          obtain ⟨G3, e3, f3, w5⟩ := w4.newG (.lst [v]) hl2
          have hD3 := w5.ext _ _ ((e2.trans e3) _ _ fD)
          refine ⟨D, l2, _, _, rfl, rfl, hD3, w5.ext _ _ f3, by rw [List.length_map]; exact Nat.le_trans (by show ns.length + 1 ≤ 10; omega) (by decide), fun l3 hl3 => ?_⟩
          obtain ⟨G4, e4, f4, w6⟩ := w5.newG (.lst (ns.map V.int ++ [v])) hl3
          refine ⟨l3, _, rfl, .inl ⟨SqL.of (w6.ext _ _ f4), fun t ht => ?_⟩⟩
          obtain ⟨G5, e5, f5, w7⟩ := w6.newG (.tup (ns.map V.int ++ [v])) ht
          refine q _ G5 _ (xG.trans (e2.trans (e3.trans (e4.trans e5)))) (w7.mono (by omega)) ⟨_, .tup f5 (dqAll_app dqAll_ints (.cons (hd _) .nil)), (Sd.tup (sdA_app sns (SdA.cons sd (SdA.nil (w := 0))))).mono (by omega) (by omega)⟩
        · refine ⟨_, rfl, D, _, rfl, .inl ⟨SqL.of hD2, fun t ht => ?_⟩⟩
          obtain ⟨G2, e2, f2, w3⟩ := w2.newG (.tup (ns.map V.int)) ht
          exact q _ G2 _ (xG.trans e2) (w3.mono (by omega)) ⟨_, .tup f2 dqAll_ints, (Sd.tup sns).mono (by omega) (by omega)⟩
end
end K03

namespace K03
open PySem PySem.Spec PyProof.Rows L2 L2.TP
def toI : PyData → Int
  | .int i => i
  | _ => 0
/-- what is due for a size d, a most e and items f -/
def dueD (d e f : PyData) : PyData := if fromD 2 4 d = true then (if fromD 1 2 e = true then (if areD (toI d) (toI e) f = true then .tuple [.str "told", f] else .tuple [.str "items", f]) else .tuple [.str "most", e]) else .tuple [.str "size", d]
theorem due_size {d e f : PyData} (h : fromD 2 4 d = false) : dueD d e f = .tuple [.str "size", d] := by
  unfold dueD
  rw [if_neg (by rw [h]; decide)]
theorem due_most {d e f : PyData} (h : fromD 2 4 d = true) (h2 : fromD 1 2 e = false) : dueD d e f = .tuple [.str "most", e] := by
  unfold dueD
  rw [if_pos h, if_neg (by rw [h2]; decide)]
theorem due_items {n m : Int} {f : PyData} (h : fromD 2 4 (.int n) = true) (h2 : fromD 1 2 (.int m) = true) (h3 : areD n m f = false) : dueD (.int n) (.int m) f = .tuple [.str "items", f] := by
  unfold dueD
  rw [if_pos h, if_pos h2, if_neg (by show ¬ areD n m f = true; rw [h3]; decide)]
theorem due_told {n m : Int} {f : PyData} (h : fromD 2 4 (.int n) = true) (h2 : fromD 1 2 (.int m) = true) (h3 : areD n m f = true) : dueD (.int n) (.int m) f = .tuple [.str "told", f] := by
  unfold dueD
  rw [if_pos h, if_pos h2, if_pos (by show areD n m f = true; exact h3)]
/-- what the def that hears makes of the call it got -/
def TTh (CN CZ CM CI : Addr) : (XK → Hp → VK → Prop) → Hp → VK → Prop := fun tl H Q => ∀ (E : XK) (R : VK),
  (∀ (D x : Addr) (v : V) (nm : Str) (H' : Hp), ((D = CZ ∧ nm = "size") ∨ (D = CM ∧ nm = "most") ∨ (D = CI ∧ nm = "items")) → H' x = some (.xd [("value", v)]) → (∀ z H2, Ext H' H2 → H2 z = some (.tup [.str nm, v]) → Q (.ref z) H2) → E (.ref D) (some x) H') →
  (∀ (x dx : Addr) (n m : Int) (t : V) (H' : Hp), H' x = some (.ins CN dx (rf n m t)) → (∀ z H2, Ext H' H2 → H2 z = some (.tup [.str "told", t]) → Q (.ref z) H2) → R (.ref x) H') → tl E H R
section
variable {P : Program} {w : World} {K : PySem.W.Frag} {mg : Str → Option Value} {base : Heap}
def spDue : Sp := fun vs H Q _ => ∃ v u t d e f, vs = [v, u, t] ∧ Dq H v d ∧ Dq H u e ∧ Dq H t f ∧ ∀ z H', Ext H H' → Dq H' z (dueD d e f) → Q z H'
theorem ok__law_due (T : Tx P K mg) : FnOk P w K mg base CX0 4 T.F__law_due T.fd__law_due ["_law_girth", "_law_cap", "_law_things"] spDue := by
  refine T._law_due_ok.ok sc__law_due (fun vs H Q E h => ?_) (fun cdv A outer s H vs Q E hr h => ?_)
  · obtain ⟨v, u, t, d, e, f, rfl, _⟩ := h
    rfl
  · obtain ⟨v, u, t, d, e, f, rfl, hv, hu, ht, k⟩ := h
    have nd := sc__law_due.nd
    have fin : ∀ (nm : Str) (x : V) (f : PyData), dueD d e f = .tuple [.str nm, f] → True := fun _ _ _ _ => trivial
    refine ⟨_, (pss_cons (ps_if (pt_not (pt_val (pe_call (ok__law_is_from T) (hr.mono (by decide)) rfl T._law_is_from_mg T._law_is_from_ok.kp T.b__law_is_from .nil pass0 (pa_cons (pv 0) (pa_cons pe_int (pa_cons pe_int pa_nil)))))) (pss_one (ps_ret (pe_tup (pa_cons pe_str (pa_cons (pv 0) pa_nil))))) pss_nil) (pss_cons (ps_if (pt_not (pt_val (pe_call (ok__law_is_from T) (hr.mono (by decide)) rfl T._law_is_from_mg T._law_is_from_ok.kp T.b__law_is_from .nil pass0 (pa_cons (pv 1) (pa_cons pe_int (pa_cons pe_int pa_nil)))))) (pss_one (ps_ret (pe_tup (pa_cons pe_str (pa_cons (pv 1) pa_nil))))) pss_nil) (pss_cons (ps_if (PW.pt (pw_or (pt_not (pt_val (pe_callB call_isi (by rfl) T.b_isinstance (by decide +kernel) (pa_cons (pv 2) (pa_cons (pe_bltn (by rfl) T.b_tuple (by decide +kernel) (v := .ty "tuple") rfl) pa_nil))))) (pw_or1 (pt_cmpR op_gt (pe_callB call_len_seq (by rfl) T.b_len (by decide +kernel) (pa_cons (pv 2) pa_nil)) (pv 1) (nomark _))))) (pss_one (ps_ret (pe_tup (pa_cons pe_str (pa_cons (pv 2) pa_nil))))) pss_nil) (pss_one (ps_ret (pe_ifExp (pt_val (pe_callB (cr_all rfl) (by rfl) T.b_all (by decide +kernel) (pa_cons (pe_lc (own := [("_law_one", 3)]) (g := gName 3) (by rfl) nd (pi_tup (pv 2)) (blkOk_by (own := [("_law_one", 3)]) (N := N__law_due) (sc := defScope s__law_due) (by decide +kernel)) (fun _ _ _ _ _ => (pg_name (i := 3) nd rfl (Or.inl rfl))) (fun _ _ _ _ _ => pts_nil) (fun _ _ _ _ _ => (pe_call (ok__law_is_from T) (hr.mono (by decide)) rfl T._law_is_from_mg T._law_is_from_ok.kp T.b__law_is_from .nil pass0 (pa_cons (pv 3) (pa_cons pe_int (pa_cons (pe_op op_sub (pv 0) pe_int) pa_nil)))))) pa_nil))) (pe_tup (pa_cons pe_str (pa_cons (pv 2) pa_nil))) (pe_tup (pa_cons pe_str (pa_cons (pv 2) pa_nil))))))))), ?_⟩
    refine ⟨_, rfl, v, d, 2, 4, rfl, hv, _, rfl, ?_⟩
    cases c1 : fromD 2 4 d with
    | false =>
      refine iteT ⟨_, rfl, by show 2 ≤ sizeLine; decide, fun z hz => ?_⟩
      refine k _ _ (ext_upd hz) ?_
      rw [due_size c1]
      exact .tup upd_same (.cons (.str _) (.cons (hv.ext (ext_upd hz)) .nil))
    | true =>
      refine iteF ?_
      obtain ⟨n, rfl, n2, n4⟩ := from_true c1
      cases hv
      refine ⟨_, rfl, u, e, 1, 2, rfl, hu, _, rfl, ?_⟩
      cases c2 : fromD 1 2 e with
      | false =>
        refine iteT ⟨_, rfl, by show 2 ≤ sizeLine; decide, fun z hz => ?_⟩
        refine k _ _ (ext_upd hz) ?_
        rw [due_most c1 c2]
        exact .tup upd_same (.cons (.str _) (.cons (hu.ext (ext_upd hz)) .nil))
      | true =>
        refine iteF ?_
        obtain ⟨m, rfl, m1, m2⟩ := from_true c2
        cases hu
        have bad : areD n m f = false → ∀ H', Ext H H' → ∀ z, H' z = none → Q (.ref z) (upd H' z (.tup [.str "items", t])) := fun c H' x z hz => by
          refine k _ _ (x.trans (ext_upd hz)) ?_
          rw [due_items c1 c2 c]
          exact .tup upd_same (.cons (.str _) (.cons (ht.ext (x.trans (ext_upd hz))) .nil))
        refine ⟨_, rfl, _, _, _, _, _, rfl, .ty _, tyD ht, kitT f, _, rfl, ?_⟩
        cases ht with
        | tup ha al =>
          rename_i a xs ds
          refine iteF ?_
          refine ⟨_, rfl, a, _, rfl, .inr (SqT.of ha), _, rfl, _, _, rfl, rfl, _, rfl, ?_⟩
          have ll := all_len al
          by_cases c : (ds.length : Int) ≤ m
          · refine (if_neg (show ¬ decide (m < (xs.length : Int)) = true from fun z => absurd (of_decide_eq_true z) (by omega))).mpr ?_
            refine ⟨_, rfl, a, rfl, ⟨_, SqT.of ha⟩, fun D hD => ?_⟩
            refine lc_tup (K := K) (a := a) (xs := xs) (fun i H'' => Ext H H'' ∧ H'' D = some (.lst ((ds.take i).map fun f => .bl (fromD 0 (n - 1) f)))) ⟨ext_upd hD, upd_same⟩ (fun i H'' _ h => SqT.of (h.1 _ _ ha)) (fun i x H'' hx h => ?_) (fun H'' h => ?_)
            · obtain ⟨f, hf, df⟩ := all_at al hx
              have i2 : i < ds.length := (List.getElem?_eq_some_iff.mp hf).1
              refine ⟨rfl, ?_⟩
              refine ⟨_, rfl, _, rfl, _, _, rfl, rfl, x, f, 0, n - 1, rfl, df.ext h.1, ?_⟩
              refine ⟨_, h.2, by rw [List.length_map, List.length_take]; exact Nat.lt_of_le_of_lt (Nat.min_le_left _ _) (Nat.lt_trans (by omega : i < 4) (by decide)), ?_⟩
              refine ⟨ext_over h.1 hD, ?_⟩
              rw [upd_same, List.take_succ, hf, List.map_append]
              rfl
            · rw [ll, List.take_length] at h
              refine ⟨D, ds.map (fromD 0 (n - 1)), rfl, SqL.of (by rw [List.map_map]; exact h.2), ?_⟩
              have e : areD n m (.tuple ds) = (ds.map (fromD 0 (n - 1))).all id := by
                show (decide ((ds.length : Int) ≤ m) && ds.all (fromD 0 (n - 1))) = _
                rw [decide_eq_true c, Bool.true_and, List.all_map]
                rfl
              cases c3 : (ds.map (fromD 0 (n - 1))).all id with
              | false =>
                rw [c3] at e
                exact ⟨_, rfl, iteF ⟨_, rfl, by show 2 ≤ sizeLine; decide, fun z hz => bad e _ h.1 z hz⟩⟩
              | true =>
                rw [c3] at e
                refine ⟨_, rfl, iteT ⟨_, rfl, by show 2 ≤ sizeLine; decide, fun z hz => ?_⟩⟩
                refine k _ _ (h.1.trans (ext_upd hz)) ?_
                rw [due_told c1 c2 e]
                exact .tup upd_same (.cons (.str _) (.cons ((Dq.tup ha al).ext (h.1.trans (ext_upd hz))) .nil))
          · refine (if_pos (show decide (m < (xs.length : Int)) = true from decide_eq_true (by omega))).mpr ?_
            have e : areD n m (.tuple ds) = false := by
              show (decide ((ds.length : Int) ≤ m) && ds.all (fromD 0 (n - 1))) = _
              rw [decide_eq_false c]
              rfl
            exact ⟨_, rfl, by show 2 ≤ sizeLine; decide, fun z hz => bad e _ Ext.rfl' z hz⟩
        | non => exact iteT ⟨_, rfl, by show 2 ≤ sizeLine; decide, fun z hz => bad rfl _ Ext.rfl' z hz⟩
        | bl b => exact iteT ⟨_, rfl, by show 2 ≤ sizeLine; decide, fun z hz => bad rfl _ Ext.rfl' z hz⟩
        | int i => exact iteT ⟨_, rfl, by show 2 ≤ sizeLine; decide, fun z hz => bad rfl _ Ext.rfl' z hz⟩
        | str x => exact iteT ⟨_, rfl, by show 2 ≤ sizeLine; decide, fun z hz => bad rfl _ Ext.rfl' z hz⟩
        | lst h t => exact iteT ⟨_, rfl, by show 2 ≤ sizeLine; decide, fun z hz => bad rfl _ Ext.rfl' z hz⟩
        | dct h t => exact iteT ⟨_, rfl, by show 2 ≤ sizeLine; decide, fun z hz => bad rfl _ Ext.rfl' z hz⟩
end
section
variable {X : Cx}
theorem exc_z (T : Tx X.prog X.K X.mg) : ExcC X.K T.C_BadSize := ⟨T.BadSize_xf.ga, T.BadSize_xf.gg, T.BadSize_xf.exC, T.BadSize_xf.hdC, T.x_eBadSizecc, T.x_cg, T.x_ct, T.x_eBadSizecm⟩
theorem exc_m (T : Tx X.prog X.K X.mg) : ExcC X.K T.C_BadMost := ⟨T.BadMost_xf.ga, T.BadMost_xf.gg, T.BadMost_xf.exC, T.BadMost_xf.hdC, T.x_eBadMostcc, T.x_cg, T.x_ct, T.x_eBadMostcm⟩
theorem exc_i (T : Tx X.prog X.K X.mg) : ExcC X.K T.C_BadItems := ⟨T.BadItems_xf.ga, T.BadItems_xf.gg, T.BadItems_xf.exC, T.BadItems_xf.hdC, T.x_eBadItemscc, T.x_cg, T.x_ct, T.x_eBadItemscm⟩
theorem exc_f (T : Tx X.prog X.K X.mg) : ExcC X.K T.C_Fault := ⟨T.Fault_xf.ga, T.Fault_xf.gg, T.Fault_xf.exC, T.Fault_xf.hdC, T.x_eFaultcc, T.x_cg, T.x_ct, T.x_eFaultcm⟩
theorem ty_row (T : Tx X.prog X.K X.mg) {H : Hp} {a dx : Addr} {n m : Int} {t : V} (h : H a = some (.ins T.C_Row dx (rf n m t))) : TyX X.K H (.ref a) (.ref T.C_Row) := .base (.ins h T.Row_cl T.x_rcc T.x_cg T.x_ct T.x_rcm)
theorem kit_ne {K : PySem.W.Frag} {C D : Addr} (h : (PySem.W.clsIn K C).isSome = true ∧ PySem.W.typeIn K (.ref C) = some (.type "type")) (hs : PySem.W.subIn K (.ref D) (.ref C) = some false) (hc : PySem.W.subIn K (.ref C) (.ref C) = some true) : PySem.W.kitOne K (.ref D) (.ref C) = some false :=
  kit_ref h hs fun z => by
    rw [z, hc] at hs
    cases hs
theorem heard_gives (T : Tx X.prog X.K X.mg) (hr0 : Room 4 X.A) {cdg : Value} {q : Str} : GivesS X N__law_heard "_law_heard" (defScope s__law_heard) T.F__law_heard cdg (defBody s__law_heard) "_law_call" q (TTh T.C_Row T.C_BadSize T.C_BadMost T.C_BadItems) := by
  intro f c' s H Q tl act hc h
  have nd := sc__law_heard.nd
  have hr : Room 3 (gCx X N__law_heard "_law_heard" (defScope s__law_heard) T.F__law_heard cdg s H).A := hr0.deeper _
  refine ⟨_, (pss_cons (ps_set (i := 1) nd rfl (Or.inl rfl) pe_non) (pss_cons (ps_try_keep (i := 3) (tb := fun W D σ H => ∃ Ech : L2.St → XK, (∀ σ' cls d H', Ech σ' cls d H' → W cls d σ' H') ∧ σ[0]? = some (some (.ref f)) ∧ H c' = some (LamX.CodeO c' q) ∧ tl (Ech σ) H (fun v H1 => D.nx (σ.set 2 (some v)) H1)) rfl rfl nd rfl rfl rfl ⟨rfl, by decide, .inl T.TapeError_mg⟩ takes0 (fun W pn xe tk _ => ⟨fun pins s' σ H' D I h' => (by obtain ⟨Ech, hW, h1, h2, h3⟩ := h'; exact (pss_one (ps_set (i := 2) nd rfl (Or.inl rfl) (act W pn xe Ech _ _ tk hW))).run pins s' σ H' D I ⟨h1, h2, h3⟩)⟩) (fun a oe cls d pn hz hf => pss_one (ps_set (i := 1) nd rfl (Or.inl rfl) (pv 3)))) (pss_cons (ps_if (pt_cmpR op_isN (pv 1) pe_non (nomark _)) (pss_one (ps_ret (pe_ifExp (pt_val (pe_callB call_isi (by rfl) T.b_isinstance (by decide +kernel) (pa_cons (pv 2) (pa_cons (pe_glob (v := .ref T.C_Row) rfl T.Row_mg rfl) pa_nil)))) (pe_tup (pa_cons pe_str (pa_cons (pe_prop (pv 2) T.Row_cl T.Row_worths_pr (ok_Row_worths T) (hr.mono (by decide)) T.b_Row_worths .nil pass0 rfl) pa_nil))) (pe_tup (pa_cons pe_str (pa_cons pe_non pa_nil)))))) pss_nil) (pss_cons (ps_set (i := 4) nd rfl (Or.inl rfl) (pe_lst (pa_cons (pe_callB call_isV (by rfl) T.b_isinstance (by decide +kernel) (pa_cons (pv 1) (pa_cons (pe_glob (v := .ref T.C_BadSize) rfl T.BadSize_mg rfl) pa_nil))) (pa_cons (pe_callB call_isV (by rfl) T.b_isinstance (by decide +kernel) (pa_cons (pv 1) (pa_cons (pe_glob (v := .ref T.C_BadMost) rfl T.BadMost_mg rfl) pa_nil))) (pa_cons (pe_callB call_isV (by rfl) T.b_isinstance (by decide +kernel) (pa_cons (pv 1) (pa_cons (pe_glob (v := .ref T.C_BadItems) rfl T.BadItems_mg rfl) pa_nil))) pa_nil))))) (pss_cons (ps_if (PW.pt (pw_or (pt_cmpR op_ne (pe_bm PySem.F.plainAttrs_list PySem.F.slot_list_count PySem.F.type_list_count mt_countF (pv 4) (pa_cons pe_bl pa_nil)) pe_int (nomark _)) (pw_or1 (pt_not (pt_val (pe_callB call_isV (by rfl) T.b_isinstance (by decide +kernel) (pa_cons (pv 1) (pa_cons (pe_bltn (by rfl) T.b_ValueError (by decide +kernel) (v := .ty "ValueError") rfl) pa_nil)))))))) (pss_one (ps_ret (pe_tup (pa_cons pe_str (pa_cons pe_non pa_nil))))) pss_nil) (pss_one (ps_ret (pe_tup (pa_cons (pe_ix ix_list (pe_lst (pa_cons pe_str (pa_cons pe_str (pa_cons pe_str pa_nil)))) (pe_bm PySem.F.plainAttrs_list PySem.F.slot_list_index PySem.F.type_list_index mt_index (pv 4) (pa_cons pe_bl pa_nil)) (fun _ _ => rfl)) (pa_cons (pe_xfV (pv 1)) pa_nil)))))))))), ?_⟩
  refine ⟨fun σ' cls d H' => wKeep _ _ _ _ _ _ cls d σ' H', fun _ _ _ _ z => z, rfl, hc, h _ _ (fun D x v nm H1 hD hx k => ?_) (fun x dx n m t H1 hx k => ?_)⟩
  · obtain ⟨b1, b2, b3, j, ec, xf, no, kz, km, ki, kv, te, hcn, hj1, hj2, hnm⟩ : ∃ (b1 b2 b3 : Bool) (j : Nat), ExcC X.K D ∧ XfC X.K D ∧ PySem.W.findIn X.K (.ref D) "value" = some none ∧ PySem.W.kitOne X.K (.ref D) (.ref T.C_BadSize) = some b1 ∧ PySem.W.kitOne X.K (.ref D) (.ref T.C_BadMost) = some b2 ∧ PySem.W.kitOne X.K (.ref D) (.ref T.C_BadItems) = some b3 ∧ PySem.W.kitOne X.K (.ref D) (.type "ValueError") = some true ∧
        PySem.W.exmOne X.K (.ref D) (.ref T.C_TapeError) = some true ∧ ([V.bl b1, .bl b2, .bl b3].countP fun z => eqV z (.bl true)) = 1 ∧ [V.bl b1, .bl b2, .bl b3][j]? = some (.bl true) ∧ (∀ (m : Nat) (z' : V), m < j → [V.bl b1, .bl b2, .bl b3][m]? = some z' → eqV z' (.bl true) = false) ∧ atI [V.str "size", .str "most", .str "items"] (j : Nat) = some (.str nm) := by
      have tz : (PySem.W.clsIn X.K T.C_BadSize).isSome = true ∧ PySem.W.typeIn X.K (.ref T.C_BadSize) = some (.type "type") := ⟨cls_some T.x_dBadSize, T.x_yBadSize⟩
      have tm : (PySem.W.clsIn X.K T.C_BadMost).isSome = true ∧ PySem.W.typeIn X.K (.ref T.C_BadMost) = some (.type "type") := ⟨cls_some T.x_dBadMost, T.x_yBadMost⟩
      have ti : (PySem.W.clsIn X.K T.C_BadItems).isSome = true ∧ PySem.W.typeIn X.K (.ref T.C_BadItems) = some (.type "type") := ⟨cls_some T.x_dBadItems, T.x_yBadItems⟩
      rcases hD with ⟨rfl, rfl⟩ | ⟨rfl, rfl⟩ | ⟨rfl, rfl⟩
      · exact ⟨true, false, false, 0, exc_z T, T.BadSize_xf, T.BadSize_no0, kit_ref tz T.x_kBadSizeBadSize fun _ => rfl, kit_ne tm T.x_kBadSizeBadMost T.x_kBadMostBadMost, kit_ne ti T.x_kBadSizeBadItems T.x_kBadItemsBadItems, T.x_vBadBadSize, EXM T.x_te T.x_td T.x_tt T.x_tBadSize, rfl, rfl, fun m z' hm => absurd hm (Nat.not_lt_zero m), rfl⟩
      · refine ⟨false, true, false, 1, exc_m T, T.BadMost_xf, T.BadMost_no0, kit_ne tz T.x_kBadMostBadSize T.x_kBadSizeBadSize, kit_ref tm T.x_kBadMostBadMost fun _ => rfl, kit_ne ti T.x_kBadMostBadItems T.x_kBadItemsBadItems, T.x_vBadBadMost, EXM T.x_te T.x_td T.x_tt T.x_tBadMost, rfl, rfl, fun m z' hm e => ?_, rfl⟩
        have : m = 0 := by omega
        subst this
        cases e
        rfl
      · refine ⟨false, false, true, 2, exc_i T, T.BadItems_xf, T.BadItems_no0, kit_ne tz T.x_kBadItemsBadSize T.x_kBadSizeBadSize, kit_ne tm T.x_kBadItemsBadMost T.x_kBadMostBadMost, kit_ref ti T.x_kBadItemsBadItems fun _ => rfl, T.x_vBadBadItems, EXM T.x_te T.x_td T.x_tt T.x_tBadItems, rfl, rfl, fun m z' hm e => ?_, rfl⟩
        match m, hm, e with
        | 0, _, e => cases e; rfl
        | 1, _, e => cases e; rfl
    refine ⟨true, te, fun _ a na => ?_, fun z => nomatch z⟩
    refine ⟨_, rfl, fun _ => ?_⟩
    have xa := ext_upd (o := ExV (.ref D) (some x) a) na
    have ea : upd H1 a (ExV (.ref D) (some x) a) a = some (ExV (.ref D) (some x) a) := upd_same
    have ed := xa _ _ hx
    generalize upd H1 a (ExV (.ref D) (some x) a) = H2 at xa ea ed ⊢
    refine ⟨_, rfl, rfl, _, rfl, iteF ?_⟩
    refine ⟨_, rfl, a, D, x, _, _, _, b1, rfl, .own _, ea, ed, ec, kz, _, rfl, a, D, x, _, _, _, b2, rfl, .own _, ea, ed, ec, km, _, rfl, a, D, x, _, _, _, b3, rfl, .own _, ea, ed, ec, ki, by show 3 ≤ sizeLine; decide, fun l hl => ?_⟩
    have xl := ext_upd (o := HO.lst [.bl b1, .bl b2, .bl b3]) hl
    have el : upd H2 l (.lst [.bl b1, .bl b2, .bl b3]) l = some (.lst [.bl b1, .bl b2, .bl b3]) := upd_same
    have ea3 := xl _ _ ea
    have ed3 := xl _ _ ed
    generalize upd H2 l (.lst [.bl b1, .bl b2, .bl b3]) = H3 at xl el ea3 ed3 ⊢
    refine ⟨_, rfl, .inl ⟨rfl, _, SqL.of el⟩, l, _, _, rfl, rfl, SqL.of el, rfl, rfl, ?_⟩
    rw [hcn]
    refine ⟨rfl, _, rfl, iteF ?_⟩
    refine ⟨_, rfl, a, D, x, _, _, _, true, rfl, .ty _, ea3, ed3, ec, kv, _, rfl, iteF ?_⟩
    refine ⟨by show 3 ≤ sizeLine; decide, fun l2 hl2 => ?_⟩
    have xl2 := ext_upd (o := HO.lst [.str "size", .str "most", .str "items"]) hl2
    refine ⟨_, rfl, .inl ⟨rfl, _, SqL.of (xl2 _ _ el)⟩, l, _, _, j, _, rfl, rfl, SqL.of (xl2 _ _ el), rfl, rfl, hj1, rfl, hj2, ?_⟩
    refine ⟨l2, _, _, _, rfl, rfl, SqL.of upd_same, hnm, ?_⟩
    refine ⟨_, rfl, a, D, x, _, v, rfl, xl2 _ _ ea3, xl2 _ _ ed3, xf, no, rfl, by show 2 ≤ sizeLine; decide, fun z hz => ?_⟩
    exact k z _ (xa.trans (xl.trans (xl2.trans (ext_upd hz)))) upd_same
  · refine ⟨_, rfl, rfl, _, rfl, iteT ?_⟩
    refine ⟨_, rfl, _, _, _, _, _, rfl, .own _, ty_row T hx, kit_ref T.Row_ty T.x_r3 (fun _ => rfl), _, rfl, iteT ?_⟩
    refine ⟨_, rfl, x, dx, _, rfl, hx, x, dx, _, _, rfl, hx, rf_worths n m t, by show 2 ≤ sizeLine; decide, fun z hz => ?_⟩
    exact k z _ (ext_upd hz) upd_same
end
end K03

namespace K03
open PySem PySem.Spec PyProof.Rows L2 L2.TP
/-- the name that the lambdas of the law bear -/
def qn : Str := (envOfC "_law_right" (defScope s__law_right) 0 0 .none).qual ++ "<lambda>"
def perm (us ws : List α) : List α := match us, ws with
  | [a], [b, c, d] => [a, d, c, b]
  | _, _ => []
/-- what was heard stands at z -/
def Told (H : Hp) (z : Addr) (v u t : V) (d e f : PyData) : Prop := ∃ nm x dx, H z = some (.tup [.str nm, x]) ∧ dueD d e f = .tuple [.str nm, dx] ∧ ((x = v ∧ dx = d) ∨ (x = u ∧ dx = e) ∨ (x = t ∧ dx = f))
theorem Told.dq {H : Hp} {z : Addr} {v u t : V} {d e f : PyData} (k : Told H z v u t d e f) (hv : Dq H v d) (hu : Dq H u e) (ht : Dq H t f) : Dq H (.ref z) (dueD d e f) := by
  obtain ⟨nm, x, dx, ez, ed, h⟩ := k
  rw [ed]
  rcases h with ⟨rfl, rfl⟩ | ⟨rfl, rfl⟩ | ⟨rfl, rfl⟩
  · exact .tup ez (.cons (.str _) (.cons hv .nil))
  · exact .tup ez (.cons (.str _) (.cons hu .nil))
  · exact .tup ez (.cons (.str _) (.cons ht .nil))
theorem Told.extN {H H' : Hp} {z : Addr} {v u t : V} {d e f : PyData} (k : Told H z v u t d e f) (x : LamX.ExtN H H') : Told H' z v u t d e f := by
  obtain ⟨nm, y, dx, ez, ed, h⟩ := k
  exact ⟨nm, y, dx, x _ _ ez (fun _ z => by cases z), ed, h⟩
theorem Told.put {H : Hp} {z l a : Addr} {v u t : V} {d e f : PyData} {o : HO} (k : Told H z v u t d e f) (hl : H l = some (.lst [.ref a])) : Told (upd H l o) z v u t d e f := by
  obtain ⟨nm, y, dx, ez, ed, h⟩ := k
  have n1 : z ≠ l := fun c => by
    rw [c, hl] at ez
    cases ez
  exact ⟨nm, y, dx, by rw [upd_ne n1]; exact ez, ed, h⟩
theorem tells {CN CZ CM CI : Addr} {H : Hp} {v u t : V} {d e f : PyData} {E : XK} {R Q : VK} (hv : Dq H v d) (hu : Dq H u e) (ht : Dq H t f) (k : ∀ z H', Ext H H' → Told H' z v u t d e f → Q (.ref z) H')
    (hE : ∀ (D x : Addr) (v : V) (nm : Str) (H' : Hp), ((D = CZ ∧ nm = "size") ∨ (D = CM ∧ nm = "most") ∨ (D = CI ∧ nm = "items")) → H' x = some (.xd [("value", v)]) → (∀ z H2, Ext H' H2 → H2 z = some (.tup [.str nm, v]) → Q (.ref z) H2) → E (.ref D) (some x) H')
    (hR : ∀ (x dx : Addr) (n m : Int) (t : V) (H' : Hp), H' x = some (.ins CN dx (rf n m t)) → (∀ z H2, Ext H' H2 → H2 z = some (.tup [.str "told", t]) → Q (.ref z) H2) → R (.ref x) H') :
    ∀ x dx, H x = none → H dx = none → dx ≠ x → spRInit CN CZ CM CI [.ref x, v, u, t] (upd (upd H dx (.own x)) x (.ins CN dx [])) (fun w H2 => w = .non ∧ R (.ref x) H2) E := by
  intro x dx hx hdx ne
  have x0 : Ext H (upd (upd H dx (.own x)) x (.ins CN dx [])) := ext_new Ext.rfl' hx hdx
  refine ⟨x, dx, v, u, t, d, e, f, rfl, upd_same, hv.ext x0, hu.ext x0, ht.ext x0, fun c dd hdd => ?_, fun c c2 dd hdd => ?_, fun n m hd he c1 c2 c3 H' x1 dd hdd => ?_, fun n m hd he c1 c2 c3 H' x1 hx1 => ⟨rfl, ?_⟩⟩
  · exact hE CZ dd v "size" _ (.inl ⟨rfl, rfl⟩) upd_same fun z H2 x2 ez => k z H2 (x0.trans ((ext_upd hdd).trans x2)) ⟨_, _, _, ez, due_size c, .inl ⟨rfl, rfl⟩⟩
  · exact hE CM dd u "most" _ (.inr (.inl ⟨rfl, rfl⟩)) upd_same fun z H2 x2 ez => k z H2 (x0.trans ((ext_upd hdd).trans x2)) ⟨_, _, _, ez, due_most c c2, .inr (.inl ⟨rfl, rfl⟩)⟩
  · subst hd he
    exact hE CI dd t "items" _ (.inr (.inr ⟨rfl, rfl⟩)) upd_same fun z H2 x2 ez => k z H2 (x0.trans (x1.trans ((ext_upd hdd).trans x2))) ⟨_, _, _, ez, due_items c1 c2 c3, .inr (.inr ⟨rfl, rfl⟩)⟩
  · subst hd he
    have xx : Ext H H' := fun b o hb => x1 b o (fun z => by rw [z, hx] at hb; cases hb) (x0 b o hb)
    exact hR x dx n m t H' hx1 fun z H2 x2 ez => k z H2 (xx.trans x2) ⟨_, _, _, ez, due_told c1 c2 c3, .inr (.inr ⟨rfl, rfl⟩)⟩
theorem tellsT {CN CZ CM CI : Addr} {H : Hp} {v u t : V} {d e f : PyData} {Q : VK} {tl : XK → Hp → VK → Prop} (hv : Dq H v d) (hu : Dq H u e) (ht : Dq H t f)
    (htl : ∀ (E : XK) (R : VK), (∀ x dx, H x = none → H dx = none → dx ≠ x → spRInit CN CZ CM CI [.ref x, v, u, t] (upd (upd H dx (.own x)) x (.ins CN dx [])) (fun w H2 => w = .non ∧ R (.ref x) H2) E) → tl E H R)
    (k : ∀ z H', Ext H H' → Told H' z v u t d e f → Q (.ref z) H') : TTh CN CZ CM CI tl H Q := fun E R hE hR => htl E R (tells (Q := Q) hv hu ht k hE hR)
theorem due_sd {d e f : PyData} {k w : Nat} (hd : Sd k w d) (he : Sd k w e) (hf : Sd k w f) : Sd (k + 1) (w + 20) (dueD d e f) := by
  have sz : ∀ (x : Str) (g : PyData), Sd k w g → Sd 0 10 (.str x) → Sd (k + 1) (w + 20) (.tuple [.str x, g]) := fun x g hg hx =>
    (Sd.tup (SdA.cons (hx.mono (Nat.zero_le k) (Nat.le_refl 10)) (SdA.cons hg (SdA.nil (w := 0))))).mono (by omega) (by omega)
  have s0 : Sd 0 10 (.str "size") := ⟨by decide, by decide +kernel, by decide +kernel, by decide +kernel⟩
  have s1 : Sd 0 10 (.str "most") := ⟨by decide, by decide +kernel, by decide +kernel, by decide +kernel⟩
  have s2 : Sd 0 10 (.str "items") := ⟨by decide, by decide +kernel, by decide +kernel, by decide +kernel⟩
  have s3 : Sd 0 10 (.str "told") := ⟨by decide, by decide +kernel, by decide +kernel, by decide +kernel⟩
  unfold dueD
  split
  · split
    · split
      · exact sz _ _ hf s3
      · exact sz _ _ hf s2
    · exact sz _ _ he s1
  · exact sz _ _ hd s0
section
variable {P : Program} {w : World} {K : PySem.W.Frag} {mg : Str → Option Value} {base : Heap}
theorem kb_init (T : Tx P K mg) : KBn K T.fd_Row___init__ ["self", "size", "most", "items"] 1 ["items", "most", "size"] perm perm := by
  refine ⟨fun s us ws X l1 l2 => ?_, fun {vs us zs ws} r1 r2 => ?_⟩
  · obtain ⟨_, _, _, _, _, _, _, _, _, e, _⟩ := T.Row___init___ok.ex
    rw [e]
    match us, ws, l1, l2 with
    | [a], [b, c, d], _, _ => exact .of_eq rfl
  · match vs, us, r1, zs, ws, r2 with
    | [], _, .nil, _, _, _ => exact .nil
    | [a], _, .cons ra .nil, [], _, .nil => exact .nil
    | [a], _, .cons ra .nil, [b], _, .cons rb .nil => exact .nil
    | [a], _, .cons ra .nil, [b, c], _, .cons rb (.cons rc .nil) => exact .nil
    | [a], _, .cons ra .nil, [b, c, d], _, .cons rb (.cons rc (.cons rd .nil)) => exact .cons ra (.cons rd (.cons rc (.cons rb .nil)))
    | [a], _, .cons ra .nil, b :: c :: d :: e :: r, _, .cons rb (.cons rc (.cons rd (.cons re rr))) => exact .nil
    | a :: b :: r, _, .cons ra (.cons rb rr), _, _, _ => exact .nil
theorem val_int {G : Hp} {x : V} {xs : List Int} (h : x ∈ xs.map V.int) (hb : ∀ z ∈ xs, 0 ≤ z ∧ z < 10) : Val G 0 x := by
  obtain ⟨z, hz, rfl⟩ := List.mem_map.mp h
  exact ⟨_, .int _, (sd_int (hb z hz).1 (hb z hz).2).mono (by omega) (by omega)⟩
def spR (tP : Addr) : Sp := fun vs H Q _ => ∃ (p : Addr), vs = [.ref p] ∧ Pot H p 0 ∧ LamX.Tabs [(tP, qn)] H ∧ SmH H ∧ ∀ H', KeepB p H H' → LamX.Tabs [(tP, qn)] H' → Q (.bl true) H'
theorem ok__law_right (T : Tx P K mg) {cA tP : Addr} (hA : ∃ (oc : Value) (od : Option Addr) (kV dc pm : Value) (an : Option Addr) (ct : Value) (sl : Array (Option Value)), T.fd__law_right = PySem.W.fnOf "_law_right" "_law_right" (defArgs s__law_right) (defBody s__law_right) (defScope s__law_right) .none kV dc pm an (.ref cA) ct ∧ K.lookup T.F__law_right = some ⟨oc, od, .func T.fd__law_right, sl⟩ ∧ PySem.W.codeIn K (.ref cA) "_law_right" = true)
    (TB : LamX.TabB base mg cA tP) : FnG P w K mg base CX0 11 T.F__law_right T.fd__law_right ["_law_pot_here"] (spR tP) := by
  obtain ⟨oc, od, kV, dc, pm, an, ct, sl, efd, lk, hcd⟩ := hA
  rw [efd] at lk ⊢
  obtain ⟨och, odh, kVh, dch, pmh, anh, cdh, cth, slh, eh, lkh, hch⟩ := T._law_heard_ok.ex
  have bh := T.b__law_heard
  rw [eh] at lkh bh
  refine fnG_of lk hcd sc__law_right (fun vs H Q E h => ?_) fun A outer s H vs Q E gA hr h => ?_
  · obtain ⟨p, rfl, _⟩ := h
    rfl
  · obtain ⟨p, rfl, hp, hT, hS, q⟩ := h
    have nd := sc__law_right.nd
    suffices z : ∃ t, PSs (cxOf CX0 P w K mg base N__law_right "_law_right" (defScope s__law_right) T.F__law_right (.ref cA) A outer s H E).nox (defBody s__law_right) t ∧ t { nx := fun _ H' => Q .non H', rt := Q } (L2.start N__law_right [.ref p]) H by
      obtain ⟨t, ht, hq⟩ := z
      exact ⟨t, ht.nox, hq⟩
    have HG := heard_gives (X := (cxOf CX0 P w K mg base N__law_right "_law_right" (defScope s__law_right) T.F__law_right (.ref cA) A outer s H E).nox) T (cdg := cdh) (q := (cxOf CX0 P w K mg base N__law_right "_law_right" (defScope s__law_right) T.F__law_right (.ref cA) A outer s H E).nox.env.qual ++ "<lambda>") (hr.mono (by decide : 4 ≤ 10))
    refine ⟨_, (pss_cons (ps_for PassesOwn.never rfl (pi_range1 (by rfl) T.b_range (pa_cons pe_int pa_nil)) (pg_name (i := 1) nd rfl (Or.inl rfl)) (pss_cons (ps_asg (pe_tup (pa_cons (pe_call (ok__law_drawn T) (hr.mono (by decide)) rfl T._law_drawn_mg T._law_drawn_ok.kp T.b__law_drawn .nil pass0 (pa_cons (pv 0) (pa_cons (pe_lst (pa_cons pe_int (pa_cons pe_int (pa_cons pe_int (pa_cons pe_int pa_nil))))) pa_nil))) (pa_cons (pe_call (ok__law_drawn T) (hr.mono (by decide)) rfl T._law_drawn_mg T._law_drawn_ok.kp T.b__law_drawn .nil pass0 (pa_cons (pv 0) (pa_cons (pe_lst (pa_cons pe_int (pa_cons pe_int (pa_cons pe_int pa_nil)))) pa_nil))) pa_nil))) (pg_tup rfl (pgs_cons (pg_name (i := 7) nd rfl (Or.inr rfl)) (pgs_cons (pg_name (i := 6) nd rfl (Or.inr rfl)) pgs_nil)))) (Evl.pss_cut (ps_set (i := 8) nd rfl (Or.inr rfl) (pe_ifExp (pt_cmpR op_gt (pe_call (ok__law_take T) (hr.mono (by decide)) rfl T._law_take_mg T._law_take_ok.kp T.b__law_take .nil pass0 (pa_cons (pv 0) (pa_cons pe_int pa_nil))) pe_int (nomark _)) (pe_call (ok__law_items T) (hr.mono (by decide)) rfl T._law_items_mg T._law_items_ok.kp T.b__law_items .nil pass0 (pa_cons (pv 0) pa_nil)) (pe_call (ok__law_any T) (hr.mono (by decide)) rfl T._law_any_mg T._law_any_ok.kp T.b__law_any .nil pass0 (pa_cons (pv 0) pa_nil)))) (pss_cons (ps_par (i := 2) (j := 3) (by rfl) nd rfl rfl (by decide) rfl rfl (pa_cons (pe_callB (call_reprQ gA hr) (by rfl) T.b_repr (by decide +kernel) (pa_cons (pe_tup (pa_cons (pv 7) (pa_cons (pv 6) (pa_cons (pv 8) pa_nil)))) pa_nil)) (pa_cons (pe_callB (call_reprQ gA hr) (by rfl) T.b_repr (by decide +kernel) (pa_cons (pe_call (ok__law_due T) (hr.mono (by decide)) rfl T._law_due_mg T._law_due_ok.kp T.b__law_due .nil pass0 (pa_cons (pv 7) (pa_cons (pv 6) (pa_cons (pv 8) pa_nil)))) pa_nil)) pa_nil)) (by rfl)) (pss_cons (ps_set (i := 4) nd rfl (Or.inl rfl) (pe_lst (pa_cons (pe_lamS (T := [(tP, qn)]) (TT := TTh T.C_Row T.C_BadSize T.C_BadMost T.C_BadItems) (g := T.F__law_heard) (k := 7) rfl T._law_heard_mg T._law_heard_ok.kp lkh hch bh sc__law_heard rfl (Or.inl rfl) HG TB rfl (List.mem_singleton.mpr rfl) (fun p hp _ => (List.mem_singleton.mp hp) ▸ rfl) (hr.mono (by decide)) (LamX.lamS_by (by show LamX.lamSB (defScope s__law_right) _ = true; decide +kernel)) rfl (fun _ _ _ _ _ => rfl) (fun A outer s H E f c' hr2 => pe_make T.Row_mk (ok_Row__init__ T) (hr2.mono (by decide)) (by rfl) T.Row_mg T.b_Row___init__ .nil (passes_call (takes_of rfl rfl rfl rfl) (fun _ _ _ _ z => z)) (pa_cons (pv 7) (pa_cons (pv 6) (pa_cons (pv 8) pa_nil))))) pa_nil))) (pss_cons (ps_expr (pe_bm PySem.F.plainAttrs_list PySem.F.slot_list_append PySem.F.type_list_append mt_append (pv 4) (pa_cons (pe_lamS (T := [(tP, qn)]) (TT := TTh T.C_Row T.C_BadSize T.C_BadMost T.C_BadItems) (g := T.F__law_heard) (k := 7) rfl T._law_heard_mg T._law_heard_ok.kp lkh hch bh sc__law_heard rfl (Or.inl rfl) HG TB rfl (List.mem_singleton.mpr rfl) (fun p hp _ => (List.mem_singleton.mp hp) ▸ rfl) (hr.mono (by decide)) (LamX.lamS_by (by show LamX.lamSB (defScope s__law_right) _ = true; decide +kernel)) rfl (fun _ _ _ _ _ => rfl) (fun A outer s H E f c' hr2 => pe_makeK0 T.Row_mk (ok_Row__init__ T) (hr2.mono (by decide)) (by rfl) T.Row_mg (kb_init T) (passes_call (takes_of rfl rfl rfl rfl) (fun _ _ _ _ z => z)) (pk_cons (pv 8) (pk_cons (pv 6) (pk_cons (pv 7) pk_nil))))) pa_nil))) (pss_cons (ps_if (PW.pt (pw_or (pt_cmpR (op_neF hr.units0) (pe_lc (own := [("_law_one", 9)]) (g := gName 9) (by rfl) nd (pi_list (pv 4)) (blkOk_by (own := [("_law_one", 9)]) (N := N__law_right) (sc := defScope s__law_right) (by decide +kernel)) (fun _ _ _ _ _ => (pg_name (i := 9) nd rfl (Or.inl rfl))) (fun _ _ _ _ _ => pts_nil) (fun _ _ _ _ _ => (pe_callB (call_reprQ gA hr) (by rfl) T.b_repr (by decide +kernel) (pa_cons (pv 9) pa_nil)))) (pe_lst (pa_cons (pv 3) (pa_cons (pv 3) pa_nil))) (nomark _)) (pw_or1 (pt_cmpR op_ne (pe_callB (call_reprQ gA hr) (by rfl) T.b_repr (by decide +kernel) (pa_cons (pe_tup (pa_cons (pv 7) (pa_cons (pv 6) (pa_cons (pv 8) pa_nil)))) pa_nil)) (pv 2) (nomark _))))) (pss_one (ps_ret pe_bl)) pss_nil) (pss_cons (ps_set (i := 5) nd rfl (Or.inl rfl) (pe_errP T.Fault_ep (by decide) rfl hr (pa_cons (pv 8) pa_nil))) (pss_one (ps_if (PW.pt (pw_or (pt_cmpR op_ne (pe_callB (call_reprQ gA hr) (by rfl) T.b_repr (by decide +kernel) (pa_cons (pe_lst (pa_cons (pe_xfV (pv 5)) (pa_cons (pe_xfV (pe_errK T.Fault_ew rfl hr (pk_cons (pv 6) pk_nil))) pa_nil))) pa_nil)) (pe_callB (call_reprQ gA hr) (by rfl) T.b_repr (by decide +kernel) (pa_cons (pe_lst (pa_cons (pv 8) (pa_cons (pv 6) pa_nil))) pa_nil)) (nomark _)) (pw_or1 (pt_not (pt_val (pe_callB call_isV (by rfl) T.b_isinstance (by decide +kernel) (pa_cons (pv 5) (pa_cons (pe_glob (v := .ref T.C_TapeError) rfl T.TapeError_mg rfl) pa_nil)))))))) (pss_one (ps_ret pe_bl)) pss_nil)))))))))) (pss_one (ps_ret pe_bl))), ?_⟩
    refine ⟨20, rfl, by decide, by decide, ?_⟩
    refine for_range (n := 20) (lo := 0) (fun i σ H' => ∃ (v1 v2 v3 v4 v5 v6 v7 v8 : Option V), σ = [some (.ref p), v1, v2, v3, v4, v5, v6, v7, v8, none] ∧ Pot H' p (50 * i) ∧ LamX.Tabs [(tP, qn)] H' ∧ SmH H' ∧ KeepB p H H') ⟨_, _, _, _, _, _, _, _, rfl, hp, hT, hS, .refl⟩ ?_ ?_
    · rintro i σ H' hi ⟨v1, v2, v3, v4, v5, v6, v7, v8, rfl, hp', hT', hS', kp⟩
      have w0 : WP (butP H' p) p (50 * i) H' := ⟨butP_ext, if_pos rfl, hp'⟩
      refine ⟨_, rfl, by show 4 ≤ sizeLine; decide, fun l1 hl1 => ?_⟩
      obtain ⟨G1, x1, f1, w1⟩ := w0.newG (.lst [.int 2, .int 3, .int 4, .int 4]) hl1
      refine ⟨_, p, l1, _, _, rfl, w1, by omega, SqL.of f1, (by show 0 < 4; decide), (by show 4 ≤ 1000; decide), fun x hx => val_int (xs := [2, 3, 4, 4]) hx (by decide), fun v G2 H2 x2 w2 hv => ?_⟩
      refine ⟨_, rfl, by show 3 ≤ sizeLine; decide, fun l2 hl2 => ?_⟩
      obtain ⟨G3, x3, f3, w3⟩ := w2.newG (.lst [.int 1, .int 2, .int 2]) hl2
      refine ⟨_, p, l2, _, _, rfl, w3, by omega, SqL.of f3, (by show 0 < 3; decide), (by show 3 ≤ 1000; decide), fun x hx => val_int (xs := [1, 2, 2]) hx (by decide), fun u G4 H4 x4 w4 hu => ?_⟩
      refine ⟨by show 2 ≤ sizeLine; decide, fun tt htt => ?_⟩
      obtain ⟨G5, x5, f5, w5⟩ := w4.newG (.tup [v, u]) htt
      refine ⟨tt, _, rfl, SqT.of (w5.ext _ _ f5), rfl, _, _, rfl, _, _, rfl, rfl, ?_⟩
      have x05 := x1.trans (x2.trans (x3.trans (x4.trans x5)))
      have hv := hv.ext (x3.trans (x4.trans x5))
      have hu := hu.ext x5
      clear f5 f3 f1 w1 w2 w3 w4
      generalize upd H4 tt (.tup [v, u]) = H5 at w5 ⊢
      refine ⟨fun σ' H6 => ∃ (v1 : Option V) (G6 : Hp) (t : V), σ' = [some (.ref p), v1, v2, v3, v4, v5, some u, some v, some t, none] ∧ Ext G5 G6 ∧ WP G6 p (50 * i + 47) H6 ∧ Val G6 12 t, ?_, ?_⟩
      · refine ⟨_, rfl, _, p, _, 6, rfl, w5, by omega, by decide, by decide, fun r H6 r0 r1 w6 => ?_⟩
        refine ⟨_, _, rfl, rfl, _, rfl, ?_⟩
        refine ite2 (fun _ => ?_) (fun _ => ?_)
        · exact ⟨_, rfl, _, p, _, rfl, w6, by omega, fun t G7 H7 x7 w7 ht => ⟨_, G7, t, rfl, x7, w7.mono (by omega), ht⟩⟩
        · exact ⟨_, rfl, _, p, _, rfl, w6, by omega, fun t G7 H7 x7 w7 ht => ⟨_, G7, t, rfl, x7, w7.mono (by omega), ht⟩⟩
      rintro σ' H2 ⟨v1', G2, t, rfl, x6, w2, ht⟩
      obtain ⟨d, hd, sd⟩ := hv.ext x6
      obtain ⟨e, he, se⟩ := hu.ext x6
      obtain ⟨f, hf, sf⟩ := ht
      have x06 := x05.trans x6
      have pl : ∃ x y z, H' p = some (.lst [x, y, z]) := by
        obtain ⟨a, b, c, q, _⟩ := hp'.at_
        exact ⟨_, _, _, q⟩
      have T3 := Tabs.ofW hT' pl x06 w2
      have K3 : KeepB p H' H2 := .ofW x06 w2
      have S3 : SmH H2 := by
        obtain ⟨o, eo⟩ := hS'
        obtain ⟨x, y, z, ep⟩ := pl
        exact ⟨o, K3 _ _ (fun c => by rw [c, ep] at eo; cases eo) eo (fun _ z => by cases z)⟩
      have hd3 := hd.ext w2.ext
      have he3 := he.ext w2.ext
      have hf3 := hf.ext w2.ext
      have P3 := w2.pot
      clear w2 w5 hd he hf x06 x05 x6 x5 x4 x3 x2 x1 w0
      clear htt hl1 hl2
      refine ⟨_, rfl, _, rfl, _, rfl, by show 3 ≤ sizeLine; decide, fun t2 ht2 => ?_⟩
      have xt2 := ext_upd (o := HO.tup [v, u, t]) ht2
      have s2 : Sd 15 800 (.tuple [d, e, f]) := (Sd.tup (SdA.cons sd (SdA.cons se (SdA.cons sf (SdA.nil (w := 0)))))).mono (by decide) (by decide)
      refine ⟨_, .tuple [d, e, f], rfl, S3.ext xt2, .tup upd_same (.cons (hd3.ext xt2) (.cons (he3.ext xt2) (.cons (hf3.ext xt2) .nil))), s2.shw, s2.d40, s2.len, ?_⟩
      refine ⟨_, rfl, _, rfl, _, rfl, v, u, t, d, e, f, rfl, hd3.ext xt2, he3.ext xt2, hf3.ext xt2, fun z H5 x5 dz => ?_⟩
      have s5 := due_sd sd se sf
      refine ⟨z, _, rfl, (S3.ext xt2).ext x5, dz, s5.shw, s5.d40, s5.len, _, _, rfl, ?_⟩
      have x35 := xt2.trans x5
      refine ⟨T3.ext x35, fun H6 e6 T6 => ?_⟩
      have n36 : LamX.ExtN H2 H6 := fun b o hb nt => e6 _ _ (x35 _ _ hb) nt
      refine tellsT (hd3.extN n36) (he3.extN n36) (hf3.extN n36) (fun E R h => ⟨_, rfl, _, rfl, _, rfl, h⟩) (fun z1 H7 x7 t7 => ?_)
      refine ⟨by show 1 ≤ sizeLine; decide, fun l hl => ?_⟩
      have xl := ext_upd (o := HO.lst [.ref z1]) hl
      have el : upd H7 l (.lst [.ref z1]) l = some (.lst [.ref z1]) := upd_same
      refine ⟨_, rfl, .inl ⟨rfl, _, SqL.of el⟩, (T6.ext x7).ext xl, fun H9 e9 T9 => ?_⟩
      have n79 : LamX.ExtN H7 H9 := fun b o hb nt => e9 _ _ (xl _ _ hb) nt
      have n39 : LamX.ExtN H2 H9 := fun b o hb nt => n79 _ _ (x7 _ _ (n36 _ _ hb nt)) nt
      have el9 := e9 _ _ el (fun _ z => by cases z)
      refine tellsT (hd3.extN n39) (he3.extN n39) (hf3.extN n39) (fun E R h => ⟨_, rfl, _, rfl, _, rfl, rfl, rfl, h⟩) (fun z2 H10 x10 t10 => ?_)
      have el10 := x10 _ _ el9
      refine ⟨l, _, _, rfl, rfl, el10, (by show 1 < sizeLine; decide), ?_⟩
      have ne : ∀ {b : Addr} {o : HO}, H7 b = some o → b ≠ l := fun hb => ne_of_none hb hl
      have n7 : LamX.ExtN H7 (upd H10 l (.lst ([V.ref z1] ++ [V.ref z2]))) := fun b o hb nt => by
        rw [upd_ne (ne hb)]
        exact x10 _ _ (n79 _ _ hb nt)
      have n3 : LamX.ExtN H2 (upd H10 l (.lst ([V.ref z1] ++ [V.ref z2]))) := fun b o hb nt => n7 _ _ (x7 _ _ (n36 _ _ hb nt)) nt
      have T11 : LamX.Tabs [(tP, qn)] (upd H10 l (.lst ([V.ref z1] ++ [V.ref z2]))) := tabs_put (T9.ext x10) el10
      have t1 := t7.extN n7
      have t2' := t10.put (o := .lst ([V.ref z1] ++ [V.ref z2])) el10
      have el11 : upd H10 l (.lst ([V.ref z1] ++ [V.ref z2])) l = some (.lst ([V.ref z1] ++ [V.ref z2])) := upd_same
      generalize upd H10 l (.lst ([V.ref z1] ++ [V.ref z2])) = H11 at n3 T11 t1 t2' el11 ⊢
      have hd11 := hd3.extN n3
      have he11 := he3.extN n3
      have hf11 := hf3.extN n3
      have S11 := S3.extN n3
      have q1 := t1.dq hd11 he11 hf11
      have q2 := t2'.dq hd11 he11 hf11
      refine ⟨_, rfl, l, rfl, ⟨_, SqL.of el11⟩, fun D hD => ?_⟩
      refine lc_list (K := K) (a := l) (xs := [.ref z1, .ref z2]) (fun j H'' => Ext H11 H'' ∧ H'' D = some (.lst (List.replicate j (.str (dueD d e f).shown)))) ⟨ext_upd hD, upd_same⟩ (fun j H'' _ h => SqL.of (h.1 _ _ el11)) (fun j y H'' hy h => ?_) (fun H12 h => ?_)
      · have hq : Dq H11 y (dueD d e f) ∧ j < 2 := by
          match j, hy with
          | 0, hy => cases hy; exact ⟨q1, by decide⟩
          | 1, hy => cases hy; exact ⟨q2, by decide⟩
          | m + 2, hy => simp at hy
        refine ⟨rfl, ?_⟩
        refine ⟨_, rfl, _, _, rfl, S11.ext h.1, hq.1.ext h.1, s5.shw, s5.d40, s5.len, ?_⟩
        refine ⟨_, h.2, by rw [List.length_replicate]; exact Nat.lt_trans hq.2 (by decide), ?_⟩
        refine ⟨ext_over h.1 hD, ?_⟩
        rw [upd_same, List.replicate_succ']
      · refine ⟨_, rfl, _, rfl, by show 2 ≤ sizeLine; decide, fun l5 hl5 => ?_⟩
        have x12 := ext_upd (o := HO.lst [.str (dueD d e f).shown, .str (dueD d e f).shown]) hl5
        refine ⟨D, l5, [.str (dueD d e f).shown, .str (dueD d e f).shown], rfl, rfl, SqL.of (x12 _ _ h.2), SqL.of upd_same, rfl, _, rfl, iteF ?_⟩
        refine ⟨_, rfl, _, rfl, _, rfl, by show 3 ≤ sizeLine; decide, fun t6 ht6 => ?_⟩
        have x13 := h.1.trans (x12.trans (ext_upd (o := HO.tup [v, u, t]) ht6))
        refine ⟨_, .tuple [d, e, f], rfl, S11.ext x13, .tup upd_same (.cons (hd11.ext x13) (.cons (he11.ext x13) (.cons (hf11.ext x13) .nil))), s2.shw, s2.d40, s2.len, _, rfl, rfl, _, rfl, ?_⟩
        refine (if_neg (show ¬ (!decide (V.str _ = V.str _)) = true by rw [str_eq]; decide)).mpr ?_
        revert x13
        generalize upd (upd H12 l5 _) t6 _ = H13
        intro x13
        refine ⟨_, rfl, rfl, rfl, fun a1 d1 na1 nd1 ne1 => ?_⟩
        have y1 := (ext_upd (o := HO.xd [("words", t), ("what", .non)]) nd1)
        have na1' : upd H13 d1 (.xd [("words", t), ("what", .non)]) a1 = none := by rw [upd_ne ne1]; exact na1
        have y2 := ext_upd (o := ExV (.ref T.C_Fault) (some d1) a1) na1'
        have g1 := y2 _ _ (upd_same (H := H13) (a := d1) (o := HO.xd [("words", t), ("what", .non)]))
        have g2 : upd (upd H13 d1 (.xd [("words", t), ("what", .non)])) a1 (ExV (.ref T.C_Fault) (some d1) a1) a1 = some (ExV (.ref T.C_Fault) (some d1) a1) := upd_same
        have x14 := x13.trans (y1.trans y2)
        refine ⟨_, rfl, a1, T.C_Fault, d1, _, t, rfl, g2, g1, T.Fault_xf, T.Fault_no0, rfl, ?_⟩
        refine ⟨_, rfl, rfl, rfl, fun a2 d2 na2 nd2 ne2 => ?_⟩
        have z1 := (ext_upd (o := HO.xd [("words", u), ("what", .non)]) nd2)
        have na2' := (upd_ne (H := _) (o := HO.xd [("words", u), ("what", .non)]) ne2).trans na2
        have z2 := ext_upd (o := ExV (.ref T.C_Fault) (some d2) a2) na2'
        have g3 := z2 _ _ (upd_same (H := upd (upd H13 d1 (.xd [("words", t), ("what", .non)])) a1 (ExV (.ref T.C_Fault) (some d1) a1)) (a := d2) (o := HO.xd [("words", u), ("what", .non)]))
        refine ⟨a2, T.C_Fault, d2, _, u, rfl, upd_same, g3, T.Fault_xf, T.Fault_no0, rfl, by show 2 ≤ sizeLine; decide, fun l6 hl6 => ?_⟩
        have x15 := z1.trans (z2.trans (ext_upd (o := HO.lst [t, u]) hl6))
        have s7 : Sd 15 800 (.list [f, e]) := (Sd.lst (SdA.cons sf (SdA.cons se (SdA.nil (w := 0))))).mono (by decide) (by decide)
        have x115 := x14.trans x15
        refine ⟨_, .list [f, e], rfl, S11.ext x115, .lst upd_same (.cons (hf11.ext x115) (.cons (he11.ext x115) .nil)), s7.shw, s7.d40, s7.len, ?_⟩
        refine ⟨_, rfl, _, rfl, by show 2 ≤ sizeLine; decide, fun l7 hl7 => ?_⟩
        have x16 := x15.trans (ext_upd (o := HO.lst [t, u]) hl7)
        have x116 := x14.trans x16
        refine ⟨_, .list [f, e], rfl, S11.ext x116, .lst upd_same (.cons (hf11.ext x116) (.cons (he11.ext x116) .nil)), s7.shw, s7.d40, s7.len, rfl, _, rfl, ?_⟩
        refine (if_neg (show ¬ (!decide (V.str _ = V.str _)) = true by rw [str_eq]; decide)).mpr ?_
        refine ⟨_, rfl, a1, T.C_Fault, d1, _, _, _, true, rfl, .own _, x16 _ _ g2, x16 _ _ g1, exc_f (X := (cxOf CX0 P w K mg base N__law_right "_law_right" (defScope s__law_right) T.F__law_right (.ref cA) A outer s H E).nox) T, kit_ref ⟨cls_some T.x_td, T.x_tt⟩ T.x_tFault (fun _ => rfl), _, rfl, iteF ?_⟩
        have nz : LamX.ExtN H2 _ := LamX.ExtN.trans n3 (LamX.ExtN.of x116)
        obtain ⟨pa, pb, pc, pe, pr⟩ := (P3.extN nz).at_
        exact ⟨_, _, _, _, _, _, _, _, rfl, ⟨pa, pb, pc, pe, pr.1, pr.2.1, pr.2.2.1, pr.2.2.2.1, by have := pr.2.2.2.2; omega⟩, T11.ext x116, S11.ext x116, kp.trans (K3.trans (.ofN nz))⟩
    · rintro σ H' ⟨v1, v2, v3, v4, v5, v6, v7, v8, rfl, hp', hT', hS', kp⟩
      exact q H' kp hT'
end
end K03

namespace K03
open PySem PySem.Spec PyProof.Rows L2 L2.TP
section
variable {P : Program} {w : World} {K : PySem.W.Frag} {mg : Str → Option Value} {base : Heap}
def spLaw (K : PySem.W.Frag) (tP : Addr) : Sp := fun vs H Q _ => ∃ (a : Addr) (ns : List Int), vs = [.ref a] ∧ SqL K H a (ns.map V.int) ∧ ns.length ≤ 10000 ∧ LamX.Tabs [(tP, qn)] H ∧ SmH H ∧ ∀ H', Q (.bl true) H'
theorem ok_law (T : Tx P K mg) {cA tP : Addr} (hA : ∃ (oc : Value) (od : Option Addr) (kV dc pm : Value) (an : Option Addr) (ct : Value) (sl : Array (Option Value)), T.fd__law_right = PySem.W.fnOf "_law_right" "_law_right" (defArgs s__law_right) (defBody s__law_right) (defScope s__law_right) .none kV dc pm an (.ref cA) ct ∧ K.lookup T.F__law_right = some ⟨oc, od, .func T.fd__law_right, sl⟩ ∧ PySem.W.codeIn K (.ref cA) "_law_right" = true)
    (TB : LamX.TabB base mg cA tP) : FnG P w K mg base CX0 12 T.F_law T.fd_law ["_law_script"] (spLaw K tP) := by
  refine okG T.law_ok sc_law (fun vs H Q E h => ?_) (fun cdv A outer s H vs Q E gA hr h => ?_)
  · obtain ⟨a, ns, rfl, _⟩ := h
    rfl
  · obtain ⟨a, ns, rfl, hS, hl, hT, hM, k⟩ := h
    have nd := sc_law.nd
    refine ⟨_, (pss_one (ps_ret (pe_callB (cr_all rfl) (by rfl) T.b_all (by decide +kernel) (pa_cons (pe_lc (own := [("_law_k", 1)]) (g := gName 1) (by rfl) nd (pi_range1 (by rfl) T.b_range (pa_cons (pe_op op_add (pe_op op_add pe_int (pe_callTy call_int1 (by rfl) T.b_int (by decide +kernel) (pa_cons (pe_cmpR op_gt (pe_callB call_len_seq (by rfl) T.b_len (by decide +kernel) (pa_cons (pv 0) pa_nil)) pe_int (nomark _)) pa_nil))) (pe_callTy call_int1 (by rfl) T.b_int (by decide +kernel) (pa_cons (pe_cmpR op_gt (pe_callB call_len_seq (by rfl) T.b_len (by decide +kernel) (pa_cons (pv 0) pa_nil)) pe_int (nomark _)) pa_nil))) pa_nil)) (blkOk_by (own := [("_law_k", 1)]) (N := N_law) (sc := defScope s_law) (by decide +kernel)) (fun _ _ _ _ _ => (pg_name (i := 1) nd rfl (Or.inl rfl))) (fun _ _ _ _ _ => pts_nil) (fun _ _ _ _ _ => (pe_callG (ok__law_right T hA TB) gA (hr.mono (by decide)) rfl T._law_right_mg T._law_right_ok.kp T.b__law_right .nil pass0 (pa_cons (pe_call (ok__law_pot T) (hr.mono (by decide)) rfl T._law_pot_mg T._law_pot_ok.kp T.b__law_pot .nil pass0 (pa_cons (pv 0) (pa_cons (pv 1) pa_nil))) pa_nil)))) pa_nil)))), ?_⟩
    refine ⟨_, rfl, a, _, rfl, .inl hS, _, _, rfl, rfl, .inr ⟨_, rfl, _, _, rfl, rfl, _, rfl, a, _, rfl, .inl hS, _, _, rfl, rfl, .inr ⟨_, rfl, _, _, rfl, rfl, ?_⟩⟩⟩
    obtain ⟨j, hj⟩ : ∃ j : Int, 1 + (if decide (1 < ((ns.map V.int).length : Int)) = true then (1 : Int) else 0) + (if decide (2 < ((ns.map V.int).length : Int)) = true then (1 : Int) else 0) = j := ⟨_, rfl⟩
    have j0 : 0 ≤ j ∧ j ≤ 3 := by
      rw [← hj]
      constructor <;> (split <;> split <;> omega)
    refine ⟨j, by rw [← hj], by omega, by omega, fun D hD => ?_⟩
    have aD : ∀ o, H a = some o → a ≠ D := fun o e => ne_of_none e hD
    refine lc_range (n := j.toNat) (lo := 0) (fun i H'' => H'' D = some (.lst (List.replicate i (.bl true))) ∧ (∀ o, H a = some o → (∀ ps, o ≠ .tbl ps) → H'' a = some o) ∧ LamX.Tabs [(tP, qn)] H'' ∧ SmH H'')
      ⟨upd_same, fun o e _ => (upd_ne (aD o e)).trans e, hT.ext (ext_upd hD), hM.ext (ext_upd hD)⟩ (fun i H'' hi h => ?_) (fun H'' h => ?_)
    · obtain ⟨h1, h2, h3, h4⟩ := h
      refine ⟨rfl, ?_⟩
      refine ⟨_, rfl, _, rfl, a, ns, 0 + i, rfl, sq_keep hS h2, by omega, by omega, fun p x y hp x0 y0 y1 => ?_⟩
      have xp := ext_upd (o := HO.lst [.int x, .int y, .int 0]) hp
      refine ⟨p, rfl, ⟨x, y, 0, upd_same, x0, y0, y1, by decide, by decide⟩, h3.ext xp, h4.ext xp, fun H4 k4 T4 => ?_⟩
      have kD : H4 D = some (.lst (List.replicate i (.bl true))) := k4 _ _ (ne_of_none h1 hp) (xp _ _ h1) (fun _ z => by cases z)
      refine ⟨_, kD, by rw [List.length_replicate]; exact Nat.lt_trans (by omega : i < 4) (by decide), ?_⟩
      refine ⟨by rw [upd_same, List.replicate_succ'], fun o e nt => ?_, tabs_put T4 kD, ?_⟩
      · have e2 := h2 o e nt
        rw [upd_ne (aD o e)]
        exact k4 _ _ (ne_of_none e2 hp) (xp _ _ e2) nt
      · refine sm_put ?_ kD
        obtain ⟨oS, eS⟩ := h4
        exact ⟨oS, k4 _ _ (ne_of_none eS hp) (xp _ _ eS) (fun _ z => by cases z)⟩
    · refine ⟨D, List.replicate j.toNat true, rfl, (List.map_replicate).symm ▸ SqL.of h.1, ?_⟩
      rw [show (List.replicate j.toNat true).all id = true by simp]
      exact k _
end
theorem walk1 {l : PySem.W.OpenLaw} {n : Nat} {q : Program} {loose : List Str} {XP : (Str → Option Value) → Heap → Prop} {YP : World → Heap → Prop} {d : DefRec} {K : Params → PySem.W.Frag}
    (hn : l.most = some n) (hn2 : n ≤ 10000) (hdf : d.params.defaults = []) (hr : Room 12 callerA) (hdn : d.name = "law") (hY : ∀ (w : World) (h : Heap), YP w h → (K w.params).In h) (hm : ∀ w : World, (K w.params).lookup sysModules = none) (hi : importsNone q = true)
    (hrec : ((recsOf q).any fun e => e.name == ("_law_right" : Str)) = true)
    (F : ∀ (w : World) (mg : Str → Option Value) (fa : Addr) (h : Heap), (K w.params).In h → h.Ns mainGlobals mg → mg d.name = some (.ref fa) → Nonempty (Tx l.prog (K w.params) mg)) :
    PySem.W.WalkO q loose XP YP l.row.toRowW d [] (fun f vs => PySem.call f vs) := by
  refine walkL (k := 12) (CX := CX0) (x := "_law_script") hn (Nat.le_trans hn2 (by decide)) hdf hr hY hm hi (fun w mg fa h tab KX G hmg => ?_) (fun _ _ _ _ z => z)
  obtain ⟨T⟩ := F w mg fa h KX G hmg
  rw [hdn] at hmg
  have e := T.law_mg
  rw [hmg] at e
  injection e with e
  injection e with e
  subst e
  obtain ⟨dr, hdr, en⟩ := List.any_eq_true.mp hrec
  have en : dr.name = "_law_right" := beq_iff_eq.mp en
  obtain ⟨a, o, fd, c, tP, e1, e2, e3, e4, ic, ta⟩ := tab dr hdr
  rw [en, T._law_right_mg] at e1
  injection e1 with e1
  injection e1 with e1
  subst e1
  obtain ⟨cA, hA, nt⟩ := T.x_rflA
  have hc : c = cA := by
    obtain ⟨oc, od, kV, dc, pm, an, ct, sl, f1, f2, f3⟩ := hA
    have z := KX _ _ f2
    rw [e2] at z
    cases z
    injection e3 with e3
    rw [← e3, f1] at e4
    injection e4 with e4
    exact e4.symm
  subst hc
  refine ⟨T.fd_law, [(c, tP)], spLaw (K w.params) tP, fun p hp => ?_, fun p hp => ?_, fun p hp => ?_, fun s u => ?_, fun H oS a ns hl ht hs hS => ?_, fun base _ _ TB => ok_law T hA (TB _ (List.mem_singleton.mpr rfl))⟩
  · rw [List.mem_singleton.mp hp]
    exact ta.2
  · rw [List.mem_singleton.mp hp]
    exact noTab_of KX nt ta
  · rw [List.mem_singleton.mp hp]
    exact PySem.W.CodeHd.of ic ta
  · obtain ⟨_, _, _, _, _, _, _, _, _, e, _⟩ := T.law_ok.ex
    rw [e]
    exact .of_eq rfl
  · refine ⟨a, ns, rfl, hS, Nat.le_trans hl hn2, fun p hp => ?_, ⟨oS, hs⟩, fun _ => rfl⟩
    rw [List.mem_singleton.mp hp]
    exact LamX.TabS.nil (ht _ (List.mem_singleton.mpr rfl))
end K03

namespace K03
open PySem PySem.W PyProof.Rows
set_option maxRecDepth 100000 in
set_option maxHeartbeats 0 in
open_top hd for PySem.Challenge.rw_tapedonce_k03_what_makes_no_row_and_faul
end K03

open PySem PySem.W PyProof.Rows in
set_option maxRecDepth 100000 in
set_option maxHeartbeats 0 in
theorem PySem.Challenge.cw_tapedonce_k03_what_makes_no_row_and_faul_holds : PySem.Challenge.rw_tapedonce_k03_what_makes_no_row_and_faul.Holds :=
  K03.hd (by
  k_fill
  refine K03.walk1 (l := PySem.Challenge.rw_tapedonce_k03_what_makes_no_row_and_faul) rfl (by decide) rfl ⟨by decide, by decide, by decide⟩ rfl (fun w h Y => PySem.W.km_in_of Y) ?M (by kernel_rfl) (by kernel_rfl) ?F
  case M =>
    intro w
    kernel_rfl
  case F =>
    intro w mg fa h KX G hmg
    clear hmg
    constructor
    refine' K03.tx_mk KX G ⟨rfl, trivial⟩ ?a_Row ?a_BadSize ?a_BadMost ?a_BadItems ?a_Fault ?a_TapeError ?pg_Row ?hd_Row ?po_Row ?sa_Row ?kc_Row ?tc_Row ?mk_Row ?g_is_integer ?l_is_integer ?c_is_integer ?k_is_integer ?g_is_from ?l_is_from ?c_is_from ?k_is_from ?g_are_items ?l_are_items ?c_are_items ?k_are_items ?g_Row___init__ ?i_Row___init__ ?l_Row___init__ ?c_Row___init__ ?k_Row___init__ ?g_Row_worths ?gg_Row_worths ?gt_Row_worths ?gr_Row_worths ?l_Row_worths ?c_Row_worths ?k_Row_worths ?g__law_pot ?l__law_pot ?c__law_pot ?k__law_pot ?g__law_take ?l__law_take ?c__law_take ?k__law_take ?g__law_of ?l__law_of ?c__law_of ?k__law_of ?g__law_any ?l__law_any ?c__law_any ?k__law_any ?g__law_drawn ?l__law_drawn ?c__law_drawn ?k__law_drawn ?g__law_items ?l__law_items ?c__law_items ?k__law_items ?g__law_is_from ?l__law_is_from ?c__law_is_from ?k__law_is_from ?g__law_due ?l__law_due ?c__law_due ?k__law_due ?g__law_heard ?l__law_heard ?c__law_heard ?k__law_heard ?g__law_right ?l__law_right ?c__law_right ?k__law_right ?g_law ?l_law ?c_law ?k_law ?e1_BadSize ?e2_BadSize ?e3_BadSize ?e4_BadSize ?e5_BadSize ?e6_BadSize ?e7_BadSize ?e8_BadSize ?ef0_BadSize ?e9_BadSize ?ea_BadSize ?eb_BadSize ?ec_BadSize ?ed_BadSize ?ee_BadSize ?ek_BadSize ?ex_BadSize ?et_BadSize ?eh_BadSize ?eg_BadSize ?ei_BadSize ?e1_BadMost ?e2_BadMost ?e3_BadMost ?e4_BadMost ?e5_BadMost ?e6_BadMost ?e7_BadMost ?e8_BadMost ?ef0_BadMost ?e9_BadMost ?ea_BadMost ?eb_BadMost ?ec_BadMost ?ed_BadMost ?ee_BadMost ?ek_BadMost ?ex_BadMost ?et_BadMost ?eh_BadMost ?eg_BadMost ?ei_BadMost ?e1_BadItems ?e2_BadItems ?e3_BadItems ?e4_BadItems ?e5_BadItems ?e6_BadItems ?e7_BadItems ?e8_BadItems ?ef0_BadItems ?e9_BadItems ?ea_BadItems ?eb_BadItems ?ec_BadItems ?ed_BadItems ?ee_BadItems ?ek_BadItems ?ex_BadItems ?et_BadItems ?eh_BadItems ?eg_BadItems ?ei_BadItems ?e1_Fault ?e2_Fault ?e3_Fault ?e4_Fault ?e5_Fault ?e6_Fault ?e7_Fault ?e8_Fault ?ef0_Fault ?ef1_Fault ?e9_Fault ?ea_Fault ?eb_Fault ?ec_Fault ?ed_Fault ?ee_Fault ?ek_Fault ?ex_Fault ?et_Fault ?eh_Fault ?eg_Fault ?ei_Fault ?dV1_Fault ?dV2_Fault ?dV3_Fault ?dV4_Fault ?z_super ?z_tp ?z_int ?z_bool ?z_abs ?z_len ?z_isinstance ?z_repr ?z_all ?z_range ?z_tuple ?z_list ?z_ValueError ?q_LEAST_SIZE ?q_MOST_SIZE ?q_LEAST_MOST ?q_GREATEST_MOST ?x_cg ?x_ct ?x_rcc ?x_rcm ?x_eBadSizecc ?x_eBadSizecm ?x_eBadMostcc ?x_eBadMostcm ?x_eBadItemscc ?x_eBadItemscm ?x_eFaultcc ?x_eFaultcm ?x_r3 ?x_n_size ?x_n_most ?x_n_worths ?x_n_counter ?x_n_name ?x_te ?x_td ?x_tt ?x_tBadSize ?x_dBadSize ?x_yBadSize ?x_vBadBadSize ?x_kBadSizeBadSize ?x_kBadSizeBadMost ?x_kBadSizeBadItems ?x_tBadMost ?x_dBadMost ?x_yBadMost ?x_vBadBadMost ?x_kBadMostBadSize ?x_kBadMostBadMost ?x_kBadMostBadItems ?x_tBadItems ?x_dBadItems ?x_yBadItems ?x_vBadBadItems ?x_kBadItemsBadSize ?x_kBadItemsBadMost ?x_kBadItemsBadItems ?x_tFault ?x_dFault ?x_yFault ?x_rflA ?x_kerT
    (case a_Row => k_is)
    (case a_BadSize => k_is)
    (case a_BadMost => k_is)
    (case a_BadItems => k_is)
    (case a_Fault => k_is)
    (case a_TapeError => k_is)
    (case pg_Row => k_is)
    (case hd_Row => k_is)
    (case po_Row => k_is)
    (case sa_Row => k_is)
    (case kc_Row => k_is)
    (case tc_Row => k_is)
    (case mk_Row => k_is)
    (case g_is_integer => k_is)
    (case l_is_integer => k_is)
    (case c_is_integer => k_is)
    (case k_is_integer => k_is)
    (case g_is_from => k_is)
    (case l_is_from => k_is)
    (case c_is_from => k_is)
    (case k_is_from => k_is)
    (case g_are_items => k_is)
    (case l_are_items => k_is)
    (case c_are_items => k_is)
    (case k_are_items => k_is)
    (case g_Row___init__ => k_is)
    (case i_Row___init__ => k_is)
    (case l_Row___init__ => k_is)
    (case c_Row___init__ => k_is)
    (case k_Row___init__ => k_is)
    (case g_Row_worths => k_is)
    (case gg_Row_worths => k_is)
    (case gt_Row_worths => k_is)
    (case gr_Row_worths => k_is)
    (case l_Row_worths => k_is)
    (case c_Row_worths => k_is)
    (case k_Row_worths => k_is)
    (case g__law_pot => k_is)
    (case l__law_pot => k_is)
    (case c__law_pot => k_is)
    (case k__law_pot => k_is)
    (case g__law_take => k_is)
    (case l__law_take => k_is)
    (case c__law_take => k_is)
    (case k__law_take => k_is)
    (case g__law_of => k_is)
    (case l__law_of => k_is)
    (case c__law_of => k_is)
    (case k__law_of => k_is)
    (case g__law_any => k_is)
    (case l__law_any => k_is)
    (case c__law_any => k_is)
    (case k__law_any => k_is)
    (case g__law_drawn => k_is)
    (case l__law_drawn => k_is)
    (case c__law_drawn => k_is)
    (case k__law_drawn => k_is)
    (case g__law_items => k_is)
    (case l__law_items => k_is)
    (case c__law_items => k_is)
    (case k__law_items => k_is)
    (case g__law_is_from => k_is)
    (case l__law_is_from => k_is)
    (case c__law_is_from => k_is)
    (case k__law_is_from => k_is)
    (case g__law_due => k_is)
    (case l__law_due => k_is)
    (case c__law_due => k_is)
    (case k__law_due => k_is)
    (case g__law_heard => k_is)
    (case l__law_heard => k_is)
    (case c__law_heard => k_is)
    (case k__law_heard => k_is)
    (case g__law_right => k_is)
    (case l__law_right => k_is)
    (case c__law_right => k_is)
    (case k__law_right => k_is)
    (case g_law => k_is)
    (case l_law => k_is)
    (case c_law => k_is)
    (case k_law => k_is)
    (case e1_BadSize => k_is)
    (case e2_BadSize => kernel_rfl)
    (case e3_BadSize => k_is)
    (case e4_BadSize => k_is)
    (case e5_BadSize => k_is)
    (case e6_BadSize => ks_is)
    (case e7_BadSize => k_is)
    (case e8_BadSize => k_is)
    (case ef0_BadSize => k_is)
    (case e9_BadSize => k_is)
    (case ea_BadSize => k_is)
    (case eb_BadSize => k_is)
    (case ec_BadSize => exact rfl)
    (case ed_BadSize => exact rfl)
    (case ee_BadSize => k_is)
    (case ek_BadSize => k_is)
    (case ex_BadSize => k_is)
    (case et_BadSize => k_is)
    (case eh_BadSize => k_is)
    (case eg_BadSize => k_is)
    (case ei_BadSize => k_is)
    (case e1_BadMost => k_is)
    (case e2_BadMost => kernel_rfl)
    (case e3_BadMost => k_is)
    (case e4_BadMost => k_is)
    (case e5_BadMost => k_is)
    (case e6_BadMost => ks_is)
    (case e7_BadMost => k_is)
    (case e8_BadMost => k_is)
    (case ef0_BadMost => k_is)
    (case e9_BadMost => k_is)
    (case ea_BadMost => k_is)
    (case eb_BadMost => k_is)
    (case ec_BadMost => exact rfl)
    (case ed_BadMost => exact rfl)
    (case ee_BadMost => k_is)
    (case ek_BadMost => k_is)
    (case ex_BadMost => k_is)
    (case et_BadMost => k_is)
    (case eh_BadMost => k_is)
    (case eg_BadMost => k_is)
    (case ei_BadMost => k_is)
    (case e1_BadItems => k_is)
    (case e2_BadItems => kernel_rfl)
    (case e3_BadItems => k_is)
    (case e4_BadItems => k_is)
    (case e5_BadItems => k_is)
    (case e6_BadItems => ks_is)
    (case e7_BadItems => k_is)
    (case e8_BadItems => k_is)
    (case ef0_BadItems => k_is)
    (case e9_BadItems => k_is)
    (case ea_BadItems => k_is)
    (case eb_BadItems => k_is)
    (case ec_BadItems => exact rfl)
    (case ed_BadItems => exact rfl)
    (case ee_BadItems => k_is)
    (case ek_BadItems => k_is)
    (case ex_BadItems => k_is)
    (case et_BadItems => k_is)
    (case eh_BadItems => k_is)
    (case eg_BadItems => k_is)
    (case ei_BadItems => k_is)
    (case e1_Fault => k_is)
    (case e2_Fault => kernel_rfl)
    (case e3_Fault => k_is)
    (case e4_Fault => k_is)
    (case e5_Fault => k_is)
    (case e6_Fault => ks_is)
    (case e7_Fault => k_is)
    (case e8_Fault => k_is)
    (case ef0_Fault => k_is)
    (case ef1_Fault => k_is)
    (case e9_Fault => k_is)
    (case ea_Fault => k_is)
    (case eb_Fault => k_is)
    (case ec_Fault => exact rfl)
    (case ed_Fault => exact rfl)
    (case ee_Fault => k_is)
    (case ek_Fault => k_is)
    (case ex_Fault => k_is)
    (case et_Fault => k_is)
    (case eh_Fault => k_is)
    (case eg_Fault => k_is)
    (case ei_Fault => k_is)
    (case dV1_Fault => exact rfl)
    (case dV2_Fault => k_is)
    (case dV3_Fault => exact rfl)
    (case dV4_Fault => exact (.cons rfl .nil))
    (case z_super => k_is)
    (case z_tp => k_is)
    (case z_int => k_is)
    (case z_bool => k_is)
    (case z_abs => k_is)
    (case z_len => k_is)
    (case z_isinstance => k_is)
    (case z_repr => k_is)
    (case z_all => k_is)
    (case z_range => k_is)
    (case z_tuple => k_is)
    (case z_list => k_is)
    (case z_ValueError => k_is)
    (case q_LEAST_SIZE => k_is)
    (case q_MOST_SIZE => k_is)
    (case q_LEAST_MOST => k_is)
    (case q_GREATEST_MOST => k_is)
    (case x_cg => k_is)
    (case x_ct => k_is)
    (case x_rcc => k_is)
    (case x_rcm => k_is)
    (case x_eBadSizecc => k_is)
    (case x_eBadSizecm => k_is)
    (case x_eBadMostcc => k_is)
    (case x_eBadMostcm => k_is)
    (case x_eBadItemscc => k_is)
    (case x_eBadItemscm => k_is)
    (case x_eFaultcc => k_is)
    (case x_eFaultcm => k_is)
    (case x_r3 => k_is)
    (case x_n_size => k_is)
    (case x_n_most => k_is)
    (case x_n_worths => k_is)
    (case x_n_counter => k_is)
    (case x_n_name => k_is)
    (case x_te => k_is)
    (case x_td => k_is)
    (case x_tt => k_is)
    (case x_tBadSize => k_is)
    (case x_dBadSize => k_is)
    (case x_yBadSize => k_is)
    (case x_vBadBadSize => kernel_rfl)
    (case x_kBadSizeBadSize => k_is)
    (case x_kBadSizeBadMost => k_is)
    (case x_kBadSizeBadItems => k_is)
    (case x_tBadMost => k_is)
    (case x_dBadMost => k_is)
    (case x_yBadMost => k_is)
    (case x_vBadBadMost => kernel_rfl)
    (case x_kBadMostBadSize => k_is)
    (case x_kBadMostBadMost => k_is)
    (case x_kBadMostBadItems => k_is)
    (case x_tBadItems => k_is)
    (case x_dBadItems => k_is)
    (case x_yBadItems => k_is)
    (case x_vBadBadItems => kernel_rfl)
    (case x_kBadItemsBadSize => k_is)
    (case x_kBadItemsBadMost => k_is)
    (case x_kBadItemsBadItems => k_is)
    (case x_tFault => k_is)
    (case x_dFault => k_is)
    (case x_yFault => k_is)
    (case x_rflA => exact rfl)
    (case x_kerT => kernel_rfl)
    )

