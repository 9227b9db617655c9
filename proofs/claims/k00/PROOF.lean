import PyProof.Rows.All
import Wide.All
import OpenK.AllK
import Wide.FinOn
import HandS.ForMost
import HandS.ForExc
import HandS.EndBits
import HandS.OwnEq
import HandS.IsInst
import HandS.Property
import HandS.ExcInit
import HandS.ExcField
import KE.KExcSuper
import KE.KOpsOwn
import HandS.Defaults
import HandS.ExcIs
import PyProof.ReprLen
import HandS.Evl
import PySem.Challenge.RW_tapedonce_k00_signs_and_comparisons_of_n
set_option Elab.async false
set_option linter.all false
set_option maxRecDepth 100000
set_option maxHeartbeats 4000000
/-! Layer A: promises of defs that are called where no text of a container is being made (so that repr may be used in them). -/
namespace L2.TP
open PySem PySem.Spec PyProof.Rows

/-- the promise of a def, where nothing shows itself -/
structure FnG (P : Program) (w : World) (K : PySem.W.Frag) (mg : Str → Option Value) (base : Heap) (CX : CXT) (k : Nat)
    (f : Addr) (fd : FuncData) (ps : List Str) (sp : Sp) : Prop where
  len : ∀ vs H Q E, sp vs H Q E → vs.length = ps.length
  run : ∀ (A : Around) (outer : List Env) (s : Shared) (H : Hp) (args : Args) (us : List Value) (vs : List V) (Q : VK) (E : XK),
    A.guards = some [] → Room k A → Env0 P w K mg base A outer s H → BindsTo s fd args (ps.zip us) → Vals vs us → sp vs H Q E →
    codeAny (model P w) A (.call (.ref f) args) (CR CX outer P w H s Q E) s

section
variable {P : Program} {w : World} {K : PySem.W.Frag} {mg : Str → Option Value} {base : Heap} {CX : CXT}
theorem FnG.of {k : Nat} {f : Addr} {fd : FuncData} {ps : List Str} {sp : Sp} (F : FnOk P w K mg base CX k f fd ps sp) : FnG P w K mg base CX k f fd ps sp :=
  ⟨F.len, fun A outer s H args us vs Q E _ hr => F.run A outer s H args us vs Q E hr⟩
theorem FnG.mono {j k : Nat} {f : Addr} {fd : FuncData} {ps : List Str} {sp : Sp} (F : FnG P w K mg base CX j f fd ps sp) (h : j ≤ k) : FnG P w K mg base CX k f fd ps sp :=
  ⟨F.len, fun A outer s H args us vs Q E hg hr => F.run A outer s H args us vs Q E hg (hr.mono h)⟩

/-- a def by its body, the body's around shows nothing -/
theorem fnG_of {k : Nat} {f : Addr} {name qual : Str} {params : Arguments} {body : List Stmt} {scope : Scope} {dV kV doc pm cdv ct oc : Value} {an od : Option Addr}
    {osl : Array (Option Value)} {N ps : List Str} {sp : Sp}
    (lk : K.lookup f = some ⟨oc, od, .func (PySem.W.fnOf name qual params body scope dV kV doc pm an cdv ct), osl⟩)
    (hcd : PySem.W.codeIn K cdv qual = true) (S : FnScope N ps scope) (len : ∀ vs H Q E, sp vs H Q E → vs.length = ps.length)
    (hbody : ∀ (A : Around) (outer : List Env) (s : Shared) (H : Hp) (vs : List V) (Q : VK) (E : XK), A.guards = some [] →
      Room k (A.deeper (envOfC qual scope s.heap.objs.size f cdv)) → sp vs H Q E →
      ∃ t, PSs (cxOf CX P w K mg base N qual scope f cdv A outer s H E) body t ∧ t { nx := fun _ H' => Q .non H', rt := Q } (start N vs) H) :
    FnG P w K mg base CX (k + 1) f (PySem.W.fnOf name qual params body scope dV kV doc pm an cdv ct) ps sp := by
  refine ⟨len, fun A outer s H args us vs Q E gA hr e0 hb r hsp => ?_⟩
  have sameLen := len _ _ _ _ hsp
  have inK : K.In s.heap := e0.mod.kin.keeps fun b o e => (e0.bs b o e).1
  have noLim : s.heap.NoLimit := e0.mod.nolimit.keeps fun b o e => (e0.bs b o e).1
  have kinds : ∀ y ∈ ps.zip us, scope.names.lookup y.1 = some .local ∨
      (scope.names.lookup y.1 = some .cell ∧ ((cellsFrom (s.heap.objs.size + 1) scope.names []).lookup y.1).isSome = true) := by
    rintro ⟨n, v⟩ hy
    rcases S.par n (List.of_mem_zip hy).1 with z | z
    · exact .inl z
    · exact .inr ⟨z, PySem.W.cellsFrom_some _ _ _ (.inl z)⟩
  refine codeAny_call_function hr.depth (inK _ _ lk) rfl S.co S.gen rfl (PySem.W.codeRec_of inK hcd) (hb _ _ _ _ ?_)
  refine wpAny_newFunctionEnv_cells S.kind kinds fun env he s1 x => ?_
  subst he
  refine ⟨noLim.keeps x.toInCall.keep, codeAny_func ?_⟩
  obtain ⟨t, ht, hq⟩ := hbody A outer s H vs Q E gA (hr.deeper _) hsp
  have I := inv_start (CX := CX) (E := E) S hr.hd e0 sameLen r x
  refine wpAny_mono (ht.run [] s1 (start N vs) H _ I hq) (fun fl s' hs => ?_) fun e s' hs => hs
  cases fl with
  | ret u =>
    obtain ⟨v, σ', H', J, rv, q⟩ := hs
    exact ⟨v, H', J.os, J.bare, J.base, J.hok, rv, q⟩
  | next =>
    obtain ⟨σ', H', J, q⟩ := hs
    exact ⟨.non, H', J.os, J.bare, J.base, J.hok, rfl, q⟩
  | brk =>
    obtain ⟨_, _, _, q⟩ := hs
    exact q.elim
  | cont =>
    obtain ⟨_, _, _, q⟩ := hs
    exact q.elim
end

section
variable {X : Cx} {CX : CXT} {k : Nat} {f : Addr} {fd : FuncData} {ps : List Str} {sp : Sp} {dvs : List V} {ds : List Value} {E : XK} {x : Str} {p pos : Pos} {e : Expr} {es : List Expr} {t : TA}
theorem run_fnG {pins : List (Addr × Obj)} {σ : St} {H : Hp} {s : Shared} {Q : VK} {us : List Value} {vs : List V}
    (F : FnG X.prog X.w X.K X.mg X.base CX k f fd ps sp) (gA : X.A.guards = some []) (hr : Room k X.A) (hb : Binds X.K fd ps ds) (hd : Vals dvs ds) (hx : Passes CX X E)
    (I : Inv X pins σ H s) (r : Vals vs us) (h : sp (vs ++ dvs) H Q E) : wpAny (model X.prog X.w) X.A (call (.ref f) us) (EP X pins σ Q) X.xe s := by
  have both : Vals (vs ++ dvs) (us ++ ds) := r.append hd
  have sz : (us ++ ds).length = ps.length := both.length.symm.trans (F.len _ _ _ _ h)
  refine wpAny_call (codeAny_mono (F.run X.A X.stack s H ⟨us, []⟩ (us ++ ds) (vs ++ dvs) Q E gA hr I.env0 (hb s us I.kIn sz) both h) fun r s' hq => ?_)
  cases r with
  | error e => exact hx pins σ H s e s' I hq
  | ok fl =>
    cases fl with
    | ret u => exact I.after hq
    | next => exact hq.elim
    | brk => exact hq.elim
    | cont => exact hq.elim
theorem pe_callG (F : FnG X.prog X.w X.K X.mg X.base CX k f fd ps sp) (gA : X.A.guards = some []) (hr : Room k X.A) (hg : Gl X x) (hm : X.mg x = some (.ref f))
    (hk : PySem.W.keepIn X.K (.ref f) = true) (hb : Binds X.K fd ps ds) (hd : Vals dvs ds) (hx : Passes CX X E)
    (ha : PA X (e :: es) t) (hdb : (x == ("__debug__" : Str)) = false := by decide)
    (he : starEach (e :: es) X.env = (false, eval e X.env) :: starEach es X.env := by rfl) (hpl : (backTo pos (starEach es X.env)).any (·.1) = false := by rfl) :
    PE X (.Call (.Name x p) (e :: es) [] pos) (tCall sp dvs E t) := by
  refine ⟨fun pins s σ H Q I h => wpAny_Call_Name_kw (ld_glob I hg hm ?_ hdb)⟩
  refine PySem.W.callWith_K (h₀ := X.base) I.ok.mod.kin hk (thn (ha.run pos pins s σ H _ I h) fun us s1 hh => ?_) he hpl
  obtain ⟨vs, H1, I1, r, q⟩ := hh
  exact ⟨I1.kIn, run_fnG F gA hr hb hd hx I1 r q⟩
end

/-! ### the def as it stands, and its promise -/
section
variable {P : Program} {w : World} {K : PySem.W.Frag} {mg : Str → Option Value} {base : Heap}
theorem okG {x qual : Str} {st : Stmt} {f : Addr} {fd : FuncData} {N ps : List Str} {k : Nat} {sp : Sp} (F : Fun K x qual st f fd) (S : FnScope N ps (defScope st))
    (len : ∀ vs H Q E, sp vs H Q E → vs.length = ps.length)
    (hbody : ∀ (cdv : Value) (A : Around) (outer : List Env) (s : Shared) (H : Hp) (vs : List V) (Q : VK) (E : XK), A.guards = some [] →
      Room k (A.deeper (envOfC qual (defScope st) s.heap.objs.size f cdv)) → sp vs H Q E →
      ∃ t, PSs (cxOf CX0 P w K mg base N qual (defScope st) f cdv A outer s H E).nox (defBody st) t ∧ t { nx := fun _ H' => Q .non H', rt := Q } (start N vs) H) :
    FnG P w K mg base CX0 (k + 1) f fd ps sp := by
  obtain ⟨oc, od, kV, doc, pm, an, cdv, ct, osl, rfl, lk, hcd⟩ := F.ex
  refine fnG_of lk hcd S len fun A outer s H vs Q E gA hr hsp => ?_
  obtain ⟨t, h, q⟩ := hbody cdv A outer s H vs Q E gA hr hsp
  exact ⟨t, h.nox, q⟩
end

/-! ### the law's own call -/
theorem law_callG {P : Program} {w : World} {K : PySem.W.Frag} {mg mb : Str → Option Value} {CX : CXT} {k : Nat} {fa a : Addr} {fd : FuncData} {x : Str} {sp : Sp} {s1 : Shared} {vs : List Value} {ns : List Int}
    (KX : K.In s1.heap) (hns : s1.heap.Ns mainGlobals mg) (hb : s1.heap.Ns builtinsNs mb) (hbb : ∀ x : Str, x ≠ "__name__" → mb x = bootBuiltins x) (hlim : s1.heap.NoLimit) (hg : s1.gens = #[])
    (ha : s1.heap.get? a = some { cls := .type "list", data := .seq vs.toArray }) (hi : IntsAre vs ns) (hl : ns.length ≤ sizeLine) (hr : Room k callerA)
    (F : ∀ base : Heap, K.In base → base.Ns mainGlobals mg → FnG P w K mg base CX k fa fd [x] sp) (hbind : ∀ (s : Shared) (u : Value), BindsTo s fd ⟨[u], []⟩ [(x, u)])
    (hsp : ∀ H : Hp, Only H → SqL K H a (ns.map V.int) → sp [.ref a] H (fun v _ => v = .bl true) fun _ _ _ => False)
    (hCX : ∀ H e s', CX [] H s1 (fun _ _ _ => False) e s' → False) :
    codeAny (model P w) callerA (.call (.ref fa) ⟨[.ref a], []⟩) (fun r s' => r = .ok (.ret (.bool true)) ∧ OldK s1.heap s'.heap ∧ s'.os = s1.os ∧ AllBare s'.gens) s1 := by
  have rv := vals_ints hi
  have lenV := hi.length
  have core : ∀ H : Hp, Only H → SqL K H a (ns.map V.int) → HOk P w H s1.heap → (∀ b, H b ≠ none → b = a) → (H a ≠ none → K.lookup a = none) →
      codeAny (model P w) callerA (.call (.ref fa) ⟨[.ref a], []⟩) (fun r s' => r = .ok (.ret (.bool true)) ∧ OldK s1.heap s'.heap ∧ s'.os = s1.os ∧ AllBare s'.gens) s1 := by
    intro H hO hS hok hA hK
    have notA : ∀ {b : Addr} {o : Obj} {es : Array DictEntry} {ep : Nat}, s1.heap.get? b = some o → o.data = .dict es ep → H b = none := by
      intro b o es ep e d
      cases q : H b with
      | none => rfl
      | some u =>
        have e' : b = a := hA b (by rw [q]; simp)
        subst e'
        rw [ha] at e
        cases e
        cases d
    have nsK : ∀ {b : Addr} {m : Str → Option Value}, s1.heap.Ns b m → (hidT s1.heap H).Ns b m := by
      rintro b m ⟨o, es, ep, e, d, r⟩
      exact ⟨o, es, ep, hidT_get e (notA e d), d, r⟩
    have hKb : K.In (hidT s1.heap H) := by
      intro b o e
      refine hidT_get (KX b o e) ?_
      cases q : H b with
      | none => rfl
      | some u =>
        have e' : b = a := hA b (by rw [q]; simp)
        subst e'
        rw [hK (by rw [q]; simp)] at e
        cases e
    have hM : Mod K mg (hidT s1.heap H) := ⟨hKb, nsK hns, ⟨mb, nsK hb, hbb⟩, let ⟨mc, h1, h2⟩ := hlim; ⟨mc, nsK h1, h2⟩⟩
    have e0 : Env0 P w K mg (hidT s1.heap H) callerA [] s1 H :=
      ⟨rfl, hM, fun b o e => of_hidT e, Nat.le_of_eq (hidT_size _ _), trivial, fun b hb => absurd (show b ∈ ([] : List Addr) from hb) (by simp), hok, .of_eq hg⟩
    refine codeAny_mono ((F _ hKb (nsK hns)).run callerA [] s1 H ⟨[.ref a], []⟩ [.ref a] [.ref a] _ _ rfl hr e0 (hbind s1 (.ref a)) (.cons rfl .nil) (hsp H hO hS)) fun r s' h => ?_
    cases r with
    | error e => exact (hCX H e s' h).elim
    | ok fl =>
      cases fl with
      | next => exact h.elim
      | brk => exact h.elim
      | cont => exact h.elim
      | ret u =>
        obtain ⟨v, H', os, bare, un, hok', r', q⟩ := h
        have q' : v = .bl true := q
        subst q'
        obtain rfl : u = Value.bool true := r'
        refine ⟨rfl, OldK.of_keep fun b o e => ?_, os, bare⟩
        cases q : H b with
        | none => exact un.keep b o e q (fun z => absurd (show b ∈ ([] : List Addr) from z) (by simp)) (by simp)
        | some u =>
          rcases hO b with z | ⟨ob, xs, z⟩
          · rw [q] at z
            cases z
          · have z2 := un.frzs b ob _ z
            obtain ⟨e1, _⟩ := hok b _ z
            obtain ⟨e2, _⟩ := hok' b _ z2
            rw [e] at e1
            cases e1
            exact e2
  cases hk : K.lookup a with
  | some o =>
    have e := KX a o hk
    rw [ha] at e
    cases e
    exact core (fun _ => none) (fun _ => .inl rfl) (.inr ⟨_, vs.toArray, _, hk, rfl, rfl, rfl, by rw [List.size_toArray, lenV]; exact hl, by simpa using rv⟩)
      (fun b u z => by cases (show (none : Option HO) = some u from z)) (fun b z => absurd rfl z) fun z => absurd rfl z
  | none =>
    refine core (fun b => if b = a then some (.frz { cls := .type "list", data := .seq vs.toArray } (.lst (ns.map V.int))) else none) (fun b => ?_)
      (.inl (.inr ⟨{ cls := .type "list", data := .seq vs.toArray }, if_pos rfl⟩)) (fun b u z => ?_) (fun b z => ?_) fun _ => hk
    · by_cases hb : b = a
      · exact .inr ⟨_, _, if_pos hb⟩
      · exact .inl (if_neg hb)
    · by_cases hb : b = a
      · cases (if_pos hb).symm.trans z
        subst hb
        exact ⟨ha, by rw [List.length_map]; exact hl, vs, _, rv, ha⟩
      · cases (if_neg hb).symm.trans z
    · by_cases hb : b = a
      · exact hb
      · exact absurd (if_neg hb) z

/-- the goal that the head leaves, from the law's promise -/
theorem walkG {l : PySem.W.OpenLaw} {n k : Nat} {q : Program} {loose : List Str} {XP : (Str → Option Value) → Heap → Prop} {YP : World → Heap → Prop} {d : DefRec} {K : Params → PySem.W.Frag} {CX : CXT} {sp : PySem.W.Frag → Sp} {x : Str}
    (hn : l.most = some n) (hn2 : n ≤ sizeLine) (hdf : d.params.defaults = []) (hr : Room k callerA)
    (hY : ∀ (w : World) (h : Heap), YP w h → (K w.params).In h)
    (F : ∀ (w : World) (mg : Str → Option Value) (fa : Addr) (h : Heap), (K w.params).In h → h.Ns mainGlobals mg → mg d.name = some (.ref fa) →
      ∃ fd : FuncData, (∀ (s : Shared) (u : Value), BindsTo s fd ⟨[u], []⟩ [(x, u)]) ∧
        ∀ base : Heap, (K w.params).In base → base.Ns mainGlobals mg → FnG l.prog w (K w.params) mg base CX k fa fd [x] (sp (K w.params)))
    (hsp : ∀ (K : PySem.W.Frag) (H : Hp) (a : Addr) (ns : List Int), ns.length ≤ n → (∀ z ∈ ns, Builtin.Int.intBits z ≤ 1048576) → Only H → SqL K H a (ns.map V.int) → sp K [.ref a] H (fun v _ => v = .bl true) fun _ _ _ => False)
    (hCX : ∀ (H : Hp) (s : Shared) (e : Value) (s' : Shared), CX [] H s (fun _ _ _ => False) e s' → False) :
    PySem.W.WalkO q loose XP YP l.row.toRowW d [] (fun f vs => PySem.call f vs) := by
  refine Att.attach_callB hn hdf fun w s0 s1 mg mb fa o pm cd doc a vs ns G Y ho hd hcd hmg hobj hints hlen hbits hg => ?_
  have KX := hY w _ Y
  obtain ⟨fd, hb, hF⟩ := F w mg fa _ KX G.T.g hmg
  exact law_callG KX G.T.g G.T.b G.T.builtins G.T.nolimit hg hobj hints (Nat.le_trans hlen hn2) hr hF hb (fun H hO hS => hsp _ H a ns hlen hbits hO hS) fun H e s' => hCX H s1 e s'
end L2.TP

/-! Layer B: repr of data (no dicts within), data kept while the heap grows. -/
namespace L2.TP
open PySem PySem.Spec PyProof.Rows

section
variable {K : PySem.W.Frag} {H H' : Hp}
mutual
theorem Dp.ext (e : Ext H H') : ∀ (d : PyData) (v : V), Dp K H v d → Dp K H' v d
  | .none, _, h => by cases h; exact .non
  | .bool b, _, h => by cases h; exact .bl b
  | .int i, _, h => by cases h; exact .int i
  | .str x, _, h => by cases h; exact .str x
  | .list ds, _, h => by
    cases h with
    | lst hs ha => exact .lst (SqL.ext hs e) (DpAll.ext e ds _ ha)
  | .tuple ds, _, h => by
    cases h with
    | tup hs ha => exact .tup (SqT.ext hs e) (DpAll.ext e ds _ ha)
  | .dict _, _, h => by cases h
theorem DpAll.ext (e : Ext H H') : ∀ (ds : List PyData) (vs : List V), DpAll K H vs ds → DpAll K H' vs ds
  | [], _, h => by cases h; exact .nil
  | d :: ds, _, h => by
    cases h with
    | cons h1 h2 => exact .cons (Dp.ext e d _ h1) (DpAll.ext e ds _ h2)
end
mutual
theorem Dp.noDict : ∀ (d : PyData) (v : V), Dp K H v d → d.hasDict = false
  | .none, _, _ => rfl
  | .bool _, _, _ => rfl
  | .int _, _, _ => rfl
  | .str _, _, _ => rfl
  | .list ds, _, h => by
    cases h with
    | lst _ ha => exact DpAll.noDict ds _ ha
  | .tuple ds, _, h => by
    cases h with
    | tup _ ha => exact DpAll.noDict ds _ ha
  | .dict _, _, h => by cases h
theorem DpAll.noDict : ∀ (ds : List PyData) (vs : List V), DpAll K H vs ds → PyData.hasDictAll ds = false
  | [], _, _ => rfl
  | d :: ds, _, h => by
    cases h with
    | cons h1 h2 =>
      show (d.hasDict || PyData.hasDictAll ds) = false
      rw [Dp.noDict d _ h1, DpAll.noDict ds _ h2]
      rfl
end
end

/-- repr(x): x stands for the data d -/
def rRepr (K : PySem.W.Frag) : List V → Hp → VK → Prop := fun xs H Q => ∃ v d, xs = [v] ∧ Dp K H v d ∧ d.showable = true ∧ d.depth ≤ 40 ∧ d.shown.length ≤ sizeLine ∧ Q (.str d.shown) H
section
variable {X : Cx}
theorem call_repr (gA : X.A.guards = some []) {k : Nat} (hr : Room k X.A) : CallR X (.builtin "repr") (rRepr X.K) := by
  intro pins s σ H xs us Q I r h
  obtain ⟨v, d, rfl, hd, sh, dep, sz, q⟩ := h
  obtain ⟨u, rfl, ru⟩ := vals1 r
  have room : X.A.units + (d.depth + 1) < cLine := by
    have := hr.un
    omega
  cases hd with
  | non =>
    cases ru
    exact PySem.P.repr_of_none ⟨.str _, H, I.tok _, ⟨_, rfl⟩, q⟩
  | bl b =>
    cases ru
    exact PySem.P.repr_of_bool ⟨.str _, H, I.tok _, ⟨_, rfl⟩, q⟩
  | int i =>
    obtain ⟨t, rfl⟩ := ru
    exact PySem.P.repr_of_int (of_decide_eq_true sh) ⟨.str _, H, I.tok _, ⟨_, rfl⟩, q⟩
  | str x =>
    obtain ⟨t, rfl⟩ := ru
    exact PySem.P.repr_of_str ⟨.str _, H, I.tok _, ⟨_, rfl⟩, q⟩ sz
  | lst hs ha =>
    cases ru
    obtain ⟨as, rd⟩ := Dp.reads I _ _ _ (Dp.lst hs ha) rfl
    exact repr_of_reads' rd sh (PyData.noDict_hsm (Dp.noDict _ _ (Dp.lst hs ha))) gA room (fun _ _ e => e) (fun h' u tk hk => ⟨.str _, H, I.kept hk, ⟨_, rfl⟩, q⟩) sz
  | tup hs ha =>
    cases ru
    obtain ⟨as, rd⟩ := Dp.reads I _ _ _ (Dp.tup hs ha) rfl
    exact repr_of_reads' rd sh (PyData.noDict_hsm (Dp.noDict _ _ (Dp.tup hs ha))) gA room (fun _ _ e => e) (fun h' u tk hk => ⟨.str _, H, I.kept hk, ⟨_, rfl⟩, q⟩) sz
end
end L2.TP

/-! Layer C: own errors whose __init__ says super().__init__(a) and then keeps its arguments under their names. -/
namespace PySem.TPX
open PySem.W PySem.Calls PyProof.Rows PySem.HandSPX

/-- super().__init__(a) -/
def supS (a : Str) (q1 q2 q3 q4 q5 q6 : Pos) : Stmt := .Expr (.Call (.Attribute (.Call (.Name "super" q1) [] [] q2) "__init__" q3) [.Name a q4] [] q5) q6
/-- self.f = f -/
def keepS (f : Str) (r1 r2 r3 r4 : Pos) : Stmt := .Assign [.Attribute (.Name "self" r1) f r2] (.Name f r3) r4
/-- the names of such an __init__ -/
structure IniS (fs : List Str) (scope : Scope) : Prop where
  kind : scope.kind = .function
  co : scope.isCoroutine = false
  gen : scope.isGenerator = false
  nocell : ∀ x ∈ scope.names, x.2 ≠ .cell
  sup : scope.names.lookup ("super" : Str) = some .globalImplicit
  cls : scope.names.lookup ("__class__" : Str) = some .free
  slf : scope.names.lookup ("self" : Str) = some .local
  fld : ∀ f ∈ fs, scope.names.lookup f = some .local
  dbg : ∀ f ∈ fs, (f == ("__debug__" : Str)) = false
  nself : ∀ f ∈ fs, f ≠ ("self" : Str)

/-- what the written part says of the error's class at C and of its __init__ at fI -/
structure ErrK (prog : Program) (K : Frag) (fs : List Str) (C fI : Addr) (fd : FuncData) : Prop where
  cls : ∃ nm q N bs bm sn sub ab col dd k0 k1 k2 k3 k5, K.lookup C = some (excClassObj nm q C N bs bm true sn sub ab col dd k0 k1 k2 k3 k5 "ValueError.__new__") ∧ refsVE bm = true
  sa : findIn K (.ref C) "__setattr__" = some (some (.builtin "object.__setattr__"))
  iC : findIn K (.ref C) "__init__" = some (some (.ref fI))
  tI : typeIn K (.ref fI) = some (.type "function")
  sup : ks_superIn K C C "__init__" = some (some (.builtin "ValueError.__init__"))
  sB : subIn K (.ref C) (.type "ValueError") = some true
  mC : mroIn K C (.ref C) = some true
  nS : nsIn K mainGlobals "super" = some none
  tp : nsIn K cStatics "thirdparty.any" = some none
  top : (prog.main.scope.names.lookup ("super" : Str)).isSome = false
  nof : ∀ f ∈ fs, findIn K (.ref C) f = some none
  fn : ∃ (oc : Value) (od : Option Addr) (osl : Array (Option Value)) (qual : Str) (params : Arguments) (body : List Stmt) (scope : Scope) (dV kV doc pm : Value) (an : Option Addr) (cda : Addr) (ct : Value) (cc : Addr),
    fd = ksFn "__init__" qual params body scope dV kV doc pm an (.ref cda) ct cc ∧ K.lookup fI = some ⟨oc, od, .func fd, osl⟩ ∧ codeIn K (.ref cda) qual = true ∧
    (∃ ccl cdd vs ccs file tf, K.lookup cda = some ⟨ccl, cdd, .fields vs, ccs⟩ ∧ vs[2]? = some (.str file tf) ∧ ((prog.main.file : Str) == file) = true) ∧
    (∃ cl cld csl, K.lookup cc = some ⟨cl, cld, .cell (some (.ref C)), csl⟩) ∧
    (∃ ar : Arg, (params.posonlyargs ++ params.args).head? = some ar ∧ ar.arg = "self") ∧ IniS fs scope ∧
    ((∃ f q1 q2 q3 q4 q5 q6 r1 r2 r3 r4, (q3.endLine == q5.line) = true ∧ fs = [f] ∧ body = [supS f q1 q2 q3 q4 q5 q6, keepS f r1 r2 r3 r4]) ∨
     (∃ f g q1 q2 q3 q4 q5 q6 r1 r2 r3 r4 p1 p2 p3 p4, (q3.endLine == q5.line) = true ∧ fs = [f, g] ∧ f ≠ g ∧ body = [supS f q1 q2 q3 q4 q5 q6, keepS f r1 r2 r3 r4, keepS g p1 p2 p3 p4]))

section
variable {prog : Program} {w : World} {A : Around} {E : Value → Shared → Prop} {R : Result → Shared → Prop} {s : Shared} {K : Frag} {mg mb : Str → Option Value} {C fI : Addr} {fs : List Str} {fd : FuncData}

/-- what __init__ leaves of a fresh exception at x -/
structure IniEnd (fs : List Str) (vs : List Value) (h h' : Heap) (x C dx : Addr) : Prop where
  keep : ∀ b o, b ≠ x → h.get? b = some o → h'.get? b = some o
  obj : ∃ t1 : Addr, h'.get? x = some { cls := .ref C, dict := some dx, data := .fields #[.ref t1, .none, .none, .none, .bool false, .none] }
  dbig : h.objs.size ≤ dx
  dne : dx ≠ x
  ns : ∃ mA, h'.Ns1 dx mA ∧ ∀ y, mA y = (fs.zip vs).lookup y
theorem look1 (f y : Str) (v : Value) : (if y = f then some v else none) = [(f, v)].lookup y := by
  by_cases h : y = f
  · subst h
    simp [List.lookup]
  · have q : (y == f) = false := by simpa using h
    simp [List.lookup, q, h]
theorem look2 {f g : Str} (hfg : f ≠ g) (y : Str) (v u : Value) : (if y = g then some u else if y = f then some v else none) = [(f, v), (g, u)].lookup y := by
  by_cases h : y = f
  · subst h
    have q : ¬ y = g := hfg
    simp [List.lookup, q]
  · have q : (y == f) = false := by simpa using h
    by_cases h2 : y = g
    · subst h2
      simp [List.lookup, q]
    · have q2 : (y == g) = false := by simpa using h2
      simp [List.lookup, q, q2, h, h2]

theorem clsIn_err {nm q : Str} {N : Addr} {bs bm : List Value} {sn : List Str} {sub : List Value} {ab : Bool} {col : Option Bool} {dd : Option Addr} {k0 k1 k2 k3 k5 : Option Value}
    (hC : K.lookup C = some (excClassObj nm q C N bs bm true sn sub ab col dd k0 k1 k2 k3 k5 "ValueError.__new__")) :
    clsIn K C = some { name := nm, bases := bs, mro := .ref C :: bm, ns := N, qualname := q, hasDict := true, slotNames := sn, subclasses := sub, abstract := ab, collection := col, hasDel := false } := by
  unfold clsIn
  rw [hC]

/-- super().__init__(a), in the body of such an __init__, at its beginning -/
theorem sup_run (T : ErrK prog K fs C fI fd) {x t0 : Addr} {v : Value} {f : Str} {q1 q2 q3 q4 q5 q6 : Pos} {body : List Stmt} {qual : Str} {params : Arguments} {scope : Scope} {dV kV doc pm : Value} {an : Option Addr} {cda cc : Addr} {ct : Value}
    {oc : Value} {od : Option Addr} {osl : Array (Option Value)} {L : Addr} {m : Str → Option Value} {Q : Flow → Shared → Prop}
    (efd : fd = ksFn "__init__" qual params body scope dV kV doc pm an (.ref cda) ct cc) (lf : K.lookup fI = some ⟨oc, od, .func fd, osl⟩)
    (hcode : ∃ ccl cdd vs ccs file tf, K.lookup cda = some ⟨ccl, cdd, .fields vs, ccs⟩ ∧ vs[2]? = some (.str file tf) ∧ ((prog.main.file : Str) == file) = true)
    (hcell : ∃ cl cld csl, K.lookup cc = some ⟨cl, cld, .cell (some (.ref C)), csl⟩)
    (hpos : (q3.endLine == q5.line) = true) (hpar : ∃ ar : Arg, (params.posonlyargs ++ params.args).head? = some ar ∧ ar.arg = "self") (S : IniS fs scope) (hf : f ∈ fs)
    (X : K.In s.heap) (hgl : s.heap.Ns mainGlobals mg) (hbl : s.heap.Ns builtinsNs mb) (hbb : ∀ x : Str, x ≠ "__name__" → mb x = bootBuiltins x)
    (hns : s.heap.Ns L m) (ms : m "self" = some (.ref x)) (mf : m f = some v) (hx : s.heap.get? x = some (excO C t0))
    (hq : ∀ h' tk t1, (∀ b o, b ≠ x → s.heap.get? b = some o → h'.get? b = some o) → h'.get? x = some (excO C t1) → Q .next { s with heap := h', toks := tk }) :
    wpAt (model prog w) A (.func body (ksEnv qual scope L fI (.ref cda) cc)) (exec (supS f q1 q2 q3 q4 q5 q6) (ksEnv qual scope L fI (.ref cda) cc)) Q E s := by
  obtain ⟨nm, q, N, bs, bm, sn, sub, ab, col, dd, k0, k1, k2, k3, k5, hC, hbm⟩ := T.cls
  obtain ⟨ccl, cdd, vs, ccs, file, tf, lc, hvs, hfile⟩ := hcode
  obtain ⟨cl, cld, csl, lcell⟩ := hcell
  obtain ⟨ar, hhead, har⟩ := hpar
  have hcl := clsIn_err hC
  have hC1 := X _ _ hC
  have hInst : InstAt s.heap x (excO C t0) C none := ⟨hx, rfl, rfl, trivial⟩
  refine ks_wpAt_Expr_any ?_ (by show (scope.kind == ScopeKind.module && _) = false; rw [S.kind]; rfl) rfl
  refine ks_wpAt_MethodCall (pl := (do return (← importBound (.Call (.Name "super" q1) [] [] q2) (ksEnv qual scope L fI (.ref cda) cc)).getD true)) ?_ (by
    show (do
      let ov ← attributeBase (.Call (.Name "super" q1) [] [] q2) "__init__" (ksEnv qual scope L fI (.ref cda) cc) (eval (.Call (.Name "super" q1) [] [] q2) (ksEnv qual scope L fI (.ref cda) cc))
      standAt q3.atName
      methodCall (.Call (.Name "super" q1) [] [] q2) "__init__" q3 q5 (ksEnv qual scope L fI (.ref cda) cc) ov 1 (backTo q5 (starEach [.Name f q4] (ksEnv qual scope L fI (.ref cda) cc))) []) = _
    unfold methodCall methodCallPos
    rw [hpos]
    rfl)
  obtain ⟨hh, g, d, tk, os⟩ := s
  refine ks_wpAt_super_base (env := ksEnv qual scope L fI (.ref cda) cc) S.sup S.cls (by decide) rfl (X _ _ lf) rfl (by rw [efd]; exact hhead) rfl (X _ _ lc) rfl hvs hfile T.top ?_
  refine ks_loadName_global S.kind S.sup (loadGlobal_builtin (env := ksEnv qual scope L fI (.ref cda) cc) hgl (mg_none_of X hgl T.nS) hbl ((hbb _ (by decide +kernel)).trans (by decide +kernel)) ⟨rfl, ?_⟩)
  refine wpAny_loadName_free S.kind S.cls rfl ⟨_, X _ _ lcell, rfl⟩ ?_
  refine wpAny_loadName_local S.kind (by rw [har]; exact S.slf) hns (by rw [har]; exact ms) ?_
  refine ks_wpAny_isType_cls hC1 rfl ⟨rfl, ?_⟩
  refine ks_wpAny_call_super hC1 rfl hx rfl (fun c z => nomatch z) (looks_mroIn X T.mC) (fun h1 e1 k1 => ?_)
  have X1 := X.keeps k1
  have hx1 := k1 _ _ hx
  have hI1 : InstAt h1 x (excO C t0) C none := ⟨hx1, rfl, rfl, trivial⟩
  have sup : alongIn K "__init__" ((((Value.ref C :: bm).dropWhile (· != .ref C)).drop 1)) = some (some (.builtin "ValueError.__init__")) := by
    have z := T.sup
    unfold ks_superIn at z
    rw [hcl, Option.bind_some] at z
    exact z
  refine kxs_getMethod kxs_ValueError e1 (looks_opaque X1 T.tp) (l₀ := Value.ref C :: bm) (fun A Q E s k q => wpAny_bind ((looks_clsIn X1 hcl) A _ E s k (wpAny_pure q))) rfl X1 sup (hI1.type.andThen (looks_subIn X1 T.sB)) (ks_ne X1 hI1 hcl) (by decide) ?_
  have k2 : ∀ b o, h1.get? b = some o → (h1.push (kxs_mw "ValueError.__init__" x)).get? b = some o := fun b o e => Heap.get?_push_of_some _ e
  have hu : (h1.push (kxs_mw "ValueError.__init__" x)).get? h1.objs.size = some (kxs_mw "ValueError.__init__" x) := Heap.get?_push_at rfl rfl
  have hst : starEach [Expr.Name f q4] (ksEnv qual scope L fI (.ref cda) cc) = (false, eval (.Name f q4) (ksEnv qual scope L fI (.ref cda) cc)) :: starEach [] (ksEnv qual scope L fI (.ref cda) cc) := rfl
  rw [hst]
  refine kxs_callWith (i := "ValueError.__init__") (x := x) rfl (evalArgs_plain (spliced_cons ?_))
  have hns2 := (hns.keeps k1).keeps k2
  refine wpAny_Name (wpAny_loadName_local S.kind (S.fld f hf) hns2 mf ?_) (S.dbg f hf)
  refine spliced_nil ⟨hu, ?_⟩
  refine wpAny_call (codeAny_of_tree ?_)
  show wpAny _ A.in1 (callAny (.ref h1.objs.size) ⟨[v], []⟩) _ _ _
  simp only [callAny]
  refine wpAny_bind (wpAny_load hu ?_)
  simp only [kxs_mw, show (Value.type "method-wrapper" == Value.type "method" || Value.type "method-wrapper" == Value.type "builtin_function_or_method" || Value.type "method-wrapper" == Value.type "method-wrapper") = true by decide, if_true]
  refine KFB.if_so (by decide) ?_
  refine wpAny_bind (check_bound_init F.excBase_ValueError.toExcCallFacts (k2 _ _ (k1 _ _ hC1)) (k2 _ _ hx1) rfl ?_)
  refine wpAny_bind (wpAny_pure (wpAny_pure ?_))
  refine ⟨plainId_quiet F.excBase_ValueError.init.plain _, codeAny_builtin F.excBase_ValueError.initEntry ?_⟩
  refine exc_init_tree (cls := .ref C) (t0 := t0) (dv := none) (c2 := .none) (c3 := .none) (b4 := .bool false) (k2 _ _ hx1) (by show 1 ≤ sizeLine; rw [sizeLine_eq]; decide) (fun h' kk e' t' => ?_)
  exact hq h' _ _ (fun b o hb e => kk b o hb (k2 _ _ (k1 _ _ e))) e'

/-- self.f = f, the first one -/
theorem keep_new (T : ErrK prog K fs C fI fd) {x t0 : Addr} {v : Value} {f : Str} {r1 r2 r3 r4 : Pos} {qual : Str} {scope : Scope} {cda cc L : Addr} {m : Str → Option Value} {Q : Flow → Shared → Prop}
    (S : IniS fs scope) (hf : f ∈ fs) (X : K.In s.heap) (hns : s.heap.Ns L m) (ms : m "self" = some (.ref x)) (mf : m f = some v) (hx : s.heap.get? x = some (excO C t0))
    (hq : ∀ h' tk dx, (∀ b o, b ≠ x → s.heap.get? b = some o → h'.get? b = some o) → s.heap.objs.size ≤ dx → dx ≠ x →
      h'.get? x = some { cls := .ref C, dict := some dx, data := .fields #[.ref t0, .none, .none, .none, .bool false, .none] } →
      h'.Ns1 dx (fun y => if y = f then some v else none) → Q .next { s with heap := h', toks := tk }) :
    wpAny (model prog w) A (exec (keepS f r1 r2 r3 r4) (ksEnv qual scope L fI (.ref cda) cc)) Q E s := by
  obtain ⟨nm, q, N, bs, bm, sn, sub, ab, col, dd, k0, k1, k2, k3, k5, hC, hbm⟩ := T.cls
  have hcl := clsIn_err hC
  refine plainObj_wpAny_Assign_Attribute ?_
  refine wpAny_Name (wpAny_loadName_local S.kind (S.fld f hf) hns mf ?_) (S.dbg f hf)
  refine wpAny_Name (wpAny_loadName_local S.kind S.slf hns ms ?_) (by decide)
  obtain ⟨hh, g, d, tk, os⟩ := s
  refine set_plain X (ox := excO C t0) (od := none) ⟨hx, rfl, rfl, trivial⟩ T.sa ?_
  exact exc_osa X hx hcl (show refsVE (.ref C :: bm) = true from hbm) rfl (T.nof f hf) (fun h3 tk3 dx k3 dn dne hx3 hn3 => hq h3 tk3 dx k3 dn dne hx3 hn3)

/-- self.g = g, a further one -/
theorem keep_old (T : ErrK prog K fs C fI fd) {x t0 dx : Addr} {v : Value} {f : Str} {r1 r2 r3 r4 : Pos} {qual : Str} {scope : Scope} {cda cc L : Addr} {m m0 : Str → Option Value} {nl : List Str} {Q : Flow → Shared → Prop}
    (S : IniS fs scope) (hf : f ∈ fs) (X : K.In s.heap) (hns : s.heap.Ns L m) (ms : m "self" = some (.ref x)) (mf : m f = some v)
    (hx : s.heap.get? x = some { cls := .ref C, dict := some dx, data := .fields #[.ref t0, .none, .none, .none, .bool false, .none] }) (hn : s.heap.Ns1 dx m0) (hw : Within m0 nl) (hz : nl.length ≤ 1000)
    (hq : ∀ h' tk, (∀ b o, b ≠ dx → s.heap.get? b = some o → h'.get? b = some o) → h'.Ns1 dx (fun y => if y = f then some v else m0 y) → Q .next { s with heap := h', toks := tk }) :
    wpAny (model prog w) A (exec (keepS f r1 r2 r3 r4) (ksEnv qual scope L fI (.ref cda) cc)) Q E s := by
  obtain ⟨nm, q, N, bs, bm, sn, sub, ab, col, dd, k0, k1, k2, k3, k5, hC, hbm⟩ := T.cls
  have hcl := clsIn_err hC
  refine plainObj_wpAny_Assign_Attribute ?_
  refine wpAny_Name (wpAny_loadName_local S.kind (S.fld f hf) hns mf ?_) (S.dbg f hf)
  refine wpAny_Name (wpAny_loadName_local S.kind S.slf hns ms ?_) (by decide)
  obtain ⟨oD, esD, epD, hoD, hdD, _⟩ := hn.count hw
  obtain ⟨hh, g, d, tk, os⟩ := s
  refine set_plain X (od := some oD) ⟨hx, rfl, rfl, hoD⟩ T.sa ?_
  exact OEX.osa_old X hx hn hw hz hcl (show refsVE (.ref C :: bm) = true from hbm) rfl (T.nof f hf) (fun h3 tk3 k3 hn3 => hq h3 tk3 k3 hn3)

/-- the whole of __init__ -/
theorem err_init (T : ErrK prog K fs C fI fd) {x t0 : Addr} {vs : List Value} {args : Args} (hl : vs.length = fs.length) (X : K.In s.heap) (hlim : s.heap.NoLimit)
    (hgl : s.heap.Ns mainGlobals mg) (hbl : s.heap.Ns builtinsNs mb) (hbb : ∀ x : Str, x ≠ "__name__" → mb x = bootBuiltins x)
    (hx : s.heap.get? x = some (excO C t0)) (hnx : K.lookup x = none) (hroom : A.depth < recursionLimit)
    (hbind : BindsTo s fd args (("self", .ref x) :: fs.zip vs))
    (hq : ∀ h' tk dx, IniEnd fs vs s.heap h' x C dx → R (.ok (.ret .none)) { s with heap := h', toks := tk }) :
    codeAny (model prog w) A (.call (.ref fI) args) R s := by
  obtain ⟨oc, od, osl, qual, params, body, scope, dV, kV, doc, pm, an, cda, ct, cc, efd, lf, hcd, hcode, hcell, hpar, S, hshape⟩ := T.fn
  have butx : ∀ {h h' : Heap}, K.In h → (∀ b o, b ≠ x → h.get? b = some o → h'.get? b = some o) → K.In h' := fun {h h'} Y k a o e =>
    k a o (fun z => by rw [z, hnx] at e; cases e) (Y a o e)
  have hloc : ∀ y ∈ (("self", .ref x) :: fs.zip vs : List (Str × Value)), scope.names.lookup y.1 = some .local := fun y hy => by
    rcases List.mem_cons.mp hy with z | z
    · rw [z]
      exact S.slf
    · exact S.fld _ (List.of_mem_zip z).1
  subst efd
  refine ks_codeAny_call_defAt (body := body) (binds := ("self", .ref x) :: fs.zip vs) hroom (X _ _ lf) rfl hlim (codeRec_of X hcd) rfl hbind S.nocell hloc (fun h1 hns hk1 => ?_) S.co S.gen S.kind
  have X1 := X.keeps hk1
  have hx1 := hk1 _ _ hx
  have hL : ∀ {h' : Heap}, (∀ b o, b ≠ x → h1.get? b = some o → h'.get? b = some o) → ∀ {m}, h1.Ns s.heap.objs.size m → h'.Ns s.heap.objs.size m := fun {h'} k {m} ⟨o, es, ep, e, r⟩ =>
    ⟨o, es, ep, k _ _ (Nat.ne_of_gt (Heap.lt_size hx)) e, r⟩
  rcases hshape with ⟨f, q1, q2, q3, q4, q5, q6, r1, r2, r3, r4, hpos, rfl, rfl⟩ | ⟨f, g, q1, q2, q3, q4, q5, q6, r1, r2, r3, r4, p1, p2, p3, p4, hpos, rfl, hfg, rfl⟩
  · obtain ⟨v, rfl⟩ : ∃ v, vs = [v] := by
      cases vs with
      | nil => cases hl
      | cons v r =>
        cases r with
        | nil => exact ⟨v, rfl⟩
        | cons _ _ => cases hl
    have nf : (("self" : Str) == f) = false := by simpa using (S.nself f (by simp)).symm
    have ms : ([("self", .ref x), (f, v)] : List (Str × Value)).reverse.lookup ("self" : Str) = some (Value.ref x) := by simp [List.lookup, nf]
    have mf : ([("self", .ref x), (f, v)] : List (Str × Value)).reverse.lookup f = some v := by simp [List.lookup]
    refine ks_wpAt_execs_cons (sup_run T rfl lf hcode hcell hpos hpar S (by simp) X1 (hgl.keeps hk1) (hbl.keeps hk1) hbb hns ms mf hx1 (fun h2 tk2 t2 k2 hx2 => ?_))
    refine ks_wpAt_execs_cons (wpAt_of_wpAny (keep_new T S (by simp) (butx X1 k2) (hL k2 hns) ms mf hx2 (fun h3 tk3 dx k3 dn dne hx3 hn3 => ?_)))
    refine wpAt_of_wpAny (wpAny_execs_nil ?_)
    have z : s.heap.objs.size ≤ dx := Nat.le_of_lt (Nat.lt_of_lt_of_le (hL k2 hns).lt dn)
    exact hq h3 tk3 dx ⟨fun b o hb e => k3 b o hb (k2 b o hb (hk1 b o e)), ⟨_, hx3⟩, z, dne, _, hn3, fun y => look1 f y v⟩
  · obtain ⟨v, u, rfl⟩ : ∃ v u, vs = [v, u] := by
      cases vs with
      | nil => cases hl
      | cons v r =>
        cases r with
        | nil => cases hl
        | cons u r =>
          cases r with
          | nil => exact ⟨v, u, rfl⟩
          | cons _ _ => cases hl
    have nf : (("self" : Str) == f) = false := by simpa using (S.nself f (by simp)).symm
    have ng : (("self" : Str) == g) = false := by simpa using (S.nself g (by simp)).symm
    have fg : (f == g) = false := by simpa using hfg
    have ms : ([("self", .ref x), (f, v), (g, u)] : List (Str × Value)).reverse.lookup ("self" : Str) = some (Value.ref x) := by simp [List.lookup, nf, ng]
    have mf : ([("self", .ref x), (f, v), (g, u)] : List (Str × Value)).reverse.lookup f = some v := by simp [List.lookup, fg]
    have mu : ([("self", .ref x), (f, v), (g, u)] : List (Str × Value)).reverse.lookup g = some u := by simp [List.lookup]
    refine ks_wpAt_execs_cons (sup_run T rfl lf hcode hcell hpos hpar S (by simp) X1 (hgl.keeps hk1) (hbl.keeps hk1) hbb hns ms mf hx1 (fun h2 tk2 t2 k2 hx2 => ?_))
    refine ks_wpAt_execs_cons (wpAt_of_wpAny (keep_new T S (by simp) (butx X1 k2) (hL k2 hns) ms mf hx2 (fun h3 tk3 dx k3 dn dne hx3 hn3 => ?_)))
    have X3 : K.In h3 := butx (butx X1 k2) k3
    have hns3 : h3.Ns s.heap.objs.size _ := hL (fun b o hb e => k3 b o hb (k2 b o hb e)) hns
    refine ks_wpAt_execs_cons (wpAt_of_wpAny (keep_old T S (by simp) X3 hns3 ms mu hx3 hn3 (Within.cons f v Within.nil) (by show 1 ≤ 1000; decide) (fun h4 tk4 k4 hn4 => ?_)))
    refine wpAt_of_wpAny (wpAny_execs_nil ?_)
    have zz : s.heap.objs.size < h2.objs.size := (hL k2 hns).lt
    have z : s.heap.objs.size ≤ dx := Nat.le_of_lt (Nat.lt_of_lt_of_le zz dn)
    have nd : ∀ b o, h2.get? b = some o → b ≠ dx := fun b o e z => absurd (Nat.lt_of_lt_of_le (Heap.lt_size e) dn) (by rw [z]; exact Nat.lt_irrefl _)
    refine hq h4 tk4 dx ⟨fun b o hb e => k4 b o (nd b o (k2 b o hb (hk1 b o e))) (k3 b o hb (k2 b o hb (hk1 b o e))), ⟨_, k4 _ _ (Ne.symm dne) hx3⟩, z, dne, _, hn4, fun y => look2 hfg y v u⟩
end
end PySem.TPX

namespace PySem.TPX
open PySem.W PySem.Calls PyProof.Rows PySem.HandSPX
/-- a made error -/
structure ErrMade (fs : List Str) (vs : List Value) (h h' : Heap) (e C d : Addr) : Prop where
  keep : ∀ b o, h.get? b = some o → h'.get? b = some o
  new : h.objs.size ≤ e
  obj : ∃ oe ws, h'.get? e = some oe ∧ oe.cls = .ref C ∧ oe.dict = some d ∧ oe.data = .fields ws ∧ ws[1]? = some .none ∧ ws[2]? = some .none ∧ 4 < ws.size
  dbig : h.objs.size ≤ d
  dne : d ≠ e
  ns : ∃ mA, h'.Ns1 d mA ∧ ∀ y, mA y = (fs.zip vs).lookup y
section
variable {prog : Program} {w : World} {A : Around} {R : Result → Shared → Prop} {s : Shared} {K : Frag} {mg mb : Str → Option Value} {C fI : Addr} {fs : List Str} {fd : FuncData}
theorem err_made (T : ErrK prog K fs C fI fd) {us vs : List Value} (hl : vs.length = fs.length) (hul : us.length ≤ sizeLine) (X : K.In s.heap) (hlim : s.heap.NoLimit)
    (hgl : s.heap.Ns mainGlobals mg) (hbl : s.heap.Ns builtinsNs mb) (hbb : ∀ x : Str, x ≠ "__name__" → mb x = bootBuiltins x) (hroom : A.depth + 1 < recursionLimit)
    (hbind : ∀ (s : Shared) (x : Addr), K.In s.heap → BindsTo s fd ⟨.ref x :: us, []⟩ (("self", .ref x) :: fs.zip vs))
    (hq : ∀ h' tk e d, ErrMade fs vs s.heap h' e C d → R (.ok (.ret (.ref e))) { s with heap := h', toks := tk }) :
    codeAny (model prog w) A (.call (.ref C) ⟨us, []⟩) R s := by
  obtain ⟨nm, q, N, bs, bm, sn, sub, ab, col, dd, k0, k1, k2, k3, k5, hC, hbm⟩ := T.cls
  obtain ⟨hp, g, dr, tk, os⟩ := s
  have k : ∀ b o, hp.get? b = some o → ((hp.push (kdv_tup us)).push (excO C hp.objs.size)).get? b = some o := fun b o e => Heap.get?_push_of_some _ (Heap.get?_push_of_some _ e)
  have hget : ((hp.push (kdv_tup us)).push (excO C hp.objs.size)).get? (hp.objs.size + 1) = some (excO C hp.objs.size) := by heap_get
  have hnx : K.lookup (hp.objs.size + 1) = none := by
    cases e : K.lookup (hp.objs.size + 1) with
    | none => rfl
    | some o => exact absurd (Nat.lt_of_succ_lt (Heap.lt_size (X _ _ e))) (Nat.lt_irrefl _)
  refine call_own F.excBase_ValueError (fun Z => refsVE_contains Z bm hbm) (X _ _ hC) (looks_findIn X T.iC) (fun self => bind_fn X self T.tI) hul ?_
  refine err_init (s := ⟨(hp.push (kdv_tup us)).push (excO C hp.objs.size), g, dr, tk, os⟩) T hl (X.keeps k) (hlim.keeps k) (hgl.keeps k) (hbl.keeps k) hbb hget hnx ?_ (hbind _ _ (X.keeps k)) fun h' tk' dx I => ?_
  · show A.depth + 1 < recursionLimit
    exact hroom
  · obtain ⟨k', ⟨t1, hx⟩, dn, dne, hns⟩ := I
    have old : ∀ b o, hp.get? b = some o → h'.get? b = some o := fun b o e => k' b o (Nat.ne_of_lt (Nat.lt_succ_of_lt (Heap.lt_size e))) (k b o e)
    have z : hp.objs.size + 1 + 1 ≤ dx := by
      have q := dn
      simp only [Heap.size_push] at q
      exact q
    exact ⟨rfl, hq h' tk' (hp.objs.size + 1) dx ⟨old, Nat.le_succ _, ⟨_, _, hx, rfl, rfl, rfl, rfl, rfl, by show 4 < 6; decide⟩, Nat.le_trans (Nat.le_trans (Nat.le_succ _) (Nat.le_succ _)) z, dne, hns⟩⟩
end
end PySem.TPX

namespace L2.TP
open PySem PySem.Spec PyProof.Rows
theorem relO_zip : ∀ {fs : List Str} {vs : List V} {us : List Value}, Vals vs us → ∀ f, RelO ((fs.zip vs).lookup f) ((fs.zip us).lookup f)
  | [], _, _, _, _ => by simp [RelO]
  | _ :: _, _, _, .nil, _ => by simp [RelO]
  | g :: fs, _, _, .cons r t, f => by
    show RelO (List.lookup f ((g, _) :: fs.zip _)) (List.lookup f ((g, _) :: fs.zip _))
    by_cases h : f = g
    · subst h
      simp only [List.lookup, beq_self_eq_true]
      exact r
    · have q : (f == g) = false := by simpa using h
      simp only [List.lookup, q]
      exact relO_zip t f
/-- what the text says of an error x with the fields fs, whose __init__ takes the defaults dvs where they are left out -/
structure Err (prog : Program) (K : PySem.W.Frag) (mg : Str → Option Value) (x : Str) (fs : List Str) (C : Addr) : Prop where
  ex : ∃ (fI : Addr) (fd : FuncData), PySem.TPX.ErrK prog K fs C fI fd ∧ Binds K fd ("self" :: fs) []
  gC : mg x = some (.ref C)
  kC : PySem.W.keepIn K (.ref C) = true
  bE : PySem.W.subIn K (.ref C) (.type "BaseException") = some true
  tC : PySem.W.typeIn K (.ref C) = some (.type "type")
section
variable {X : Cx} {C : Addr} {x : Str} {fs : List Str}
/-- x(e, ..), an own error -/
def tMkE (C : Addr) (fs : List Str) (ta : TA) : St → Hp → XK → Prop := fun σ H Q => ta σ H fun vs H1 => vs.length = fs.length ∧ ∀ d, H1 d = none → Q (.ref C) (some d) (upd H1 d (.xd (fs.zip vs)))
theorem pmk_err {e : Expr} {es : List Expr} {ta : TA} {p pos : Pos} {k : Nat} (T : Err X.prog X.K X.mg x fs C) (hfs : fs.length ≤ 1000) (hr : Room k X.A) (ha : PA X (e :: es) ta) (hg : Gl X x := by rfl)
    (hdb : (x == ("__debug__" : Str)) = false := by decide)
    (he : starEach (e :: es) X.env = (false, eval e X.env) :: starEach es X.env := by rfl) (hpl : (backTo pos (starEach es X.env)).any (·.1) = false := by rfl) :
    PMk X (.Call (.Name x p) (e :: es) [] pos) (tMkE C fs ta) := by
  intro pins s σ H Q I h
  obtain ⟨fI, fd, TE, hbind⟩ := T.ex
  refine wpAny_Call_Name_kw (ld_glob I hg T.gC ?_ hdb)
  refine PySem.W.callWith_K (h₀ := X.base) I.ok.mod.kin T.kC (thn (ha.run pos pins s σ H _ I h) fun us s1 hh => ?_) he hpl
  obtain ⟨vs, H1, I1, r1, hl, q1⟩ := hh
  refine ⟨I1.kIn, ?_⟩
  show wpAny _ _ (call (.ref C) us) _ _ _
  have hlim := I1.nolimit
  obtain ⟨mb, hmb, hbb⟩ := I1.mod.blt
  have hul : us.length = fs.length := r1.length.symm.trans hl
  have hgl := I1.mod.glob.keeps I1.bk
  have hbl := hmb.keeps I1.bk
  have kin := I1.kIn
  obtain ⟨hp, g, dr, tk, os⟩ := s1
  refine wpAny_call (PySem.TPX.err_made (us := us) (vs := us) TE hul (by rw [hul]; exact Nat.le_trans hfs (by decide)) kin hlim hgl hbl hbb (by have := hr.dp; omega) (fun s' x' kk => ?_) fun h' tk' e d M => ?_)
  · have z := hbind s' (.ref x' :: us) kk (by simp [hul])
    rw [List.append_nil] at z
    exact z
  show MkP X pins σ Q (.ref e) ⟨h', g, dr, tk', os⟩
  obtain ⟨oe, fv, hoe, hc, hd, hdat, h1, _, _⟩ := M.obj
  obtain ⟨mA, hns, hmA⟩ := M.ns
  obtain ⟨G', g1, g2⟩ := restrict h' fun b => decide (b ≠ e)
  have gk : ∀ b, b ≠ e → G'.get? b = h'.get? b := fun b hb => g1 b (decide_eq_true hb)
  have ge : G'.get? e = none := g2 e (by simp)
  have old : ∀ b o, hp.get? b = some o → G'.get? b = some o := fun b o q => (gk b (Nat.ne_of_lt (Nat.lt_of_lt_of_le (Heap.lt_size q) M.new))).trans (M.keep b o q)
  have ob : ObjOk X.prog X.w (upd H1 d (.xd (fs.zip vs))) G' d (.xd (fs.zip vs)) :=
    ⟨mA, hns.at (fun o q => (gk d M.dne).trans q), fun f => by rw [hmA f]; exact relO_zip r1 f⟩
  have J : Inv X pins σ (upd H1 d (.xd (fs.zip vs))) ⟨G', g, dr, tk', os⟩ := I1.laid (t' := tk') old M.dbig ob
  refine ⟨e, oe, fv, ⟨G', g, dr, tk', os⟩, _, .ref C, some d, rfl, J, fun b o q => ?_, ge, hoe, ⟨hc, hd⟩, hdat, h1, ?_, rfl, I1.bare, raises_own T.bE T.tC, q1 d (I1.hok.fresh M.dbig)⟩
  · by_cases hb : b = e
    · have q' : G'.get? b = some o := q
      rw [hb, ge] at q'
      cases q'
    · exact (gk b hb).symm.trans q
  · rw [upd_ne (Ne.symm M.dne)]
    exact I1.hok.fresh M.new
/-- raise x(e, ..) -/
theorem ps_raiseE {e : Expr} {es : List Expr} {ta : TA} {W : WX} {p pos pos2 : Pos} {k : Nat} (hc : X.calm = true) (tk : Takes X W) (T : Err X.prog X.K X.mg x fs C) (hfs : fs.length ≤ 1000) (hr : Room k X.A) (ha : PA X (e :: es) ta)
    (hg : Gl X x := by rfl) (hdb : (x == ("__debug__" : Str)) = false := by decide)
    (he : starEach (e :: es) X.env = (false, eval e X.env) :: starEach es X.env := by rfl) (hpl : (backTo pos (starEach es X.env)).any (·.1) = false := by rfl) :
    PS X (.Raise (some (.Call (.Name x p) (e :: es) [] pos)) none pos2) (fun _ σ H => tMkE C fs ta σ H fun cls d H' => W cls d σ H') := ps_raise hc tk (pmk_err T hfs hr ha hg hdb he hpl)
end
end L2.TP

/-! Layer D: signs and comparisons whose defs are own methods; an own instance on the left, an own instance or an int on the right, or an int on the left. -/
namespace PySem.TPX
open PySem.W PySem.Calls PyProof.Rows
section
variable {prog : Program} {w : World} {M : Model} {A : Around} {E : Value → Shared → Prop} {s : Shared} {K : Frag} {y C dy f : Addr} {i : Int} {t : Tok}
theorem dec_add : Meets (Builtin.«int.__add__» ⟨[.int i t, .ref y], []⟩) (fun _ R s => s.heap.get? y = some (instObj C dy) ∧ R (.ok (.ret Value.notImplemented)) s) :=
  .of_wp fun prog w A R s h => by obtain ⟨hp, g, d, tk, os⟩ := s; obtain ⟨hl, h⟩ := h; wp_walk using wpAny_loadPart' hl; exact ⟨_, rfl, h⟩
theorem dec_sub : Meets (Builtin.«int.__sub__» ⟨[.int i t, .ref y], []⟩) (fun _ R s => s.heap.get? y = some (instObj C dy) ∧ R (.ok (.ret Value.notImplemented)) s) :=
  .of_wp fun prog w A R s h => by obtain ⟨hp, g, d, tk, os⟩ := s; obtain ⟨hl, h⟩ := h; wp_walk using wpAny_loadPart' hl; exact ⟨_, rfl, h⟩
theorem dec_mul : Meets (Builtin.«int.__mul__» ⟨[.int i t, .ref y], []⟩) (fun _ R s => s.heap.get? y = some (instObj C dy) ∧ R (.ok (.ret Value.notImplemented)) s) :=
  .of_wp fun prog w A R s h => by obtain ⟨hp, g, d, tk, os⟩ := s; obtain ⟨hl, h⟩ := h; wp_walk using wpAny_loadPart' hl; exact ⟨_, rfl, h⟩
theorem dec_floordiv : Meets (Builtin.«int.__floordiv__» ⟨[.int i t, .ref y], []⟩) (fun _ R s => s.heap.get? y = some (instObj C dy) ∧ R (.ok (.ret Value.notImplemented)) s) :=
  .of_wp fun prog w A R s h => by obtain ⟨hp, g, d, tk, os⟩ := s; obtain ⟨hl, h⟩ := h; wp_walk using wpAny_loadPart' hl; exact ⟨_, rfl, h⟩
theorem dec_eq : Meets (Builtin.«int.__eq__» ⟨[.int i t, .ref y], []⟩) (fun _ R s => s.heap.get? y = some (instObj C dy) ∧ R (.ok (.ret Value.notImplemented)) s) :=
  .of_wp fun prog w A R s h => by obtain ⟨hp, g, d, tk, os⟩ := s; obtain ⟨hl, h⟩ := h; wp_walk using wpAny_loadPart' hl; exact ⟨_, rfl, h⟩
theorem dec_ne : Meets (Builtin.«int.__ne__» ⟨[.int i t, .ref y], []⟩) (fun _ R s => s.heap.get? y = some (instObj C dy) ∧ R (.ok (.ret Value.notImplemented)) s) :=
  .of_wp fun prog w A R s h => by obtain ⟨hp, g, d, tk, os⟩ := s; obtain ⟨hl, h⟩ := h; wp_walk using wpAny_loadPart' hl; exact ⟨_, rfl, h⟩
theorem dec_lt : Meets (Builtin.«int.__lt__» ⟨[.int i t, .ref y], []⟩) (fun _ R s => s.heap.get? y = some (instObj C dy) ∧ R (.ok (.ret Value.notImplemented)) s) :=
  .of_wp fun prog w A R s h => by obtain ⟨hp, g, d, tk, os⟩ := s; obtain ⟨hl, h⟩ := h; wp_walk using wpAny_loadPart' hl; exact ⟨_, rfl, h⟩
theorem dec_le : Meets (Builtin.«int.__le__» ⟨[.int i t, .ref y], []⟩) (fun _ R s => s.heap.get? y = some (instObj C dy) ∧ R (.ok (.ret Value.notImplemented)) s) :=
  .of_wp fun prog w A R s h => by obtain ⟨hp, g, d, tk, os⟩ := s; obtain ⟨hl, h⟩ := h; wp_walk using wpAny_loadPart' hl; exact ⟨_, rfl, h⟩
theorem dec_gt : Meets (Builtin.«int.__gt__» ⟨[.int i t, .ref y], []⟩) (fun _ R s => s.heap.get? y = some (instObj C dy) ∧ R (.ok (.ret Value.notImplemented)) s) :=
  .of_wp fun prog w A R s h => by obtain ⟨hp, g, d, tk, os⟩ := s; obtain ⟨hl, h⟩ := h; wp_walk using wpAny_loadPart' hl; exact ⟨_, rfl, h⟩
theorem dec_ge : Meets (Builtin.«int.__ge__» ⟨[.int i t, .ref y], []⟩) (fun _ R s => s.heap.get? y = some (instObj C dy) ∧ R (.ok (.ret Value.notImplemented)) s) :=
  .of_wp fun prog w A R s h => by obtain ⟨hp, g, d, tk, os⟩ := s; obtain ⟨hl, h⟩ := h; wp_walk using wpAny_loadPart' hl; exact ⟨_, rfl, h⟩

/-- the left one, an int, declines -/
structure Dec (y C dy : Addr) (name : Str) (id : String) (B : Builtin) : Prop where
  slot : Slot "int" name id
  entry : entryFor table id = some B
  args : ∀ a b : Value, argsOk id ⟨[a, b], []⟩
  meets : ∀ (i : Int) (t : Tok), Meets (B ⟨[.int i t, .ref y], []⟩) (fun _ R s => s.heap.get? y = some (instObj C dy) ∧ R (.ok (.ret Value.notImplemented)) s)

/-- i op y: y's reflected def is called -/
theorem bin_refl {op : Operator} {id : String} {B : Builtin} {cd : ClassData} {rest : List Value} {Q : Value → Shared → Prop} (D : Dec y C dy (PySem.dunder op.info.2) id B) (X : K.In s.heap) (hy : s.heap.get? y = some (instObj C dy)) {od : Option Obj} (I : InstAt s.heap y (instObj C dy) C od)
    (hcd : clsIn K C = some cd) (hm : cd.mro = .ref C :: rest) (hfT : fillsNumberSlot (.type "int") op.info.2 = pure true) (hs0 : findIn K (.ref C) (PySem.dunder op.info.2) = some (some (.ref f0)))
    (hs : findIn K (.ref C) (dunderR op.info.2) = some (some (.ref f))) (hf : isFn K (.ref f) = true) (hsub : subIn K (.ref C) (.type "int") = some false)
    (h : wpAny (model prog w) A (call (.ref f) [.ref y, .int i t]) (W.CmpBack Q) E s) : wpAny (model prog w) A (binaryOp op (.int i t) (.ref y)) Q E s := by
  rcases hi : op.info with ⟨sym, nm⟩
  rw [hi] at D hs0 hs hfT
  dsimp only at D hs0 hs hfT
  have two := ksp_try X I hs hf h
  have one : wpAny (model prog w) A (tryMethod (.int i t) (PySem.dunder nm) (.ref y)) (fun r s' => r = none ∧ s' = s) E s :=
    wpAny_tryMethod_declines (typeIs_int s i t) D.slot (call_meets D.slot (typeIs_int s i t) D.entry (D.args _ _) (D.meets i t) ⟨hy, rfl, rfl, rfl⟩)
  obtain ⟨hh, g, d, tt, os⟩ := s
  have L1 : Looks (model prog w) hh (typeOf (.ref y)) (.ref C) := I.type
  have L2 : Looks (model prog w) hh (typeOf (.int i t)) (.type "int") := Looks.of_pure rfl
  have L3 : Looks (model prog w) hh (fillsNumberSlot (.ref C) nm) true := fills_K X hcd hm hs0
  have L4 : Looks (model prog w) hh (fillsNumberSlot (.type "int") nm) true := Looks.of_pure hfT
  have L5 : Looks (model prog w) hh (isSubtype (.ref C) (.type "int")) false := looks_subIn X hsub
  have L7 : Looks (model prog w) hh (numberSlotInPython (.type "int") nm) false := Looks.of_pure rfl
  have hne : (Value.type "int" == Value.ref C) = false := rfl
  simp only [binaryOp, hi]
  refine wpAny_holding (wpAny_bind ?_)
  unfold binaryOp1
  refine wpAny_bind (L2.at (wpAny_bind (L1.at (wpAny_bind (L4.at ?_)))))
  simp only [hne, Bool.false_eq_true, if_false]
  ksp_lk
  refine wpAny_mono one (fun r s' hr' => ?_) fun _ _ e => e
  obtain ⟨rfl, rfl⟩ := hr'
  ksp_lk
  refine wpAny_mono two (fun r s' hr' => ?_) fun _ _ e => e
  obtain ⟨v, rfl, hq⟩ := hr'
  ksp_lk
  exact hq

/-- i cmp y: y's reflected def is called -/
theorem cmp_refl {op : CmpOp} {id : String} {B : Builtin} {Q : Value → Shared → Prop} (D : Dec y C dy (cmpInfo op).2.1 id B) (hu : A.units < cLine) (X : K.In s.heap) (hy : s.heap.get? y = some (instObj C dy)) {od : Option Obj} (I : InstAt s.heap y (instObj C dy) C od)
    (hs : findIn K (.ref C) (cmpInfo op).2.2 = some (some (.ref f))) (hf : isFn K (.ref f) = true) (hsub : subIn K (.ref C) (.type "int") = some false)
    (h : wpAny (model prog w) A (call (.ref f) [.ref y, .int i t]) (W.CmpBack Q) E s) : wpAny (model prog w) A (richCompare op (.int i t) (.ref y)) Q E s := by
  have two : wpAny (model prog w) A (tryCompare (.ref y) (cmpInfo op).2.2 (.int i t)) (fun r s' => ∃ v, r = some v ∧ Q v s') E s := by
    unfold tryCompare
    refine wpAny_bind (ifBound_K X I hs hf (wpAny_mono h (fun v s' hv => ?_) fun _ _ e => e))
    cases v <;> first | exact hv.elim | exact wpAny_pure ⟨_, rfl, hv⟩
  have one : wpAny (model prog w) A (tryCompare (.int i t) (cmpInfo op).2.1 (.ref y)) (fun r s' => r = none ∧ s' = s) E s := by
    unfold tryCompare
    refine wpAny_bind (wpAny_callSpecialIfBound?_slot (typeIs_int s i t) D.slot (call_meets (Q := fun v s' => v = .notImplemented ∧ s' = s) D.slot (typeIs_int s i t) D.entry (D.args _ _) (D.meets i t) ⟨hy, rfl, rfl⟩ |> fun z => wpAny_mono z (fun v s' hv => ?_) fun _ _ e => e))
    obtain ⟨rfl, rfl⟩ := hv
    exact wpAny_pure ⟨rfl, rfl⟩
  have hone : oneThing? op (.int i t) (.ref y) = none := rfl
  unfold richCompare
  simp only [hone]
  refine wpAny_holding (wpAny_bind (wpAny_cRoomFor hu ?_))
  have L2 : Looks (model prog w) s.heap (typeOf (.int i t)) (.type "int") := Looks.of_pure rfl
  refine wpAny_bind (L2.here (wpAny_bind (I.type.here ?_)))
  rw [if_pos (show (Value.type "int" != Value.ref C) = true from rfl)]
  refine wpAny_bind ((looks_subIn X hsub).here ?_)
  simp only [Bool.false_eq_true, if_false, Bool.not_false, if_true]
  refine wpAny_bind (wpAny_mono one (fun r s' hr' => ?_) fun _ _ e => e)
  obtain ⟨rfl, rfl⟩ := hr'
  refine wpAny_bind (wpAny_mono two (fun r s' hr' => ?_) fun _ _ e => e)
  obtain ⟨v, rfl, hq⟩ := hr'
  exact wpAny_pure hq
end
end PySem.TPX

/-! Layer E: the same over the hand layer. -/
namespace L2.TP
open PySem PySem.Spec PyProof.Rows

/-- the def at f that a slot of the class at C calls -/
structure SlotF (K : PySem.W.Frag) (C : Addr) (name : Str) (f : Addr) : Prop where
  at_ : PySem.W.findIn K (.ref C) name = some (some (.ref f))
  fn : PySem.W.isFn K (.ref f) = true
/-- what a class says so that its signs beside ints are its own -/
structure NumC (K : PySem.W.Frag) (C : Addr) : Prop where
  slf : PySem.W.selfFirst K C = true
  sub1 : PySem.W.subIn K (.type "int") (.ref C) = some false
  sub2 : PySem.W.subIn K (.ref C) (.type "int") = some false

theorem backV {P : Value → Shared → Prop} {z : V} {v : Value} {s' : Shared} (r : RelV z v) (h : P v s') : PySem.W.CmpBack P v s' := by
  cases z with
  | non => cases r; exact h
  | bl b => cases r; exact h
  | int i => obtain ⟨t, rfl⟩ := r; exact h
  | str x => obtain ⟨t, rfl⟩ := r; exact h
  | byt b => obtain ⟨t, rfl⟩ := r; exact h
  | flt b => obtain ⟨t, rfl⟩ := r; exact h
  | ref a => cases r; exact h
  | ty n => cases r; exact h
theorem notFirst_int {K : PySem.W.Frag} {C : Addr} (N : NumC K C) : PySem.W.notFirst K C (.type "int") = true := by
  unfold PySem.W.notFirst
  rw [N.sub1]
  simp
theorem notFirst_self {K : PySem.W.Frag} {C : Addr} : PySem.W.notFirst K C (.ref C) = true := by
  unfold PySem.W.notFirst
  simp

section
variable {X : Cx} {CX : CXT} {k : Nat} {C f fr : Addr} {fd fdr : FuncData} {sp spr : Sp} {p1 p2 q1 q2 : Str} {E : XK} {pins : List (Addr × Obj)} {σ : St} {H : Hp} {s : Shared}

/-- x op y, at least one of them an instance of the class at C, the other one such or an int -/
def rOwnB (C : Addr) (sp spr : Sp) (E : XK) : R2 := fun x y H Q =>
  (∃ a dx fs, x = .ref a ∧ H a = some (.ins C dx fs) ∧ ((∃ b dy gs, y = .ref b ∧ H b = some (.ins C dy gs)) ∨ ∃ i, y = .int i) ∧ sp [x, y] H Q E) ∨
  (∃ i b dy gs, x = .int i ∧ y = .ref b ∧ H b = some (.ins C dy gs) ∧ spr [y, x] H Q E)

theorem inst_of (I : Inv X pins σ H s) {a dx : Addr} {fs : List (Str × V)} (e : H a = some (.ins C dx fs)) : ∃ od, PySem.W.InstAt s.heap a (PySem.W.instObj C dx) C (some od) := by
  obtain ⟨mA, O, _⟩ := ins_get I.hok e
  obtain ⟨od, J, _⟩ := O.look
  exact ⟨od, J⟩
theorem obj_of (I : Inv X pins σ H s) {a dx : Addr} {fs : List (Str × V)} (e : H a = some (.ins C dx fs)) : s.heap.get? a = some (PySem.W.instObj C dx) := by
  obtain ⟨od, J⟩ := inst_of I e
  exact J.at_

theorem op_ownB {op : Operator} {id : String} {B : Builtin} {fo ro : Option Value} (N : NumC X.K C) (S : SlotF X.K C (PySem.dunder op.info.2) f) (R : SlotF X.K C (dunderR op.info.2) fr)
    (t1 : PySem.W.findIn X.K (.type "int") (PySem.dunder op.info.2) = some fo) (t2 : PySem.W.findIn X.K (.type "int") (dunderR op.info.2) = some ro) (hfT : fillsNumberSlot (.type "int") op.info.2 = pure true)
    (D : ∀ y dy, PySem.TPX.Dec y C dy (PySem.dunder op.info.2) id B)
    (F : FnOk X.prog X.w X.K X.mg X.base CX k f fd [p1, p2] sp) (FR : FnOk X.prog X.w X.K X.mg X.base CX k fr fdr [q1, q2] spr)
    (hr : Room k X.A) (hb : Binds X.K fd [p1, p2] []) (hbr : Binds X.K fdr [q1, q2] []) (hx : Passes CX X E) : OpR X (binaryOp op) (rOwnB C sp spr E) := by
  intro pins s σ H x y v u Q I rx ry h
  obtain ⟨m, Fm⟩ := I.fr
  have K0 := I.ok.mod.kin
  rcases h with ⟨a, dx, fs, rfl, ea, hy, hs⟩ | ⟨i, b, dy, gs, rfl, rfl, eb, hs⟩
  · cases rx
    obtain ⟨od, J⟩ := inst_of I ea
    have run : wpAny (model X.prog X.w) X.A (call (.ref f) [.ref a, u]) (PySem.W.CmpBack (EP X pins σ Q)) X.xe s :=
      thn (run_fn (dvs := []) (ds := []) (vs := [.ref a, y]) F hr hb .nil hx I (.cons rfl (.cons ry .nil)) (by rw [List.append_nil]; exact hs)) fun z s' hz => by
        obtain ⟨zv, H', I', rz, q⟩ := hz
        exact backV rz ⟨zv, H', I', rz, q⟩
    rcases hy with ⟨b, dy, gs, rfl, eb⟩ | ⟨i, rfl⟩
    · cases ry
      obtain ⟨od2, J2⟩ := inst_of I eb
      exact PySem.W.binop_K Fm K0 J J2.type N.slf S.at_ S.fn run
    · obtain ⟨t, rfl⟩ := ry
      exact PySem.W.ksp_binT (T := "int") Fm K0 J rfl N.slf S.at_ S.fn R.at_ (.inr ⟨_, rfl⟩) t1 t2 N.sub1 run
  · cases ry
    obtain ⟨t, rfl⟩ := rx
    obtain ⟨od, J⟩ := inst_of I eb
    obtain ⟨cd, rest, hcd, hm⟩ := PySem.W.ksp_first N.slf
    refine PySem.TPX.bin_refl (D b dy) I.kIn (obj_of I eb) J hcd hm hfT S.at_ R.at_ R.fn N.sub2 ?_
    exact thn (run_fn (dvs := []) (ds := []) (vs := [.ref b, .int i]) FR hr hbr .nil hx I (.cons rfl (.cons ⟨t, rfl⟩ .nil)) (by rw [List.append_nil]; exact hs)) fun z s' hz => by
      obtain ⟨zv, H', I', rz, q⟩ := hz
      exact backV rz ⟨zv, H', I', rz, q⟩

theorem op_ownC {op : CmpOp} {id : String} {B : Builtin} (hop : ∀ a b, compareOp op a b = richCompare op a b) (N : NumC X.K C) (S : SlotF X.K C (cmpInfo op).2.1 f) (R : SlotF X.K C (cmpInfo op).2.2 fr)
    (D : ∀ y dy, PySem.TPX.Dec y C dy (cmpInfo op).2.1 id B)
    (F : FnOk X.prog X.w X.K X.mg X.base CX k f fd [p1, p2] sp) (FR : FnOk X.prog X.w X.K X.mg X.base CX k fr fdr [q1, q2] spr)
    (hr : Room k X.A) (hb : Binds X.K fd [p1, p2] []) (hbr : Binds X.K fdr [q1, q2] []) (hx : Passes CX X E) : OpR X (compareOp op) (rOwnB C sp spr E) := by
  intro pins s σ H x y v u Q I rx ry h
  obtain ⟨m, Fm⟩ := I.fr
  have K0 := I.ok.mod.kin
  rw [hop]
  rcases h with ⟨a, dx, fs, rfl, ea, hy, hs⟩ | ⟨i, b, dy, gs, rfl, rfl, eb, hs⟩
  · cases rx
    obtain ⟨od, J⟩ := inst_of I ea
    have run : wpAny (model X.prog X.w) X.A (call (.ref f) [.ref a, u]) (PySem.W.CmpBack (EP X pins σ Q)) X.xe s :=
      thn (run_fn (dvs := []) (ds := []) (vs := [.ref a, y]) F hr hb .nil hx I (.cons rfl (.cons ry .nil)) (by rw [List.append_nil]; exact hs)) fun z s' hz => by
        obtain ⟨zv, H', I', rz, q⟩ := hz
        exact backV rz ⟨zv, H', I', rz, q⟩
    rcases hy with ⟨b, dy, gs, rfl, eb⟩ | ⟨i, rfl⟩
    · cases ry
      obtain ⟨od2, J2⟩ := inst_of I eb
      exact PySem.W.cmp_K hr.units0 Fm K0 J J2.type notFirst_self S.at_ S.fn run
    · obtain ⟨t, rfl⟩ := ry
      exact PySem.W.cmp_K hr.units0 Fm K0 J (PySem.W.Looks.of_pure rfl) (notFirst_int N) S.at_ S.fn run
  · cases ry
    obtain ⟨t, rfl⟩ := rx
    obtain ⟨od, J⟩ := inst_of I eb
    refine PySem.TPX.cmp_refl (D b dy) hr.units0 I.kIn (obj_of I eb) J R.at_ R.fn N.sub2 ?_
    exact thn (run_fn (dvs := []) (ds := []) (vs := [.ref b, .int i]) FR hr hbr .nil hx I (.cons rfl (.cons ⟨t, rfl⟩ .nil)) (by rw [List.append_nil]; exact hs)) fun z s' hz => by
      obtain ⟨zv, H', I', rz, q⟩ := hz
      exact backV rz ⟨zv, H', I', rz, q⟩

/-- - x -/
def rOwnN (C : Addr) (sp : Sp) (E : XK) : V → Hp → VK → Prop := fun x H Q => ∃ a dx fs, x = .ref a ∧ H a = some (.ins C dx fs) ∧ sp [x] H Q E
theorem un_ownN (S : SlotF X.K C "__neg__" f) (F : FnOk X.prog X.w X.K X.mg X.base CX k f fd [p1] sp) (hr : Room k X.A) (hb : Binds X.K fd [p1] []) (hx : Passes CX X E) : UnR X (unaryOp .USub) (rOwnN C sp E) := by
  intro pins s σ H x v Q I rx h
  obtain ⟨a, dx, fs, rfl, ea, hs⟩ := h
  cases rx
  obtain ⟨m, Fm⟩ := I.fr
  obtain ⟨od, J⟩ := inst_of I ea
  exact PySem.W.ksp_neg Fm I.ok.mod.kin J S.at_ S.fn (run_fn (dvs := []) (ds := []) (vs := [.ref a]) F hr hb .nil hx I (.cons rfl .nil) (by rw [List.append_nil]; exact hs))

/-! ### what an int declines -/
theorem Dadd (y C dy : Addr) : PySem.TPX.Dec y C dy (PySem.dunder Operator.Add.info.2) "int.__add__" Builtin.«int.__add__» := ⟨F.slot_int_add, F.entry_int_add, F.args_int_add_2, fun _ _ => PySem.TPX.dec_add⟩
theorem Dsub (y C dy : Addr) : PySem.TPX.Dec y C dy (PySem.dunder Operator.Sub.info.2) "int.__sub__" Builtin.«int.__sub__» := ⟨F.slot_int_sub, F.entry_int_sub, F.args_int_sub_2, fun _ _ => PySem.TPX.dec_sub⟩
theorem Dmul (y C dy : Addr) : PySem.TPX.Dec y C dy (PySem.dunder Operator.Mult.info.2) "int.__mul__" Builtin.«int.__mul__» := ⟨F.slot_int_mul, F.entry_int_mul, F.args_int_mul_2, fun _ _ => PySem.TPX.dec_mul⟩
theorem Dfdiv (y C dy : Addr) : PySem.TPX.Dec y C dy (PySem.dunder Operator.FloorDiv.info.2) "int.__floordiv__" Builtin.«int.__floordiv__» := ⟨F.slot_int_floordiv, F.entry_int_floordiv, F.args_int_floordiv_2, fun _ _ => PySem.TPX.dec_floordiv⟩
theorem Deq (y C dy : Addr) : PySem.TPX.Dec y C dy (cmpInfo .Eq).2.1 "int.__eq__" Builtin.«int.__eq__» := ⟨F.slot_int_eq, F.entry_int_eq, F.args_int_eq_2, fun _ _ => PySem.TPX.dec_eq⟩
theorem Dne (y C dy : Addr) : PySem.TPX.Dec y C dy (cmpInfo .NotEq).2.1 "int.__ne__" Builtin.«int.__ne__» := ⟨F.slot_int_ne, F.entry_int_ne, F.args_int_ne_2, fun _ _ => PySem.TPX.dec_ne⟩
theorem Dlt (y C dy : Addr) : PySem.TPX.Dec y C dy (cmpInfo .Lt).2.1 "int.__lt__" Builtin.«int.__lt__» := ⟨F.slot_int_lt, F.entry_int_lt, F.args_int_lt_2, fun _ _ => PySem.TPX.dec_lt⟩
theorem Dle (y C dy : Addr) : PySem.TPX.Dec y C dy (cmpInfo .LtE).2.1 "int.__le__" Builtin.«int.__le__» := ⟨F.slot_int_le, F.entry_int_le, F.args_int_le_2, fun _ _ => PySem.TPX.dec_le⟩
theorem Dgt (y C dy : Addr) : PySem.TPX.Dec y C dy (cmpInfo .Gt).2.1 "int.__gt__" Builtin.«int.__gt__» := ⟨F.slot_int_gt, F.entry_int_gt, F.args_int_gt_2, fun _ _ => PySem.TPX.dec_gt⟩
theorem Dge (y C dy : Addr) : PySem.TPX.Dec y C dy (cmpInfo .GtE).2.1 "int.__ge__" Builtin.«int.__ge__» := ⟨F.slot_int_ge, F.entry_int_ge, F.args_int_ge_2, fun _ _ => PySem.TPX.dec_ge⟩
end
end L2.TP

/-! Layer F: odds and ends: bindings with defaults, powers of great numbers, isinstance beside an own class, growing heaps, the pot of draws. -/
namespace L2.TP
open PySem PySem.Spec PyProof.Rows
theorem cls_some {K : PySem.W.Frag} {C : Addr} (h : PySem.W.hasDictIn K C = true) : (PySem.W.clsIn K C).isSome = true := by
  obtain ⟨cd, hc, _⟩ := PySem.W.any_some h
  rw [hc]
  rfl
theorem EXM {K : PySem.W.Frag} {C : Addr} {cls : Value} {b : Bool} (h1 : PySem.W.subIn K (.ref C) (.type "BaseException") = some true) (hd : PySem.W.hasDictIn K C = true) (ht : PySem.W.typeIn K (.ref C) = some (.type "type")) (h4 : PySem.W.subIn K cls (.ref C) = some b) : PySem.W.exmOne K cls (.ref C) = some b :=
  PySem.W.exm_ref h1 hd ht h4
/-- every parameter is given, though there are defaults -/
theorem binds_ks {K : PySem.W.Frag} {fd : FuncData} {ps : List Str} {T : Addr} {o : Obj} {its : List Value} {n : Nat} (lT : K.lookup T = some o) (oT : o.data = .seq its.toArray n)
    (h : ∀ us : List Value, us.length = ps.length → ∃ k, bindArgs fd ⟨us, []⟩ = seqItems? (.ref T) >>= k ∧ k (some its.toArray) = pure (ps.zip us)) : Binds K fd ps [] := fun s us X hl => by
  rw [List.append_nil] at hl ⊢
  obtain ⟨k, e1, e2⟩ := h us hl
  refine BindsTo.of_looks fun M => ?_
  rw [e1]
  exact looks_items X lT oT (.of_pure e2)
/-- isinstance(x, C), by the class of x -/
theorem kit_ref {K : PySem.W.Frag} {C : Addr} {t : Value} {b : Bool} (h : (PySem.W.clsIn K C).isSome = true ∧ PySem.W.typeIn K (.ref C) = some (.type "type")) (hs : PySem.W.subIn K t (.ref C) = some b) (hb : t = .ref C → b = true) : PySem.W.kitOne K t (.ref C) = some b := by
  unfold PySem.W.kitOne PySem.W.kitCls
  by_cases e : t = .ref C
  · rw [if_pos (by rw [e]; exact beq_self_eq_true _), hb e]
  · rw [if_neg (by simpa using e)]
    dsimp only
    rw [if_pos (by rw [h.1, h.2]; rfl)]
    exact hs
section
variable {X : Cx}
def CPowW (i j : Int) : Prop := 0 ≤ j ∧ (Builtin.Int.intBits i : Int) * j ≤ 2 ^ 27
theorem op_powW : OpR X (binaryOp .Pow) (rI CPowW fun i j => .int (i ^ j.toNat)) := opI fun _ _ _ _ _ _ _ hc q => pow_int hc.1 hc.2 q

theorem op_sign {CX : CXT} {k : Nat} {C f fr : Addr} {fd fdr : FuncData} {sp spr : Sp} {p1 p2 q1 q2 : Str} {E : XK} {op : Operator} {id : String} {B : Builtin} {n1 n2 : Str} (e1 : PySem.dunder op.info.2 = n1) (e2 : dunderR op.info.2 = n2) (N : NumC X.K C) (S : SlotF X.K C n1 f) (R : SlotF X.K C n2 fr)
    (t1 : ∃ fo, PySem.W.findIn X.K (.type "int") n1 = some fo) (t2 : ∃ ro, PySem.W.findIn X.K (.type "int") n2 = some ro) (hfT : fillsNumberSlot (.type "int") op.info.2 = pure true)
    (D : ∀ y dy, PySem.TPX.Dec y C dy (PySem.dunder op.info.2) id B)
    (F : FnOk X.prog X.w X.K X.mg X.base CX k f fd [p1, p2] sp) (FR : FnOk X.prog X.w X.K X.mg X.base CX k fr fdr [q1, q2] spr)
    (hr : Room k X.A) (hb : Binds X.K fd [p1, p2] []) (hbr : Binds X.K fdr [q1, q2] []) (hx : Passes CX X E) : OpR X (binaryOp op) (rOwnB C sp spr E) := by
  subst e1 e2
  obtain ⟨_, t1⟩ := t1
  obtain ⟨_, t2⟩ := t2
  exact op_ownB N S R t1 t2 hfT D F FR hr hb hbr hx
end
/-! ### growing heaps -/
theorem ext_upd {H : Hp} {p : Addr} {o : HO} (h : H p = none) : Ext H (upd H p o) := Ext.upd h
theorem ext_none {H H' : Hp} {p : Addr} (e : Ext H H') (h : H' p = none) : H p = none := by
  cases q : H p with
  | none => rfl
  | some o =>
    rw [e _ _ q] at h
    cases h
theorem ext_over {G H : Hp} {p : Addr} {o : HO} (e : Ext G H) (h : G p = none) : Ext G (upd H p o) := fun a u q => by
  have z : a ≠ p := fun z => by
    rw [z, h] at q
    cases q
  rw [upd_ne z]
  exact e _ _ q
theorem ext_both {G H : Hp} {p : Addr} {o : HO} (e : Ext G H) : Ext (upd G p o) (upd H p o) := fun a u q => by
  by_cases z : a = p
  · subst z
    rw [upd_same] at q ⊢
    exact q
  · rw [upd_ne z] at q ⊢
    exact e _ _ q
theorem ext_new {H H' : Hp} {x dx : Addr} {o u : HO} (e : Ext H H') (h1 : H x = none) (h2 : H dx = none) : Ext H (upd (upd H' dx o) x u) := ext_over (ext_over e h2) h1

/-! ### the pot of draws: a list of three ints -/
structure Pot (H : Hp) (p : Addr) (n : Nat) : Prop where
  at_ : ∃ a b c : Int, H p = some (.lst [.int a, .int b, .int c]) ∧ 0 ≤ a ∧ 0 ≤ b ∧ b < 2305843009213693952 ∧ 0 ≤ c ∧ c ≤ n
/-- the known part G, the pot beside it -/
structure WP (G : Hp) (p : Addr) (n : Nat) (H : Hp) : Prop where
  ext : Ext G H
  no : G p = none
  pot : Pot H p n
theorem WP.mono {G H : Hp} {p : Addr} {n m : Nat} (w : WP G p n H) (h : n ≤ m) : WP G p m H := by
  obtain ⟨a, b, c, e, h1, h2, h3, h4, h5⟩ := w.pot.at_
  exact ⟨w.ext, w.no, ⟨a, b, c, e, h1, h2, h3, h4, by omega⟩⟩
theorem WP.grow {G H H' : Hp} {p : Addr} {n : Nat} (w : WP G p n H) (e : Ext H H') : WP G p n H' := by
  obtain ⟨a, b, c, q, h⟩ := w.pot.at_
  exact ⟨w.ext.trans e, w.no, ⟨a, b, c, e _ _ q, h⟩⟩
/-- what is new may be known from now on -/
theorem WP.new {G H : Hp} {p x : Addr} {o : HO} {n : Nat} (w : WP G p n H) (h : H x = none) : WP (upd G x o) p n (upd H x o) := by
  obtain ⟨a, b, c, q, h2⟩ := w.pot.at_
  have ne : p ≠ x := ne_of_none q h
  exact ⟨ext_both w.ext, by rw [upd_ne ne]; exact w.no, ⟨a, b, c, by rw [upd_ne ne]; exact q, h2⟩⟩
theorem WP.ne {G H : Hp} {p x : Addr} {n : Nat} (w : WP G p n H) (h : H x = none) : p ≠ x := by
  obtain ⟨a, b, c, q, h2⟩ := w.pot.at_
  exact ne_of_none q h
/-- all of H but the pot may be known -/
def butP (H : Hp) (p : Addr) : Hp := fun b => if b = p then none else H b
theorem butP_ext {H : Hp} {p : Addr} : Ext (butP H p) H := fun a o e => by
  unfold butP at e
  split at e
  · cases e
  · exact e
theorem WP.all {G H : Hp} {p : Addr} {n : Nat} (w : WP G p n H) : WP (butP H p) p n H ∧ Ext G (butP H p) := by
  refine ⟨⟨butP_ext, if_pos rfl, w.pot⟩, fun a o e => ?_⟩
  have z : a ≠ p := fun z => by
    rw [z, w.no] at e
    cases e
  show (if a = p then none else H a) = some o
  rw [if_neg z]
  exact w.ext _ _ e
/-- a draw -/
def spTake : Sp := fun vs H Q _ => ∃ (G : Hp) (p : Addr) (n : Nat) (m : Int), vs = [.ref p, .int m] ∧ WP G p n H ∧ n ≤ 100000 ∧ 0 < m ∧ m ≤ 100000 ∧
  ∀ (r : Int) (H' : Hp), 0 ≤ r → r < m → WP G p (n + 1) H' → Q (.int r) H'
end L2.TP

/-! Layer G: data that is small enough to be shown. -/
namespace L2.TP
open PySem PySem.Spec PyProof.Rows
structure Sm (k w : Nat) (d : PyData) : Prop where
  dep : d.depth ≤ k
  wt : d.weight ≤ w
  short : d.leavesShort 13 = true
  shw : d.showable = true
structure SmA (k w : Nat) (ds : List PyData) : Prop where
  dep : PyData.depthAll ds ≤ k
  wt : PyData.weightAll ds ≤ w
  short : PyData.leavesShortAll 13 ds = true
  shw : PyData.showableAll ds = true
theorem Sm.mono {k k' w w' : Nat} {d : PyData} (h : Sm k w d) (hk : k ≤ k') (hw : w ≤ w') : Sm k' w' d := ⟨Nat.le_trans h.dep hk, Nat.le_trans h.wt hw, h.short, h.shw⟩
theorem SmA.mono {k k' w w' : Nat} {d : List PyData} (h : SmA k w d) (hk : k ≤ k') (hw : w ≤ w') : SmA k' w' d := ⟨Nat.le_trans h.dep hk, Nat.le_trans h.wt hw, h.short, h.shw⟩
theorem SmA.nil {k w : Nat} : SmA k w [] := ⟨Nat.zero_le _, Nat.zero_le _, rfl, rfl⟩
theorem SmA.cons {k w w' : Nat} {d : PyData} {ds : List PyData} (h : Sm k w d) (t : SmA k w' ds) : SmA k (w + 1 + w') (d :: ds) := by
  obtain ⟨a1, a2, a3, a4⟩ := h
  obtain ⟨b1, b2, b3, b4⟩ := t
  refine ⟨?_, ?_, ?_, ?_⟩
  · show max d.depth (PyData.depthAll ds) ≤ k
    omega
  · show d.weight + 1 + PyData.weightAll ds ≤ _
    omega
  · show (d.leavesShort 13 && PyData.leavesShortAll 13 ds) = true
    rw [a3, b3]
    rfl
  · show (d.showable && PyData.showableAll ds) = true
    rw [a4, b4]
    rfl
theorem Sm.tup {k w : Nat} {ds : List PyData} (h : SmA k w ds) : Sm (k + 1) w (.tuple ds) := ⟨by show PyData.depthAll ds + 1 ≤ _; have := h.dep; omega, h.wt, h.short, h.shw⟩
theorem Sm.lst {k w : Nat} {ds : List PyData} (h : SmA k w ds) : Sm (k + 1) w (.list ds) := ⟨by show PyData.depthAll ds + 1 ≤ _; have := h.dep; omega, h.wt, h.short, h.shw⟩
theorem Sm.non {k w : Nat} : Sm k w .none := ⟨Nat.zero_le _, Nat.zero_le _, rfl, rfl⟩
theorem Sm.bl {k w : Nat} (b : Bool) : Sm k w (.bool b) := ⟨Nat.zero_le _, Nat.zero_le _, rfl, rfl⟩
theorem log_lt {i : Int} {k : Nat} (h : i.natAbs < 2 ^ k) (hk : 0 < k) : i.natAbs.log2 < k := by
  by_cases z : i.natAbs = 0
  · rw [z]
    exact hk
  · exact (Nat.log2_lt z).mpr h
theorem Sm.int {k : Nat} {i : Int} (h : i.natAbs < 10 ^ 12) : Sm k 41 (.int i) := by
  have h2 : i.natAbs < 2 ^ 40 := Nat.lt_trans h (by decide)
  have h3 := log_lt h2 (by decide)
  refine ⟨Nat.zero_le _, ?_, ?_, ?_⟩
  · show (if i == 0 then 0 else i.natAbs.log2 + 1) ≤ 41
    split <;> omega
  · exact decide_eq_true (PyData.shown_int_le h)
  · exact decide_eq_true (by omega : i.natAbs.log2 < 1920)
theorem Sm.d40 {d : PyData} {k w : Nat} (s : Sm k w d) (hk : k ≤ 40 := by decide) : d.depth ≤ 40 := Nat.le_trans s.dep hk
theorem Sm.len {d : PyData} {k w : Nat} (s : Sm k w d) (hw : w ≤ 1000000 := by decide) : d.shown.length ≤ sizeLine := PyData.shown_fits (by decide) (by decide) s.short (Nat.le_trans (Nat.le_trans s.wt hw) (by decide))
/-- what repr asks -/
theorem rRepr_of {K : PySem.W.Frag} {H : Hp} {v : V} {d : PyData} {Q : VK} {k w : Nat} (h : Dp K H v d) (s : Sm k w d) (hk : k ≤ 40) (hw : w ≤ 1000000) (q : Q (.str d.shown) H) : rRepr K [v] H Q :=
  ⟨v, d, rfl, h, s.shw, Nat.le_trans s.dep hk, PyData.shown_fits (by decide) (by decide) s.short (Nat.le_trans (Nat.le_trans s.wt hw) (by decide)), q⟩
end L2.TP

namespace K00
open PySem PySem.Spec PyProof.Rows L2 L2.TP
def topS (i : Nat) : Stmt := PySem.Challenge.pw_tapedonce_k00_signs_and_comparisons_of_n.main.body.getD i (.Pass ⟨0, 0, 0, 0⟩)
abbrev s_is_integer : Stmt := topS 6
abbrev N_is_integer : List Str := ["value"]
theorem sc_is_integer : FnScope N_is_integer ["value"] (defScope s_is_integer) := ⟨rfl, rfl, rfl, by decide +kernel, rfl, by decide +kernel, by decide +kernel⟩
abbrev s_is_from : Stmt := topS 7
abbrev N_is_from : List Str := ["value", "low", "high"]
theorem sc_is_from : FnScope N_is_from ["value", "low", "high"] (defScope s_is_from) := ⟨rfl, rfl, rfl, by decide +kernel, rfl, by decide +kernel, by decide +kernel⟩
abbrev s_worth_of : Stmt := topS 12
abbrev N_worth_of : List Str := ["number"]
theorem sc_worth_of : FnScope N_worth_of ["number"] (defScope s_worth_of) := ⟨rfl, rfl, rfl, by decide +kernel, rfl, by decide +kernel, by decide +kernel⟩
abbrev s_is_plain : Stmt := topS 13
abbrev N_is_plain : List Str := ["size", "thing"]
theorem sc_is_plain : FnScope N_is_plain ["size", "thing"] (defScope s_is_plain) := ⟨rfl, rfl, rfl, by decide +kernel, rfl, by decide +kernel, by decide +kernel⟩
abbrev s_quotient : Stmt := topS 14
abbrev N_quotient : List Str := ["one", "other", "what"]
theorem sc_quotient : FnScope N_quotient ["one", "other", "what"] (defScope s_quotient) := ⟨rfl, rfl, rfl, by decide +kernel, rfl, by decide +kernel, by decide +kernel⟩
abbrev s_Number___init__ : Stmt := inClass (topS 15) 0
abbrev N_Number___init__ : List Str := ["self", "size", "worth"]
theorem sc_Number___init__ : FnScope N_Number___init__ ["self", "size", "worth"] (defScope s_Number___init__) := ⟨rfl, rfl, rfl, by decide +kernel, rfl, by decide +kernel, by decide +kernel⟩
abbrev s_Number_size : Stmt := inClass (topS 15) 1
abbrev N_Number_size : List Str := ["self"]
theorem sc_Number_size : FnScope N_Number_size ["self"] (defScope s_Number_size) := ⟨rfl, rfl, rfl, by decide +kernel, rfl, by decide +kernel, by decide +kernel⟩
abbrev s_Number_worth : Stmt := inClass (topS 15) 2
abbrev N_Number_worth : List Str := ["self"]
theorem sc_Number_worth : FnScope N_Number_worth ["self"] (defScope s_Number_worth) := ⟨rfl, rfl, rfl, by decide +kernel, rfl, by decide +kernel, by decide +kernel⟩
abbrev s_Number_rounded : Stmt := inClass (topS 15) 3
abbrev N_Number_rounded : List Str := ["self", "result"]
theorem sc_Number_rounded : FnScope N_Number_rounded ["self", "result"] (defScope s_Number_rounded) := ⟨rfl, rfl, rfl, by decide +kernel, rfl, by decide +kernel, by decide +kernel⟩
abbrev s_Number___add__ : Stmt := inClass (topS 15) 4
abbrev N_Number___add__ : List Str := ["self", "other"]
theorem sc_Number___add__ : FnScope N_Number___add__ ["self", "other"] (defScope s_Number___add__) := ⟨rfl, rfl, rfl, by decide +kernel, rfl, by decide +kernel, by decide +kernel⟩
abbrev s_Number___sub__ : Stmt := inClass (topS 15) 6
abbrev N_Number___sub__ : List Str := ["self", "other"]
theorem sc_Number___sub__ : FnScope N_Number___sub__ ["self", "other"] (defScope s_Number___sub__) := ⟨rfl, rfl, rfl, by decide +kernel, rfl, by decide +kernel, by decide +kernel⟩
abbrev s_Number___mul__ : Stmt := inClass (topS 15) 8
abbrev N_Number___mul__ : List Str := ["self", "other"]
theorem sc_Number___mul__ : FnScope N_Number___mul__ ["self", "other"] (defScope s_Number___mul__) := ⟨rfl, rfl, rfl, by decide +kernel, rfl, by decide +kernel, by decide +kernel⟩
abbrev s_Number___floordiv__ : Stmt := inClass (topS 15) 10
abbrev N_Number___floordiv__ : List Str := ["self", "other"]
theorem sc_Number___floordiv__ : FnScope N_Number___floordiv__ ["self", "other"] (defScope s_Number___floordiv__) := ⟨rfl, rfl, rfl, by decide +kernel, rfl, by decide +kernel, by decide +kernel⟩
abbrev s_Number___radd__ : Stmt := inClass (topS 15) 5
abbrev N_Number___radd__ : List Str := ["self", "other"]
theorem sc_Number___radd__ : FnScope N_Number___radd__ ["self", "other"] (defScope s_Number___radd__) := ⟨rfl, rfl, rfl, by decide +kernel, rfl, by decide +kernel, by decide +kernel⟩
abbrev s_Number___rsub__ : Stmt := inClass (topS 15) 7
abbrev N_Number___rsub__ : List Str := ["self", "other"]
theorem sc_Number___rsub__ : FnScope N_Number___rsub__ ["self", "other"] (defScope s_Number___rsub__) := ⟨rfl, rfl, rfl, by decide +kernel, rfl, by decide +kernel, by decide +kernel⟩
abbrev s_Number___rmul__ : Stmt := inClass (topS 15) 9
abbrev N_Number___rmul__ : List Str := ["self", "other"]
theorem sc_Number___rmul__ : FnScope N_Number___rmul__ ["self", "other"] (defScope s_Number___rmul__) := ⟨rfl, rfl, rfl, by decide +kernel, rfl, by decide +kernel, by decide +kernel⟩
abbrev s_Number___rfloordiv__ : Stmt := inClass (topS 15) 11
abbrev N_Number___rfloordiv__ : List Str := ["self", "other"]
theorem sc_Number___rfloordiv__ : FnScope N_Number___rfloordiv__ ["self", "other"] (defScope s_Number___rfloordiv__) := ⟨rfl, rfl, rfl, by decide +kernel, rfl, by decide +kernel, by decide +kernel⟩
abbrev s_Number___neg__ : Stmt := inClass (topS 15) 12
abbrev N_Number___neg__ : List Str := ["self"]
theorem sc_Number___neg__ : FnScope N_Number___neg__ ["self"] (defScope s_Number___neg__) := ⟨rfl, rfl, rfl, by decide +kernel, rfl, by decide +kernel, by decide +kernel⟩
abbrev s_Number___eq__ : Stmt := inClass (topS 15) 13
abbrev N_Number___eq__ : List Str := ["self", "other"]
theorem sc_Number___eq__ : FnScope N_Number___eq__ ["self", "other"] (defScope s_Number___eq__) := ⟨rfl, rfl, rfl, by decide +kernel, rfl, by decide +kernel, by decide +kernel⟩
abbrev s_Number___ne__ : Stmt := inClass (topS 15) 14
abbrev N_Number___ne__ : List Str := ["self", "other"]
theorem sc_Number___ne__ : FnScope N_Number___ne__ ["self", "other"] (defScope s_Number___ne__) := ⟨rfl, rfl, rfl, by decide +kernel, rfl, by decide +kernel, by decide +kernel⟩
abbrev s_Number___lt__ : Stmt := inClass (topS 15) 15
abbrev N_Number___lt__ : List Str := ["self", "other"]
theorem sc_Number___lt__ : FnScope N_Number___lt__ ["self", "other"] (defScope s_Number___lt__) := ⟨rfl, rfl, rfl, by decide +kernel, rfl, by decide +kernel, by decide +kernel⟩
abbrev s_Number___le__ : Stmt := inClass (topS 15) 16
abbrev N_Number___le__ : List Str := ["self", "other"]
theorem sc_Number___le__ : FnScope N_Number___le__ ["self", "other"] (defScope s_Number___le__) := ⟨rfl, rfl, rfl, by decide +kernel, rfl, by decide +kernel, by decide +kernel⟩
abbrev s_Number___gt__ : Stmt := inClass (topS 15) 17
abbrev N_Number___gt__ : List Str := ["self", "other"]
theorem sc_Number___gt__ : FnScope N_Number___gt__ ["self", "other"] (defScope s_Number___gt__) := ⟨rfl, rfl, rfl, by decide +kernel, rfl, by decide +kernel, by decide +kernel⟩
abbrev s_Number___ge__ : Stmt := inClass (topS 15) 18
abbrev N_Number___ge__ : List Str := ["self", "other"]
theorem sc_Number___ge__ : FnScope N_Number___ge__ ["self", "other"] (defScope s_Number___ge__) := ⟨rfl, rfl, rfl, by decide +kernel, rfl, by decide +kernel, by decide +kernel⟩
abbrev s__law_pot : Stmt := topS 17
abbrev N__law_pot : List Str := ["_law_script", "_law_k", "_law_cell", "_law_own"]
theorem sc__law_pot : FnScope N__law_pot ["_law_script", "_law_k"] (defScope s__law_pot) := ⟨rfl, rfl, rfl, by decide +kernel, rfl, by decide +kernel, by decide +kernel⟩
abbrev s__law_take : Stmt := topS 18
abbrev N__law_take : List Str := ["_law_pot_here", "_law_upto", "_law_digit", "_law_prime", "_law_mixed"]
theorem sc__law_take : FnScope N__law_take ["_law_pot_here", "_law_upto"] (defScope s__law_take) := ⟨rfl, rfl, rfl, by decide +kernel, rfl, by decide +kernel, by decide +kernel⟩
abbrev s__law_of : Stmt := topS 19
abbrev N__law_of : List Str := ["_law_pot_here", "_law_some"]
theorem sc__law_of : FnScope N__law_of ["_law_pot_here", "_law_some"] (defScope s__law_of) := ⟨rfl, rfl, rfl, by decide +kernel, rfl, by decide +kernel, by decide +kernel⟩
abbrev s__law_due : Stmt := topS 20
abbrev N__law_due : List Str := ["_law_sign", "_law_size", "_law_a", "_law_b", "_law_whole"]
theorem sc__law_due : FnScope N__law_due ["_law_sign", "_law_size", "_law_a", "_law_b"] (defScope s__law_due) := ⟨rfl, rfl, rfl, by decide +kernel, rfl, by decide +kernel, by decide +kernel⟩
abbrev s__law_signed : Stmt := topS 21
abbrev N__law_signed : List Str := ["_law_sign", "_law_one", "_law_other"]
theorem sc__law_signed : FnScope N__law_signed ["_law_sign", "_law_one", "_law_other"] (defScope s__law_signed) := ⟨rfl, rfl, rfl, by decide +kernel, rfl, by decide +kernel, by decide +kernel⟩
abbrev s__law_heard : Stmt := topS 22
abbrev N__law_heard : List Str := ["_law_sign", "_law_one", "_law_other", "_law_told", "fault"]
theorem sc__law_heard : FnScope N__law_heard ["_law_sign", "_law_one", "_law_other"] (defScope s__law_heard) := ⟨rfl, rfl, rfl, by decide +kernel, rfl, by decide +kernel, by decide +kernel⟩
abbrev s__law_sign_right : Stmt := topS 23
abbrev N__law_sign_right : List Str := ["_law_sign", "_law_size", "_law_a", "_law_b", "_law_pair", "_law_due_here"]
theorem sc__law_sign_right : FnScope N__law_sign_right ["_law_sign", "_law_size", "_law_a", "_law_b", "_law_pair"] (defScope s__law_sign_right) := ⟨rfl, rfl, rfl, by decide +kernel, rfl, by decide +kernel, by decide +kernel⟩
abbrev s__law_compared : Stmt := topS 24
abbrev N__law_compared : List Str := ["_law_one", "_law_other"]
theorem sc__law_compared : FnScope N__law_compared ["_law_one", "_law_other"] (defScope s__law_compared) := ⟨rfl, rfl, rfl, by decide +kernel, rfl, by decide +kernel, by decide +kernel⟩
abbrev s__law_pair_right : Stmt := topS 25
abbrev N__law_pair_right : List Str := ["_law_size", "_law_a", "_law_b", "_law_one", "_law_other", "_law_pair", "_law_below", "_law_sign"]
theorem sc__law_pair_right : FnScope N__law_pair_right ["_law_size", "_law_a", "_law_b"] (defScope s__law_pair_right) := ⟨rfl, rfl, rfl, by decide +kernel, rfl, by decide +kernel, by decide +kernel⟩
abbrev s__law_chain_right : Stmt := topS 26
abbrev N__law_chain_right : List Str := ["_law_pot_here", "_law_size", "_law_worth", "_law_told", "_law_turn", "_law_b", "_law_way", "_law_sign", "_law_other", "_law_pair", "_law_worths", "_law_due_here"]
theorem sc__law_chain_right : FnScope N__law_chain_right ["_law_pot_here", "_law_size"] (defScope s__law_chain_right) := ⟨rfl, rfl, rfl, by decide +kernel, rfl, by decide +kernel, by decide +kernel⟩
abbrev s__law_right : Stmt := topS 27
abbrev N__law_right : List Str := ["_law_pot_here", "_law_size", "_law_a", "_law_turn", "_law_b"]
theorem sc__law_right : FnScope N__law_right ["_law_pot_here"] (defScope s__law_right) := ⟨rfl, rfl, rfl, by decide +kernel, rfl, by decide +kernel, by decide +kernel⟩
abbrev s_law : Stmt := topS 28
abbrev N_law : List Str := ["_law_script", "_law_k"]
theorem sc_law : FnScope N_law ["_law_script"] (defScope s_law) := ⟨rfl, rfl, rfl, by decide +kernel, rfl, by decide +kernel, by decide +kernel⟩
structure Tx (P : Program) (K : PySem.W.Frag) (mg : Str → Option Value) where
  C_Number : Addr
  Number_mg : mg "Number" = some (.ref C_Number)
  C_Fault : Addr
  Fault_mg : mg "Fault" = some (.ref C_Fault)
  Number_cl : Cls K C_Number
  Number_ty : (PySem.W.clsIn K C_Number).isSome = true ∧ PySem.W.typeIn K (.ref C_Number) = some (.type "type")
  F_is_integer : Addr
  fd_is_integer : FuncData
  is_integer_ok : Fun K "is_integer" "is_integer" s_is_integer F_is_integer fd_is_integer
  b_is_integer : Binds K fd_is_integer ["value"] []
  is_integer_mg : mg "is_integer" = some (.ref F_is_integer)
  F_is_from : Addr
  fd_is_from : FuncData
  is_from_ok : Fun K "is_from" "is_from" s_is_from F_is_from fd_is_from
  b_is_from : Binds K fd_is_from ["value", "low", "high"] []
  is_from_mg : mg "is_from" = some (.ref F_is_from)
  F_worth_of : Addr
  fd_worth_of : FuncData
  worth_of_ok : Fun K "worth_of" "worth_of" s_worth_of F_worth_of fd_worth_of
  b_worth_of : Binds K fd_worth_of ["number"] []
  worth_of_mg : mg "worth_of" = some (.ref F_worth_of)
  F_is_plain : Addr
  fd_is_plain : FuncData
  is_plain_ok : Fun K "is_plain" "is_plain" s_is_plain F_is_plain fd_is_plain
  b_is_plain : Binds K fd_is_plain ["size", "thing"] []
  is_plain_mg : mg "is_plain" = some (.ref F_is_plain)
  F_quotient : Addr
  fd_quotient : FuncData
  quotient_ok : FunD K "quotient" "quotient" (defArgs s_quotient) (defBody s_quotient) (defScope s_quotient) [.non] [] F_quotient fd_quotient
  quotient_mg : mg "quotient" = some (.ref F_quotient)
  F_Number___init__ : Addr
  fd_Number___init__ : FuncData
  Number___init___ok : Fun K "__init__" "Number.__init__" s_Number___init__ F_Number___init__ fd_Number___init__
  b_Number___init__ : Binds K fd_Number___init__ ["self", "size", "worth"] []
  Number___init___sl : SlotF K C_Number "__init__" F_Number___init__
  Number_mk : Mk K C_Number F_Number___init__
  F_Number_size : Addr
  fd_Number_size : FuncData
  Number_size_ok : Fun K "size" "Number.size" s_Number_size F_Number_size fd_Number_size
  b_Number_size : Binds K fd_Number_size ["self"] []
  pr_Number_size : Addr
  Number_size_pr : PropOf K C_Number "size" pr_Number_size F_Number_size
  F_Number_worth : Addr
  fd_Number_worth : FuncData
  Number_worth_ok : Fun K "worth" "Number.worth" s_Number_worth F_Number_worth fd_Number_worth
  b_Number_worth : Binds K fd_Number_worth ["self"] []
  pr_Number_worth : Addr
  Number_worth_pr : PropOf K C_Number "worth" pr_Number_worth F_Number_worth
  F_Number_rounded : Addr
  fd_Number_rounded : FuncData
  Number_rounded_ok : Fun K "rounded" "Number.rounded" s_Number_rounded F_Number_rounded fd_Number_rounded
  b_Number_rounded : Binds K fd_Number_rounded ["self", "result"] []
  Number_rounded_sl : SlotF K C_Number "rounded" F_Number_rounded
  F_Number___add__ : Addr
  fd_Number___add__ : FuncData
  Number___add___ok : Fun K "__add__" "Number.__add__" s_Number___add__ F_Number___add__ fd_Number___add__
  b_Number___add__ : Binds K fd_Number___add__ ["self", "other"] []
  Number___add___sl : SlotF K C_Number "__add__" F_Number___add__
  F_Number___sub__ : Addr
  fd_Number___sub__ : FuncData
  Number___sub___ok : Fun K "__sub__" "Number.__sub__" s_Number___sub__ F_Number___sub__ fd_Number___sub__
  b_Number___sub__ : Binds K fd_Number___sub__ ["self", "other"] []
  Number___sub___sl : SlotF K C_Number "__sub__" F_Number___sub__
  F_Number___mul__ : Addr
  fd_Number___mul__ : FuncData
  Number___mul___ok : Fun K "__mul__" "Number.__mul__" s_Number___mul__ F_Number___mul__ fd_Number___mul__
  b_Number___mul__ : Binds K fd_Number___mul__ ["self", "other"] []
  Number___mul___sl : SlotF K C_Number "__mul__" F_Number___mul__
  F_Number___floordiv__ : Addr
  fd_Number___floordiv__ : FuncData
  Number___floordiv___ok : Fun K "__floordiv__" "Number.__floordiv__" s_Number___floordiv__ F_Number___floordiv__ fd_Number___floordiv__
  b_Number___floordiv__ : Binds K fd_Number___floordiv__ ["self", "other"] []
  Number___floordiv___sl : SlotF K C_Number "__floordiv__" F_Number___floordiv__
  F_Number___radd__ : Addr
  fd_Number___radd__ : FuncData
  Number___radd___ok : Fun K "__radd__" "Number.__radd__" s_Number___radd__ F_Number___radd__ fd_Number___radd__
  b_Number___radd__ : Binds K fd_Number___radd__ ["self", "other"] []
  Number___radd___sl : SlotF K C_Number "__radd__" F_Number___radd__
  F_Number___rsub__ : Addr
  fd_Number___rsub__ : FuncData
  Number___rsub___ok : Fun K "__rsub__" "Number.__rsub__" s_Number___rsub__ F_Number___rsub__ fd_Number___rsub__
  b_Number___rsub__ : Binds K fd_Number___rsub__ ["self", "other"] []
  Number___rsub___sl : SlotF K C_Number "__rsub__" F_Number___rsub__
  F_Number___rmul__ : Addr
  fd_Number___rmul__ : FuncData
  Number___rmul___ok : Fun K "__rmul__" "Number.__rmul__" s_Number___rmul__ F_Number___rmul__ fd_Number___rmul__
  b_Number___rmul__ : Binds K fd_Number___rmul__ ["self", "other"] []
  Number___rmul___sl : SlotF K C_Number "__rmul__" F_Number___rmul__
  F_Number___rfloordiv__ : Addr
  fd_Number___rfloordiv__ : FuncData
  Number___rfloordiv___ok : Fun K "__rfloordiv__" "Number.__rfloordiv__" s_Number___rfloordiv__ F_Number___rfloordiv__ fd_Number___rfloordiv__
  b_Number___rfloordiv__ : Binds K fd_Number___rfloordiv__ ["self", "other"] []
  Number___rfloordiv___sl : SlotF K C_Number "__rfloordiv__" F_Number___rfloordiv__
  F_Number___neg__ : Addr
  fd_Number___neg__ : FuncData
  Number___neg___ok : Fun K "__neg__" "Number.__neg__" s_Number___neg__ F_Number___neg__ fd_Number___neg__
  b_Number___neg__ : Binds K fd_Number___neg__ ["self"] []
  Number___neg___sl : SlotF K C_Number "__neg__" F_Number___neg__
  F_Number___eq__ : Addr
  fd_Number___eq__ : FuncData
  Number___eq___ok : Fun K "__eq__" "Number.__eq__" s_Number___eq__ F_Number___eq__ fd_Number___eq__
  b_Number___eq__ : Binds K fd_Number___eq__ ["self", "other"] []
  Number___eq___sl : SlotF K C_Number "__eq__" F_Number___eq__
  F_Number___ne__ : Addr
  fd_Number___ne__ : FuncData
  Number___ne___ok : Fun K "__ne__" "Number.__ne__" s_Number___ne__ F_Number___ne__ fd_Number___ne__
  b_Number___ne__ : Binds K fd_Number___ne__ ["self", "other"] []
  Number___ne___sl : SlotF K C_Number "__ne__" F_Number___ne__
  F_Number___lt__ : Addr
  fd_Number___lt__ : FuncData
  Number___lt___ok : Fun K "__lt__" "Number.__lt__" s_Number___lt__ F_Number___lt__ fd_Number___lt__
  b_Number___lt__ : Binds K fd_Number___lt__ ["self", "other"] []
  Number___lt___sl : SlotF K C_Number "__lt__" F_Number___lt__
  F_Number___le__ : Addr
  fd_Number___le__ : FuncData
  Number___le___ok : Fun K "__le__" "Number.__le__" s_Number___le__ F_Number___le__ fd_Number___le__
  b_Number___le__ : Binds K fd_Number___le__ ["self", "other"] []
  Number___le___sl : SlotF K C_Number "__le__" F_Number___le__
  F_Number___gt__ : Addr
  fd_Number___gt__ : FuncData
  Number___gt___ok : Fun K "__gt__" "Number.__gt__" s_Number___gt__ F_Number___gt__ fd_Number___gt__
  b_Number___gt__ : Binds K fd_Number___gt__ ["self", "other"] []
  Number___gt___sl : SlotF K C_Number "__gt__" F_Number___gt__
  F_Number___ge__ : Addr
  fd_Number___ge__ : FuncData
  Number___ge___ok : Fun K "__ge__" "Number.__ge__" s_Number___ge__ F_Number___ge__ fd_Number___ge__
  b_Number___ge__ : Binds K fd_Number___ge__ ["self", "other"] []
  Number___ge___sl : SlotF K C_Number "__ge__" F_Number___ge__
  F__law_pot : Addr
  fd__law_pot : FuncData
  _law_pot_ok : Fun K "_law_pot" "_law_pot" s__law_pot F__law_pot fd__law_pot
  b__law_pot : Binds K fd__law_pot ["_law_script", "_law_k"] []
  _law_pot_mg : mg "_law_pot" = some (.ref F__law_pot)
  F__law_take : Addr
  fd__law_take : FuncData
  _law_take_ok : Fun K "_law_take" "_law_take" s__law_take F__law_take fd__law_take
  b__law_take : Binds K fd__law_take ["_law_pot_here", "_law_upto"] []
  _law_take_mg : mg "_law_take" = some (.ref F__law_take)
  F__law_of : Addr
  fd__law_of : FuncData
  _law_of_ok : Fun K "_law_of" "_law_of" s__law_of F__law_of fd__law_of
  b__law_of : Binds K fd__law_of ["_law_pot_here", "_law_some"] []
  _law_of_mg : mg "_law_of" = some (.ref F__law_of)
  F__law_due : Addr
  fd__law_due : FuncData
  _law_due_ok : Fun K "_law_due" "_law_due" s__law_due F__law_due fd__law_due
  b__law_due : Binds K fd__law_due ["_law_sign", "_law_size", "_law_a", "_law_b"] []
  _law_due_mg : mg "_law_due" = some (.ref F__law_due)
  F__law_signed : Addr
  fd__law_signed : FuncData
  _law_signed_ok : Fun K "_law_signed" "_law_signed" s__law_signed F__law_signed fd__law_signed
  b__law_signed : Binds K fd__law_signed ["_law_sign", "_law_one", "_law_other"] []
  _law_signed_mg : mg "_law_signed" = some (.ref F__law_signed)
  F__law_heard : Addr
  fd__law_heard : FuncData
  _law_heard_ok : Fun K "_law_heard" "_law_heard" s__law_heard F__law_heard fd__law_heard
  b__law_heard : Binds K fd__law_heard ["_law_sign", "_law_one", "_law_other"] []
  _law_heard_mg : mg "_law_heard" = some (.ref F__law_heard)
  F__law_sign_right : Addr
  fd__law_sign_right : FuncData
  _law_sign_right_ok : Fun K "_law_sign_right" "_law_sign_right" s__law_sign_right F__law_sign_right fd__law_sign_right
  b__law_sign_right : Binds K fd__law_sign_right ["_law_sign", "_law_size", "_law_a", "_law_b", "_law_pair"] []
  _law_sign_right_mg : mg "_law_sign_right" = some (.ref F__law_sign_right)
  F__law_compared : Addr
  fd__law_compared : FuncData
  _law_compared_ok : Fun K "_law_compared" "_law_compared" s__law_compared F__law_compared fd__law_compared
  b__law_compared : Binds K fd__law_compared ["_law_one", "_law_other"] []
  _law_compared_mg : mg "_law_compared" = some (.ref F__law_compared)
  F__law_pair_right : Addr
  fd__law_pair_right : FuncData
  _law_pair_right_ok : Fun K "_law_pair_right" "_law_pair_right" s__law_pair_right F__law_pair_right fd__law_pair_right
  b__law_pair_right : Binds K fd__law_pair_right ["_law_size", "_law_a", "_law_b"] []
  _law_pair_right_mg : mg "_law_pair_right" = some (.ref F__law_pair_right)
  F__law_chain_right : Addr
  fd__law_chain_right : FuncData
  _law_chain_right_ok : Fun K "_law_chain_right" "_law_chain_right" s__law_chain_right F__law_chain_right fd__law_chain_right
  b__law_chain_right : Binds K fd__law_chain_right ["_law_pot_here", "_law_size"] []
  _law_chain_right_mg : mg "_law_chain_right" = some (.ref F__law_chain_right)
  F__law_right : Addr
  fd__law_right : FuncData
  _law_right_ok : Fun K "_law_right" "_law_right" s__law_right F__law_right fd__law_right
  b__law_right : Binds K fd__law_right ["_law_pot_here"] []
  _law_right_mg : mg "_law_right" = some (.ref F__law_right)
  F_law : Addr
  fd_law : FuncData
  law_ok : Fun K "law" "law" s_law F_law fd_law
  b_law : Binds K fd_law ["_law_script"] []
  law_mg : mg "law" = some (.ref F_law)
  Fault_err : Err P K mg "Fault" ["words", "what"] C_Fault
  Fault_xf : XfC K C_Fault
  Fault_no0 : PySem.W.findIn K (.ref C_Fault) "words" = some none
  Fault_no1 : PySem.W.findIn K (.ref C_Fault) "what" = some none
  Fault_te : PySem.W.exmOne K (.ref C_Fault) (.ref C_Fault) = some true
  b_int : mg "int" = none
  b_bool : mg "bool" = none
  b_abs : mg "abs" = none
  b_len : mg "len" = none
  b_isinstance : mg "isinstance" = none
  b_repr : mg "repr" = none
  b_all : mg "all" = none
  b_range : mg "range" = none
  tk_LEAST_SIZE : Tok
  k_LEAST_SIZE : mg "LEAST_SIZE" = some (.int 2 tk_LEAST_SIZE)
  tk_MOST_SIZE : Tok
  k_MOST_SIZE : mg "MOST_SIZE" = some (.int 4 tk_MOST_SIZE)
  tk_ZERO : Tok
  k_ZERO : mg "ZERO" = some (.str "zero" tk_ZERO)
  x_slf : PySem.W.selfFirst K C_Number = true
  x_s1 : PySem.W.subIn K (.type "int") (.ref C_Number) = some false
  x_s2 : PySem.W.subIn K (.ref C_Number) (.type "int") = some false
  x_s3 : PySem.W.subIn K (.ref C_Number) (.ref C_Number) = some true
  x_nS : PySem.W.findIn K (.ref C_Number) "own_size" = some none
  x_nW : PySem.W.findIn K (.ref C_Number) "own_worth" = some none
  x_iadd : ∃ v, PySem.W.findIn K (.type "int") "__add__" = some v
  x_iradd : ∃ v, PySem.W.findIn K (.type "int") "__radd__" = some v
  x_isub : ∃ v, PySem.W.findIn K (.type "int") "__sub__" = some v
  x_irsub : ∃ v, PySem.W.findIn K (.type "int") "__rsub__" = some v
  x_imul : ∃ v, PySem.W.findIn K (.type "int") "__mul__" = some v
  x_irmul : ∃ v, PySem.W.findIn K (.type "int") "__rmul__" = some v
  x_ifloordiv : ∃ v, PySem.W.findIn K (.type "int") "__floordiv__" = some v
  x_irfloordiv : ∃ v, PySem.W.findIn K (.type "int") "__rfloordiv__" = some v
  x_cc : PySem.W.findIn K (.ref C_Number) "__class__" = some (some (.builtin "object.__class__"))
  x_cg : PySem.W.specialIn K (.builtin "object.__class__") "__get__" = some (some (.builtin "getset_descriptor.__get__"))
  x_ct : PySem.W.takesIn K (.builtin "object.__class__") = some true
  x_cm : PySem.W.mroIn K C_Number (.type "object") = some true
def tx_mk {P : Program} {K : PySem.W.Frag} {h : Heap} {mg : Str → Option Value} {C_Number : Addr} {C_Fault : Addr} {F_is_integer : Addr} {oc_is_integer kV_is_integer dc_is_integer pm_is_integer cd_is_integer ct_is_integer : Value} {od_is_integer an_is_integer : Option Addr} {sl_is_integer : Array (Option Value)} {F_is_from : Addr} {oc_is_from kV_is_from dc_is_from pm_is_from cd_is_from ct_is_from : Value} {od_is_from an_is_from : Option Addr} {sl_is_from : Array (Option Value)} {F_worth_of : Addr} {oc_worth_of kV_worth_of dc_worth_of pm_worth_of cd_worth_of ct_worth_of : Value} {od_worth_of an_worth_of : Option Addr} {sl_worth_of : Array (Option Value)} {F_is_plain : Addr} {oc_is_plain kV_is_plain dc_is_plain pm_is_plain cd_is_plain ct_is_plain : Value} {od_is_plain an_is_plain : Option Addr} {sl_is_plain : Array (Option Value)} {F_quotient : Addr} {oc_quotient kV_quotient dc_quotient pm_quotient cd_quotient ct_quotient : Value} {od_quotient an_quotient : Option Addr} {sl_quotient : Array (Option Value)} {dV_quotient : Value} {tT_quotient : Addr} {to_quotient : Obj} {ti_quotient : List Value} {tn_quotient : Nat} {F_Number___init__ : Addr} {oc_Number___init__ kV_Number___init__ dc_Number___init__ pm_Number___init__ cd_Number___init__ ct_Number___init__ : Value} {od_Number___init__ an_Number___init__ : Option Addr} {sl_Number___init__ : Array (Option Value)} {F_Number_size : Addr} {oc_Number_size kV_Number_size dc_Number_size pm_Number_size cd_Number_size ct_Number_size : Value} {od_Number_size an_Number_size : Option Addr} {sl_Number_size : Array (Option Value)} {pr_Number_size : Addr} {rs_Number_size : List Value} {F_Number_worth : Addr} {oc_Number_worth kV_Number_worth dc_Number_worth pm_Number_worth cd_Number_worth ct_Number_worth : Value} {od_Number_worth an_Number_worth : Option Addr} {sl_Number_worth : Array (Option Value)} {pr_Number_worth : Addr} {rs_Number_worth : List Value} {F_Number_rounded : Addr} {oc_Number_rounded kV_Number_rounded dc_Number_rounded pm_Number_rounded cd_Number_rounded ct_Number_rounded : Value} {od_Number_rounded an_Number_rounded : Option Addr} {sl_Number_rounded : Array (Option Value)} {F_Number___add__ : Addr} {oc_Number___add__ kV_Number___add__ dc_Number___add__ pm_Number___add__ cd_Number___add__ ct_Number___add__ : Value} {od_Number___add__ an_Number___add__ : Option Addr} {sl_Number___add__ : Array (Option Value)} {F_Number___sub__ : Addr} {oc_Number___sub__ kV_Number___sub__ dc_Number___sub__ pm_Number___sub__ cd_Number___sub__ ct_Number___sub__ : Value} {od_Number___sub__ an_Number___sub__ : Option Addr} {sl_Number___sub__ : Array (Option Value)} {F_Number___mul__ : Addr} {oc_Number___mul__ kV_Number___mul__ dc_Number___mul__ pm_Number___mul__ cd_Number___mul__ ct_Number___mul__ : Value} {od_Number___mul__ an_Number___mul__ : Option Addr} {sl_Number___mul__ : Array (Option Value)} {F_Number___floordiv__ : Addr} {oc_Number___floordiv__ kV_Number___floordiv__ dc_Number___floordiv__ pm_Number___floordiv__ cd_Number___floordiv__ ct_Number___floordiv__ : Value} {od_Number___floordiv__ an_Number___floordiv__ : Option Addr} {sl_Number___floordiv__ : Array (Option Value)} {F_Number___radd__ : Addr} {oc_Number___radd__ kV_Number___radd__ dc_Number___radd__ pm_Number___radd__ cd_Number___radd__ ct_Number___radd__ : Value} {od_Number___radd__ an_Number___radd__ : Option Addr} {sl_Number___radd__ : Array (Option Value)} {F_Number___rsub__ : Addr} {oc_Number___rsub__ kV_Number___rsub__ dc_Number___rsub__ pm_Number___rsub__ cd_Number___rsub__ ct_Number___rsub__ : Value} {od_Number___rsub__ an_Number___rsub__ : Option Addr} {sl_Number___rsub__ : Array (Option Value)} {F_Number___rmul__ : Addr} {oc_Number___rmul__ kV_Number___rmul__ dc_Number___rmul__ pm_Number___rmul__ cd_Number___rmul__ ct_Number___rmul__ : Value} {od_Number___rmul__ an_Number___rmul__ : Option Addr} {sl_Number___rmul__ : Array (Option Value)} {F_Number___rfloordiv__ : Addr} {oc_Number___rfloordiv__ kV_Number___rfloordiv__ dc_Number___rfloordiv__ pm_Number___rfloordiv__ cd_Number___rfloordiv__ ct_Number___rfloordiv__ : Value} {od_Number___rfloordiv__ an_Number___rfloordiv__ : Option Addr} {sl_Number___rfloordiv__ : Array (Option Value)} {F_Number___neg__ : Addr} {oc_Number___neg__ kV_Number___neg__ dc_Number___neg__ pm_Number___neg__ cd_Number___neg__ ct_Number___neg__ : Value} {od_Number___neg__ an_Number___neg__ : Option Addr} {sl_Number___neg__ : Array (Option Value)} {F_Number___eq__ : Addr} {oc_Number___eq__ kV_Number___eq__ dc_Number___eq__ pm_Number___eq__ cd_Number___eq__ ct_Number___eq__ : Value} {od_Number___eq__ an_Number___eq__ : Option Addr} {sl_Number___eq__ : Array (Option Value)} {F_Number___ne__ : Addr} {oc_Number___ne__ kV_Number___ne__ dc_Number___ne__ pm_Number___ne__ cd_Number___ne__ ct_Number___ne__ : Value} {od_Number___ne__ an_Number___ne__ : Option Addr} {sl_Number___ne__ : Array (Option Value)} {F_Number___lt__ : Addr} {oc_Number___lt__ kV_Number___lt__ dc_Number___lt__ pm_Number___lt__ cd_Number___lt__ ct_Number___lt__ : Value} {od_Number___lt__ an_Number___lt__ : Option Addr} {sl_Number___lt__ : Array (Option Value)} {F_Number___le__ : Addr} {oc_Number___le__ kV_Number___le__ dc_Number___le__ pm_Number___le__ cd_Number___le__ ct_Number___le__ : Value} {od_Number___le__ an_Number___le__ : Option Addr} {sl_Number___le__ : Array (Option Value)} {F_Number___gt__ : Addr} {oc_Number___gt__ kV_Number___gt__ dc_Number___gt__ pm_Number___gt__ cd_Number___gt__ ct_Number___gt__ : Value} {od_Number___gt__ an_Number___gt__ : Option Addr} {sl_Number___gt__ : Array (Option Value)} {F_Number___ge__ : Addr} {oc_Number___ge__ kV_Number___ge__ dc_Number___ge__ pm_Number___ge__ cd_Number___ge__ ct_Number___ge__ : Value} {od_Number___ge__ an_Number___ge__ : Option Addr} {sl_Number___ge__ : Array (Option Value)} {F__law_pot : Addr} {oc__law_pot kV__law_pot dc__law_pot pm__law_pot cd__law_pot ct__law_pot : Value} {od__law_pot an__law_pot : Option Addr} {sl__law_pot : Array (Option Value)} {F__law_take : Addr} {oc__law_take kV__law_take dc__law_take pm__law_take cd__law_take ct__law_take : Value} {od__law_take an__law_take : Option Addr} {sl__law_take : Array (Option Value)} {F__law_of : Addr} {oc__law_of kV__law_of dc__law_of pm__law_of cd__law_of ct__law_of : Value} {od__law_of an__law_of : Option Addr} {sl__law_of : Array (Option Value)} {F__law_due : Addr} {oc__law_due kV__law_due dc__law_due pm__law_due cd__law_due ct__law_due : Value} {od__law_due an__law_due : Option Addr} {sl__law_due : Array (Option Value)} {F__law_signed : Addr} {oc__law_signed kV__law_signed dc__law_signed pm__law_signed cd__law_signed ct__law_signed : Value} {od__law_signed an__law_signed : Option Addr} {sl__law_signed : Array (Option Value)} {F__law_heard : Addr} {oc__law_heard kV__law_heard dc__law_heard pm__law_heard cd__law_heard ct__law_heard : Value} {od__law_heard an__law_heard : Option Addr} {sl__law_heard : Array (Option Value)} {F__law_sign_right : Addr} {oc__law_sign_right kV__law_sign_right dc__law_sign_right pm__law_sign_right cd__law_sign_right ct__law_sign_right : Value} {od__law_sign_right an__law_sign_right : Option Addr} {sl__law_sign_right : Array (Option Value)} {F__law_compared : Addr} {oc__law_compared kV__law_compared dc__law_compared pm__law_compared cd__law_compared ct__law_compared : Value} {od__law_compared an__law_compared : Option Addr} {sl__law_compared : Array (Option Value)} {F__law_pair_right : Addr} {oc__law_pair_right kV__law_pair_right dc__law_pair_right pm__law_pair_right cd__law_pair_right ct__law_pair_right : Value} {od__law_pair_right an__law_pair_right : Option Addr} {sl__law_pair_right : Array (Option Value)} {F__law_chain_right : Addr} {oc__law_chain_right kV__law_chain_right dc__law_chain_right pm__law_chain_right cd__law_chain_right ct__law_chain_right : Value} {od__law_chain_right an__law_chain_right : Option Addr} {sl__law_chain_right : Array (Option Value)} {F__law_right : Addr} {oc__law_right kV__law_right dc__law_right pm__law_right cd__law_right ct__law_right : Value} {od__law_right an__law_right : Option Addr} {sl__law_right : Array (Option Value)} {F_law : Addr} {oc_law kV_law dc_law pm_law cd_law ct_law : Value} {od_law an_law : Option Addr} {sl_law : Array (Option Value)} {eI_Fault ecd_Fault ecc_Fault : Addr} {eoc_Fault ekV_Fault edc_Fault epm_Fault ect_Fault edV_Fault : Value} {eod_Fault ean_Fault : Option Addr} {esl_Fault : Array (Option Value)} {enm_Fault eq_Fault : Str} {eN_Fault : Addr} {ebs_Fault ebm_Fault : List Value} {esn_Fault : List Str} {esb_Fault : List Value} {eab_Fault : Bool} {ecol_Fault : Option Bool} {edd_Fault : Option Addr} {ek0_Fault ek1_Fault ek2_Fault ek3_Fault ek5_Fault : Option Value} {eccl_Fault : Value} {ecdd_Fault : Option Addr} {evs_Fault : Array Value} {eccs_Fault : Array (Option Value)} {efile_Fault : Str} {etf_Fault : Tok} {ecl_Fault : Value} {ecld_Fault : Option Addr} {ecsl_Fault : Array (Option Value)} {tT_Fault : Addr} {to_Fault : Obj} {ti_Fault : List Value} {tn_Fault : Nat} {tk_LEAST_SIZE : Tok} {tk_MOST_SIZE : Tok} {tk_ZERO : Tok} {vi_add : Option Value} {vr_add : Option Value} {vi_sub : Option Value} {vr_sub : Option Value} {vi_mul : Option Value} {vr_mul : Option Value} {vi_floordiv : Option Value} {vr_floordiv : Option Value} (X : K.In h) (G : h.Ns mainGlobals mg) (hP : (P.main.scope.names.lookup ("super" : Str)).isSome = false ∧ True)
  (a_Number : PySem.W.nsIn K mainGlobals "Number" = some (some (.ref C_Number)))
  (a_Fault : PySem.W.nsIn K mainGlobals "Fault" = some (some (.ref C_Fault)))
  (pg_Number : PySem.W.plainGet K C_Number Str.empty = true)
  (hd_Number : PySem.W.hasDictIn K C_Number = true)
  (po_Number : PySem.W.plainOver K C_Number = true)
  (sa_Number : PySem.W.findIn K (.ref C_Number) "__setattr__" = some (some (.builtin "object.__setattr__")))
  (kc_Number : PySem.W.keepIn K (.ref C_Number) = true)
  (tc_Number : PySem.W.typeIn K (.ref C_Number) = some (.type "type"))
  (mk_Number : PySem.W.makesIn K C_Number = true)
  (g_is_integer : PySem.W.nsIn K mainGlobals "is_integer" = some (some (.ref F_is_integer)))
  (l_is_integer : K.lookup F_is_integer = some ⟨oc_is_integer, od_is_integer, .func (PySem.W.fnOf "is_integer" "is_integer" (defArgs s_is_integer) (defBody s_is_integer) (defScope s_is_integer) .none kV_is_integer dc_is_integer pm_is_integer an_is_integer cd_is_integer ct_is_integer), sl_is_integer⟩)
  (c_is_integer : PySem.W.codeIn K cd_is_integer "is_integer" = true)
  (k_is_integer : PySem.W.keepIn K (.ref F_is_integer) = true)
  (g_is_from : PySem.W.nsIn K mainGlobals "is_from" = some (some (.ref F_is_from)))
  (l_is_from : K.lookup F_is_from = some ⟨oc_is_from, od_is_from, .func (PySem.W.fnOf "is_from" "is_from" (defArgs s_is_from) (defBody s_is_from) (defScope s_is_from) .none kV_is_from dc_is_from pm_is_from an_is_from cd_is_from ct_is_from), sl_is_from⟩)
  (c_is_from : PySem.W.codeIn K cd_is_from "is_from" = true)
  (k_is_from : PySem.W.keepIn K (.ref F_is_from) = true)
  (g_worth_of : PySem.W.nsIn K mainGlobals "worth_of" = some (some (.ref F_worth_of)))
  (l_worth_of : K.lookup F_worth_of = some ⟨oc_worth_of, od_worth_of, .func (PySem.W.fnOf "worth_of" "worth_of" (defArgs s_worth_of) (defBody s_worth_of) (defScope s_worth_of) .none kV_worth_of dc_worth_of pm_worth_of an_worth_of cd_worth_of ct_worth_of), sl_worth_of⟩)
  (c_worth_of : PySem.W.codeIn K cd_worth_of "worth_of" = true)
  (k_worth_of : PySem.W.keepIn K (.ref F_worth_of) = true)
  (g_is_plain : PySem.W.nsIn K mainGlobals "is_plain" = some (some (.ref F_is_plain)))
  (l_is_plain : K.lookup F_is_plain = some ⟨oc_is_plain, od_is_plain, .func (PySem.W.fnOf "is_plain" "is_plain" (defArgs s_is_plain) (defBody s_is_plain) (defScope s_is_plain) .none kV_is_plain dc_is_plain pm_is_plain an_is_plain cd_is_plain ct_is_plain), sl_is_plain⟩)
  (c_is_plain : PySem.W.codeIn K cd_is_plain "is_plain" = true)
  (k_is_plain : PySem.W.keepIn K (.ref F_is_plain) = true)
  (g_quotient : PySem.W.nsIn K mainGlobals "quotient" = some (some (.ref F_quotient)))
  (l_quotient : K.lookup F_quotient = some ⟨oc_quotient, od_quotient, .func (PySem.W.fnOf "quotient" "quotient" (defArgs s_quotient) (defBody s_quotient) (defScope s_quotient) dV_quotient kV_quotient dc_quotient pm_quotient an_quotient cd_quotient ct_quotient), sl_quotient⟩)
  (c_quotient : PySem.W.codeIn K cd_quotient "quotient" = true)
  (k_quotient : PySem.W.keepIn K (.ref F_quotient) = true)
  (dV1_quotient : dV_quotient = .ref tT_quotient)
  (dV2_quotient : K.lookup tT_quotient = some to_quotient)
  (dV3_quotient : to_quotient.data = .seq ti_quotient.toArray tn_quotient)
  (dV4_quotient : Vals [.non] ti_quotient)
  (g_Number___init__ : PySem.W.findIn K (.ref C_Number) "__init__" = some (some (.ref F_Number___init__)))
  (i_Number___init__ : PySem.W.isFn K (.ref F_Number___init__) = true)
  (l_Number___init__ : K.lookup F_Number___init__ = some ⟨oc_Number___init__, od_Number___init__, .func (PySem.W.fnOf "__init__" "Number.__init__" (defArgs s_Number___init__) (defBody s_Number___init__) (defScope s_Number___init__) .none kV_Number___init__ dc_Number___init__ pm_Number___init__ an_Number___init__ cd_Number___init__ ct_Number___init__), sl_Number___init__⟩)
  (c_Number___init__ : PySem.W.codeIn K cd_Number___init__ "Number.__init__" = true)
  (k_Number___init__ : PySem.W.keepIn K (.ref F_Number___init__) = true)
  (g_Number_size : PySem.W.findIn K (.ref C_Number) "size" = some (some (.ref pr_Number_size)))
  (gg_Number_size : PySem.W.specialIn K (.ref pr_Number_size) "__get__" = some (some (.builtin "property.__get__")))
  (gt_Number_size : PySem.W.takesIn K (.ref pr_Number_size) = some true)
  (gr_Number_size : PySem.W.recIn K pr_Number_size "property" = some (.ref F_Number_size :: rs_Number_size))
  (l_Number_size : K.lookup F_Number_size = some ⟨oc_Number_size, od_Number_size, .func (PySem.W.fnOf "size" "Number.size" (defArgs s_Number_size) (defBody s_Number_size) (defScope s_Number_size) .none kV_Number_size dc_Number_size pm_Number_size an_Number_size cd_Number_size ct_Number_size), sl_Number_size⟩)
  (c_Number_size : PySem.W.codeIn K cd_Number_size "Number.size" = true)
  (k_Number_size : PySem.W.keepIn K (.ref F_Number_size) = true)
  (g_Number_worth : PySem.W.findIn K (.ref C_Number) "worth" = some (some (.ref pr_Number_worth)))
  (gg_Number_worth : PySem.W.specialIn K (.ref pr_Number_worth) "__get__" = some (some (.builtin "property.__get__")))
  (gt_Number_worth : PySem.W.takesIn K (.ref pr_Number_worth) = some true)
  (gr_Number_worth : PySem.W.recIn K pr_Number_worth "property" = some (.ref F_Number_worth :: rs_Number_worth))
  (l_Number_worth : K.lookup F_Number_worth = some ⟨oc_Number_worth, od_Number_worth, .func (PySem.W.fnOf "worth" "Number.worth" (defArgs s_Number_worth) (defBody s_Number_worth) (defScope s_Number_worth) .none kV_Number_worth dc_Number_worth pm_Number_worth an_Number_worth cd_Number_worth ct_Number_worth), sl_Number_worth⟩)
  (c_Number_worth : PySem.W.codeIn K cd_Number_worth "Number.worth" = true)
  (k_Number_worth : PySem.W.keepIn K (.ref F_Number_worth) = true)
  (g_Number_rounded : PySem.W.findIn K (.ref C_Number) "rounded" = some (some (.ref F_Number_rounded)))
  (i_Number_rounded : PySem.W.isFn K (.ref F_Number_rounded) = true)
  (l_Number_rounded : K.lookup F_Number_rounded = some ⟨oc_Number_rounded, od_Number_rounded, .func (PySem.W.fnOf "rounded" "Number.rounded" (defArgs s_Number_rounded) (defBody s_Number_rounded) (defScope s_Number_rounded) .none kV_Number_rounded dc_Number_rounded pm_Number_rounded an_Number_rounded cd_Number_rounded ct_Number_rounded), sl_Number_rounded⟩)
  (c_Number_rounded : PySem.W.codeIn K cd_Number_rounded "Number.rounded" = true)
  (k_Number_rounded : PySem.W.keepIn K (.ref F_Number_rounded) = true)
  (g_Number___add__ : PySem.W.findIn K (.ref C_Number) "__add__" = some (some (.ref F_Number___add__)))
  (i_Number___add__ : PySem.W.isFn K (.ref F_Number___add__) = true)
  (l_Number___add__ : K.lookup F_Number___add__ = some ⟨oc_Number___add__, od_Number___add__, .func (PySem.W.fnOf "__add__" "Number.__add__" (defArgs s_Number___add__) (defBody s_Number___add__) (defScope s_Number___add__) .none kV_Number___add__ dc_Number___add__ pm_Number___add__ an_Number___add__ cd_Number___add__ ct_Number___add__), sl_Number___add__⟩)
  (c_Number___add__ : PySem.W.codeIn K cd_Number___add__ "Number.__add__" = true)
  (k_Number___add__ : PySem.W.keepIn K (.ref F_Number___add__) = true)
  (g_Number___sub__ : PySem.W.findIn K (.ref C_Number) "__sub__" = some (some (.ref F_Number___sub__)))
  (i_Number___sub__ : PySem.W.isFn K (.ref F_Number___sub__) = true)
  (l_Number___sub__ : K.lookup F_Number___sub__ = some ⟨oc_Number___sub__, od_Number___sub__, .func (PySem.W.fnOf "__sub__" "Number.__sub__" (defArgs s_Number___sub__) (defBody s_Number___sub__) (defScope s_Number___sub__) .none kV_Number___sub__ dc_Number___sub__ pm_Number___sub__ an_Number___sub__ cd_Number___sub__ ct_Number___sub__), sl_Number___sub__⟩)
  (c_Number___sub__ : PySem.W.codeIn K cd_Number___sub__ "Number.__sub__" = true)
  (k_Number___sub__ : PySem.W.keepIn K (.ref F_Number___sub__) = true)
  (g_Number___mul__ : PySem.W.findIn K (.ref C_Number) "__mul__" = some (some (.ref F_Number___mul__)))
  (i_Number___mul__ : PySem.W.isFn K (.ref F_Number___mul__) = true)
  (l_Number___mul__ : K.lookup F_Number___mul__ = some ⟨oc_Number___mul__, od_Number___mul__, .func (PySem.W.fnOf "__mul__" "Number.__mul__" (defArgs s_Number___mul__) (defBody s_Number___mul__) (defScope s_Number___mul__) .none kV_Number___mul__ dc_Number___mul__ pm_Number___mul__ an_Number___mul__ cd_Number___mul__ ct_Number___mul__), sl_Number___mul__⟩)
  (c_Number___mul__ : PySem.W.codeIn K cd_Number___mul__ "Number.__mul__" = true)
  (k_Number___mul__ : PySem.W.keepIn K (.ref F_Number___mul__) = true)
  (g_Number___floordiv__ : PySem.W.findIn K (.ref C_Number) "__floordiv__" = some (some (.ref F_Number___floordiv__)))
  (i_Number___floordiv__ : PySem.W.isFn K (.ref F_Number___floordiv__) = true)
  (l_Number___floordiv__ : K.lookup F_Number___floordiv__ = some ⟨oc_Number___floordiv__, od_Number___floordiv__, .func (PySem.W.fnOf "__floordiv__" "Number.__floordiv__" (defArgs s_Number___floordiv__) (defBody s_Number___floordiv__) (defScope s_Number___floordiv__) .none kV_Number___floordiv__ dc_Number___floordiv__ pm_Number___floordiv__ an_Number___floordiv__ cd_Number___floordiv__ ct_Number___floordiv__), sl_Number___floordiv__⟩)
  (c_Number___floordiv__ : PySem.W.codeIn K cd_Number___floordiv__ "Number.__floordiv__" = true)
  (k_Number___floordiv__ : PySem.W.keepIn K (.ref F_Number___floordiv__) = true)
  (g_Number___radd__ : PySem.W.findIn K (.ref C_Number) "__radd__" = some (some (.ref F_Number___radd__)))
  (i_Number___radd__ : PySem.W.isFn K (.ref F_Number___radd__) = true)
  (l_Number___radd__ : K.lookup F_Number___radd__ = some ⟨oc_Number___radd__, od_Number___radd__, .func (PySem.W.fnOf "__radd__" "Number.__radd__" (defArgs s_Number___radd__) (defBody s_Number___radd__) (defScope s_Number___radd__) .none kV_Number___radd__ dc_Number___radd__ pm_Number___radd__ an_Number___radd__ cd_Number___radd__ ct_Number___radd__), sl_Number___radd__⟩)
  (c_Number___radd__ : PySem.W.codeIn K cd_Number___radd__ "Number.__radd__" = true)
  (k_Number___radd__ : PySem.W.keepIn K (.ref F_Number___radd__) = true)
  (g_Number___rsub__ : PySem.W.findIn K (.ref C_Number) "__rsub__" = some (some (.ref F_Number___rsub__)))
  (i_Number___rsub__ : PySem.W.isFn K (.ref F_Number___rsub__) = true)
  (l_Number___rsub__ : K.lookup F_Number___rsub__ = some ⟨oc_Number___rsub__, od_Number___rsub__, .func (PySem.W.fnOf "__rsub__" "Number.__rsub__" (defArgs s_Number___rsub__) (defBody s_Number___rsub__) (defScope s_Number___rsub__) .none kV_Number___rsub__ dc_Number___rsub__ pm_Number___rsub__ an_Number___rsub__ cd_Number___rsub__ ct_Number___rsub__), sl_Number___rsub__⟩)
  (c_Number___rsub__ : PySem.W.codeIn K cd_Number___rsub__ "Number.__rsub__" = true)
  (k_Number___rsub__ : PySem.W.keepIn K (.ref F_Number___rsub__) = true)
  (g_Number___rmul__ : PySem.W.findIn K (.ref C_Number) "__rmul__" = some (some (.ref F_Number___rmul__)))
  (i_Number___rmul__ : PySem.W.isFn K (.ref F_Number___rmul__) = true)
  (l_Number___rmul__ : K.lookup F_Number___rmul__ = some ⟨oc_Number___rmul__, od_Number___rmul__, .func (PySem.W.fnOf "__rmul__" "Number.__rmul__" (defArgs s_Number___rmul__) (defBody s_Number___rmul__) (defScope s_Number___rmul__) .none kV_Number___rmul__ dc_Number___rmul__ pm_Number___rmul__ an_Number___rmul__ cd_Number___rmul__ ct_Number___rmul__), sl_Number___rmul__⟩)
  (c_Number___rmul__ : PySem.W.codeIn K cd_Number___rmul__ "Number.__rmul__" = true)
  (k_Number___rmul__ : PySem.W.keepIn K (.ref F_Number___rmul__) = true)
  (g_Number___rfloordiv__ : PySem.W.findIn K (.ref C_Number) "__rfloordiv__" = some (some (.ref F_Number___rfloordiv__)))
  (i_Number___rfloordiv__ : PySem.W.isFn K (.ref F_Number___rfloordiv__) = true)
  (l_Number___rfloordiv__ : K.lookup F_Number___rfloordiv__ = some ⟨oc_Number___rfloordiv__, od_Number___rfloordiv__, .func (PySem.W.fnOf "__rfloordiv__" "Number.__rfloordiv__" (defArgs s_Number___rfloordiv__) (defBody s_Number___rfloordiv__) (defScope s_Number___rfloordiv__) .none kV_Number___rfloordiv__ dc_Number___rfloordiv__ pm_Number___rfloordiv__ an_Number___rfloordiv__ cd_Number___rfloordiv__ ct_Number___rfloordiv__), sl_Number___rfloordiv__⟩)
  (c_Number___rfloordiv__ : PySem.W.codeIn K cd_Number___rfloordiv__ "Number.__rfloordiv__" = true)
  (k_Number___rfloordiv__ : PySem.W.keepIn K (.ref F_Number___rfloordiv__) = true)
  (g_Number___neg__ : PySem.W.findIn K (.ref C_Number) "__neg__" = some (some (.ref F_Number___neg__)))
  (i_Number___neg__ : PySem.W.isFn K (.ref F_Number___neg__) = true)
  (l_Number___neg__ : K.lookup F_Number___neg__ = some ⟨oc_Number___neg__, od_Number___neg__, .func (PySem.W.fnOf "__neg__" "Number.__neg__" (defArgs s_Number___neg__) (defBody s_Number___neg__) (defScope s_Number___neg__) .none kV_Number___neg__ dc_Number___neg__ pm_Number___neg__ an_Number___neg__ cd_Number___neg__ ct_Number___neg__), sl_Number___neg__⟩)
  (c_Number___neg__ : PySem.W.codeIn K cd_Number___neg__ "Number.__neg__" = true)
  (k_Number___neg__ : PySem.W.keepIn K (.ref F_Number___neg__) = true)
  (g_Number___eq__ : PySem.W.findIn K (.ref C_Number) "__eq__" = some (some (.ref F_Number___eq__)))
  (i_Number___eq__ : PySem.W.isFn K (.ref F_Number___eq__) = true)
  (l_Number___eq__ : K.lookup F_Number___eq__ = some ⟨oc_Number___eq__, od_Number___eq__, .func (PySem.W.fnOf "__eq__" "Number.__eq__" (defArgs s_Number___eq__) (defBody s_Number___eq__) (defScope s_Number___eq__) .none kV_Number___eq__ dc_Number___eq__ pm_Number___eq__ an_Number___eq__ cd_Number___eq__ ct_Number___eq__), sl_Number___eq__⟩)
  (c_Number___eq__ : PySem.W.codeIn K cd_Number___eq__ "Number.__eq__" = true)
  (k_Number___eq__ : PySem.W.keepIn K (.ref F_Number___eq__) = true)
  (g_Number___ne__ : PySem.W.findIn K (.ref C_Number) "__ne__" = some (some (.ref F_Number___ne__)))
  (i_Number___ne__ : PySem.W.isFn K (.ref F_Number___ne__) = true)
  (l_Number___ne__ : K.lookup F_Number___ne__ = some ⟨oc_Number___ne__, od_Number___ne__, .func (PySem.W.fnOf "__ne__" "Number.__ne__" (defArgs s_Number___ne__) (defBody s_Number___ne__) (defScope s_Number___ne__) .none kV_Number___ne__ dc_Number___ne__ pm_Number___ne__ an_Number___ne__ cd_Number___ne__ ct_Number___ne__), sl_Number___ne__⟩)
  (c_Number___ne__ : PySem.W.codeIn K cd_Number___ne__ "Number.__ne__" = true)
  (k_Number___ne__ : PySem.W.keepIn K (.ref F_Number___ne__) = true)
  (g_Number___lt__ : PySem.W.findIn K (.ref C_Number) "__lt__" = some (some (.ref F_Number___lt__)))
  (i_Number___lt__ : PySem.W.isFn K (.ref F_Number___lt__) = true)
  (l_Number___lt__ : K.lookup F_Number___lt__ = some ⟨oc_Number___lt__, od_Number___lt__, .func (PySem.W.fnOf "__lt__" "Number.__lt__" (defArgs s_Number___lt__) (defBody s_Number___lt__) (defScope s_Number___lt__) .none kV_Number___lt__ dc_Number___lt__ pm_Number___lt__ an_Number___lt__ cd_Number___lt__ ct_Number___lt__), sl_Number___lt__⟩)
  (c_Number___lt__ : PySem.W.codeIn K cd_Number___lt__ "Number.__lt__" = true)
  (k_Number___lt__ : PySem.W.keepIn K (.ref F_Number___lt__) = true)
  (g_Number___le__ : PySem.W.findIn K (.ref C_Number) "__le__" = some (some (.ref F_Number___le__)))
  (i_Number___le__ : PySem.W.isFn K (.ref F_Number___le__) = true)
  (l_Number___le__ : K.lookup F_Number___le__ = some ⟨oc_Number___le__, od_Number___le__, .func (PySem.W.fnOf "__le__" "Number.__le__" (defArgs s_Number___le__) (defBody s_Number___le__) (defScope s_Number___le__) .none kV_Number___le__ dc_Number___le__ pm_Number___le__ an_Number___le__ cd_Number___le__ ct_Number___le__), sl_Number___le__⟩)
  (c_Number___le__ : PySem.W.codeIn K cd_Number___le__ "Number.__le__" = true)
  (k_Number___le__ : PySem.W.keepIn K (.ref F_Number___le__) = true)
  (g_Number___gt__ : PySem.W.findIn K (.ref C_Number) "__gt__" = some (some (.ref F_Number___gt__)))
  (i_Number___gt__ : PySem.W.isFn K (.ref F_Number___gt__) = true)
  (l_Number___gt__ : K.lookup F_Number___gt__ = some ⟨oc_Number___gt__, od_Number___gt__, .func (PySem.W.fnOf "__gt__" "Number.__gt__" (defArgs s_Number___gt__) (defBody s_Number___gt__) (defScope s_Number___gt__) .none kV_Number___gt__ dc_Number___gt__ pm_Number___gt__ an_Number___gt__ cd_Number___gt__ ct_Number___gt__), sl_Number___gt__⟩)
  (c_Number___gt__ : PySem.W.codeIn K cd_Number___gt__ "Number.__gt__" = true)
  (k_Number___gt__ : PySem.W.keepIn K (.ref F_Number___gt__) = true)
  (g_Number___ge__ : PySem.W.findIn K (.ref C_Number) "__ge__" = some (some (.ref F_Number___ge__)))
  (i_Number___ge__ : PySem.W.isFn K (.ref F_Number___ge__) = true)
  (l_Number___ge__ : K.lookup F_Number___ge__ = some ⟨oc_Number___ge__, od_Number___ge__, .func (PySem.W.fnOf "__ge__" "Number.__ge__" (defArgs s_Number___ge__) (defBody s_Number___ge__) (defScope s_Number___ge__) .none kV_Number___ge__ dc_Number___ge__ pm_Number___ge__ an_Number___ge__ cd_Number___ge__ ct_Number___ge__), sl_Number___ge__⟩)
  (c_Number___ge__ : PySem.W.codeIn K cd_Number___ge__ "Number.__ge__" = true)
  (k_Number___ge__ : PySem.W.keepIn K (.ref F_Number___ge__) = true)
  (g__law_pot : PySem.W.nsIn K mainGlobals "_law_pot" = some (some (.ref F__law_pot)))
  (l__law_pot : K.lookup F__law_pot = some ⟨oc__law_pot, od__law_pot, .func (PySem.W.fnOf "_law_pot" "_law_pot" (defArgs s__law_pot) (defBody s__law_pot) (defScope s__law_pot) .none kV__law_pot dc__law_pot pm__law_pot an__law_pot cd__law_pot ct__law_pot), sl__law_pot⟩)
  (c__law_pot : PySem.W.codeIn K cd__law_pot "_law_pot" = true)
  (k__law_pot : PySem.W.keepIn K (.ref F__law_pot) = true)
  (g__law_take : PySem.W.nsIn K mainGlobals "_law_take" = some (some (.ref F__law_take)))
  (l__law_take : K.lookup F__law_take = some ⟨oc__law_take, od__law_take, .func (PySem.W.fnOf "_law_take" "_law_take" (defArgs s__law_take) (defBody s__law_take) (defScope s__law_take) .none kV__law_take dc__law_take pm__law_take an__law_take cd__law_take ct__law_take), sl__law_take⟩)
  (c__law_take : PySem.W.codeIn K cd__law_take "_law_take" = true)
  (k__law_take : PySem.W.keepIn K (.ref F__law_take) = true)
  (g__law_of : PySem.W.nsIn K mainGlobals "_law_of" = some (some (.ref F__law_of)))
  (l__law_of : K.lookup F__law_of = some ⟨oc__law_of, od__law_of, .func (PySem.W.fnOf "_law_of" "_law_of" (defArgs s__law_of) (defBody s__law_of) (defScope s__law_of) .none kV__law_of dc__law_of pm__law_of an__law_of cd__law_of ct__law_of), sl__law_of⟩)
  (c__law_of : PySem.W.codeIn K cd__law_of "_law_of" = true)
  (k__law_of : PySem.W.keepIn K (.ref F__law_of) = true)
  (g__law_due : PySem.W.nsIn K mainGlobals "_law_due" = some (some (.ref F__law_due)))
  (l__law_due : K.lookup F__law_due = some ⟨oc__law_due, od__law_due, .func (PySem.W.fnOf "_law_due" "_law_due" (defArgs s__law_due) (defBody s__law_due) (defScope s__law_due) .none kV__law_due dc__law_due pm__law_due an__law_due cd__law_due ct__law_due), sl__law_due⟩)
  (c__law_due : PySem.W.codeIn K cd__law_due "_law_due" = true)
  (k__law_due : PySem.W.keepIn K (.ref F__law_due) = true)
  (g__law_signed : PySem.W.nsIn K mainGlobals "_law_signed" = some (some (.ref F__law_signed)))
  (l__law_signed : K.lookup F__law_signed = some ⟨oc__law_signed, od__law_signed, .func (PySem.W.fnOf "_law_signed" "_law_signed" (defArgs s__law_signed) (defBody s__law_signed) (defScope s__law_signed) .none kV__law_signed dc__law_signed pm__law_signed an__law_signed cd__law_signed ct__law_signed), sl__law_signed⟩)
  (c__law_signed : PySem.W.codeIn K cd__law_signed "_law_signed" = true)
  (k__law_signed : PySem.W.keepIn K (.ref F__law_signed) = true)
  (g__law_heard : PySem.W.nsIn K mainGlobals "_law_heard" = some (some (.ref F__law_heard)))
  (l__law_heard : K.lookup F__law_heard = some ⟨oc__law_heard, od__law_heard, .func (PySem.W.fnOf "_law_heard" "_law_heard" (defArgs s__law_heard) (defBody s__law_heard) (defScope s__law_heard) .none kV__law_heard dc__law_heard pm__law_heard an__law_heard cd__law_heard ct__law_heard), sl__law_heard⟩)
  (c__law_heard : PySem.W.codeIn K cd__law_heard "_law_heard" = true)
  (k__law_heard : PySem.W.keepIn K (.ref F__law_heard) = true)
  (g__law_sign_right : PySem.W.nsIn K mainGlobals "_law_sign_right" = some (some (.ref F__law_sign_right)))
  (l__law_sign_right : K.lookup F__law_sign_right = some ⟨oc__law_sign_right, od__law_sign_right, .func (PySem.W.fnOf "_law_sign_right" "_law_sign_right" (defArgs s__law_sign_right) (defBody s__law_sign_right) (defScope s__law_sign_right) .none kV__law_sign_right dc__law_sign_right pm__law_sign_right an__law_sign_right cd__law_sign_right ct__law_sign_right), sl__law_sign_right⟩)
  (c__law_sign_right : PySem.W.codeIn K cd__law_sign_right "_law_sign_right" = true)
  (k__law_sign_right : PySem.W.keepIn K (.ref F__law_sign_right) = true)
  (g__law_compared : PySem.W.nsIn K mainGlobals "_law_compared" = some (some (.ref F__law_compared)))
  (l__law_compared : K.lookup F__law_compared = some ⟨oc__law_compared, od__law_compared, .func (PySem.W.fnOf "_law_compared" "_law_compared" (defArgs s__law_compared) (defBody s__law_compared) (defScope s__law_compared) .none kV__law_compared dc__law_compared pm__law_compared an__law_compared cd__law_compared ct__law_compared), sl__law_compared⟩)
  (c__law_compared : PySem.W.codeIn K cd__law_compared "_law_compared" = true)
  (k__law_compared : PySem.W.keepIn K (.ref F__law_compared) = true)
  (g__law_pair_right : PySem.W.nsIn K mainGlobals "_law_pair_right" = some (some (.ref F__law_pair_right)))
  (l__law_pair_right : K.lookup F__law_pair_right = some ⟨oc__law_pair_right, od__law_pair_right, .func (PySem.W.fnOf "_law_pair_right" "_law_pair_right" (defArgs s__law_pair_right) (defBody s__law_pair_right) (defScope s__law_pair_right) .none kV__law_pair_right dc__law_pair_right pm__law_pair_right an__law_pair_right cd__law_pair_right ct__law_pair_right), sl__law_pair_right⟩)
  (c__law_pair_right : PySem.W.codeIn K cd__law_pair_right "_law_pair_right" = true)
  (k__law_pair_right : PySem.W.keepIn K (.ref F__law_pair_right) = true)
  (g__law_chain_right : PySem.W.nsIn K mainGlobals "_law_chain_right" = some (some (.ref F__law_chain_right)))
  (l__law_chain_right : K.lookup F__law_chain_right = some ⟨oc__law_chain_right, od__law_chain_right, .func (PySem.W.fnOf "_law_chain_right" "_law_chain_right" (defArgs s__law_chain_right) (defBody s__law_chain_right) (defScope s__law_chain_right) .none kV__law_chain_right dc__law_chain_right pm__law_chain_right an__law_chain_right cd__law_chain_right ct__law_chain_right), sl__law_chain_right⟩)
  (c__law_chain_right : PySem.W.codeIn K cd__law_chain_right "_law_chain_right" = true)
  (k__law_chain_right : PySem.W.keepIn K (.ref F__law_chain_right) = true)
  (g__law_right : PySem.W.nsIn K mainGlobals "_law_right" = some (some (.ref F__law_right)))
  (l__law_right : K.lookup F__law_right = some ⟨oc__law_right, od__law_right, .func (PySem.W.fnOf "_law_right" "_law_right" (defArgs s__law_right) (defBody s__law_right) (defScope s__law_right) .none kV__law_right dc__law_right pm__law_right an__law_right cd__law_right ct__law_right), sl__law_right⟩)
  (c__law_right : PySem.W.codeIn K cd__law_right "_law_right" = true)
  (k__law_right : PySem.W.keepIn K (.ref F__law_right) = true)
  (g_law : PySem.W.nsIn K mainGlobals "law" = some (some (.ref F_law)))
  (l_law : K.lookup F_law = some ⟨oc_law, od_law, .func (PySem.W.fnOf "law" "law" (defArgs s_law) (defBody s_law) (defScope s_law) .none kV_law dc_law pm_law an_law cd_law ct_law), sl_law⟩)
  (c_law : PySem.W.codeIn K cd_law "law" = true)
  (k_law : PySem.W.keepIn K (.ref F_law) = true)
  (e1_Fault : K.lookup C_Fault = some (excClassObj enm_Fault eq_Fault C_Fault eN_Fault ebs_Fault ebm_Fault true esn_Fault esb_Fault eab_Fault ecol_Fault edd_Fault ek0_Fault ek1_Fault ek2_Fault ek3_Fault ek5_Fault "ValueError.__new__"))
  (e2_Fault : PySem.HandSPX.refsVE ebm_Fault = true)
  (e3_Fault : PySem.W.findIn K (.ref C_Fault) "__setattr__" = some (some (.builtin "object.__setattr__")))
  (e4_Fault : PySem.W.findIn K (.ref C_Fault) "__init__" = some (some (.ref eI_Fault)))
  (e5_Fault : PySem.W.typeIn K (.ref eI_Fault) = some (.type "function"))
  (e6_Fault : PySem.W.ks_superIn K C_Fault C_Fault "__init__" = some (some (.builtin "ValueError.__init__")))
  (e7_Fault : PySem.W.subIn K (.ref C_Fault) (.type "ValueError") = some true)
  (e8_Fault : PySem.W.mroIn K C_Fault (.ref C_Fault) = some true)
  (ef0_Fault : PySem.W.findIn K (.ref C_Fault) "words" = some none)
  (ef1_Fault : PySem.W.findIn K (.ref C_Fault) "what" = some none)
  (e9_Fault : K.lookup eI_Fault = some ⟨eoc_Fault, eod_Fault, .func (PySem.W.ksFn "__init__" "Fault.__init__" (defArgs (inClass (topS 2) 0)) (defBody (inClass (topS 2) 0)) (defScope (inClass (topS 2) 0)) edV_Fault ekV_Fault edc_Fault epm_Fault ean_Fault (.ref ecd_Fault) ect_Fault ecc_Fault), esl_Fault⟩)
  (ea_Fault : PySem.W.codeIn K (.ref ecd_Fault) "Fault.__init__" = true)
  (eb_Fault : K.lookup ecd_Fault = some ⟨eccl_Fault, ecdd_Fault, .fields evs_Fault, eccs_Fault⟩)
  (ec_Fault : evs_Fault[2]? = some (.str efile_Fault etf_Fault))
  (ed_Fault : ((P.main.file : Str) == efile_Fault) = true)
  (ee_Fault : K.lookup ecc_Fault = some ⟨ecl_Fault, ecld_Fault, .cell (some (.ref C_Fault)), ecsl_Fault⟩)
  (ek_Fault : PySem.W.keepIn K (.ref C_Fault) = true)
  (ex_Fault : PySem.W.subIn K (.ref C_Fault) (.type "BaseException") = some true)
  (et_Fault : PySem.W.typeIn K (.ref C_Fault) = some (.type "type"))
  (eh_Fault : PySem.W.hasDictIn K C_Fault = true)
  (eg_Fault : PySem.W.findIn K (.ref C_Fault) "__getattribute__" = some (some (.builtin "BaseException.__getattribute__")))
  (ei_Fault : PySem.W.findIn K (.ref C_Fault) "__getattr__" = some none)
  (dV1_Fault : edV_Fault = .ref tT_Fault)
  (dV2_Fault : K.lookup tT_Fault = some to_Fault)
  (dV3_Fault : to_Fault.data = .seq ti_Fault.toArray tn_Fault)
  (dV4_Fault : Vals [.non] ti_Fault)
  (z_super : PySem.W.nsIn K mainGlobals "super" = some none)
  (z_tp : PySem.W.nsIn K cStatics "thirdparty.any" = some none)
  (z_int : PySem.W.nsIn K mainGlobals "int" = some none)
  (z_bool : PySem.W.nsIn K mainGlobals "bool" = some none)
  (z_abs : PySem.W.nsIn K mainGlobals "abs" = some none)
  (z_len : PySem.W.nsIn K mainGlobals "len" = some none)
  (z_isinstance : PySem.W.nsIn K mainGlobals "isinstance" = some none)
  (z_repr : PySem.W.nsIn K mainGlobals "repr" = some none)
  (z_all : PySem.W.nsIn K mainGlobals "all" = some none)
  (z_range : PySem.W.nsIn K mainGlobals "range" = some none)
  (q_LEAST_SIZE : PySem.W.nsIn K mainGlobals "LEAST_SIZE" = some (some (.int 2 tk_LEAST_SIZE)))
  (q_MOST_SIZE : PySem.W.nsIn K mainGlobals "MOST_SIZE" = some (some (.int 4 tk_MOST_SIZE)))
  (q_ZERO : PySem.W.nsIn K mainGlobals "ZERO" = some (some (.str "zero" tk_ZERO)))
  (x_slf : PySem.W.selfFirst K C_Number = true)
  (x_s1 : PySem.W.subIn K (.type "int") (.ref C_Number) = some false)
  (x_s2 : PySem.W.subIn K (.ref C_Number) (.type "int") = some false)
  (x_s3 : PySem.W.subIn K (.ref C_Number) (.ref C_Number) = some true)
  (x_nS : PySem.W.findIn K (.ref C_Number) "own_size" = some none)
  (x_nW : PySem.W.findIn K (.ref C_Number) "own_worth" = some none)
  (x_iadd : PySem.W.findIn K (.type "int") "__add__" = some vi_add)
  (x_iradd : PySem.W.findIn K (.type "int") "__radd__" = some vr_add)
  (x_isub : PySem.W.findIn K (.type "int") "__sub__" = some vi_sub)
  (x_irsub : PySem.W.findIn K (.type "int") "__rsub__" = some vr_sub)
  (x_imul : PySem.W.findIn K (.type "int") "__mul__" = some vi_mul)
  (x_irmul : PySem.W.findIn K (.type "int") "__rmul__" = some vr_mul)
  (x_ifloordiv : PySem.W.findIn K (.type "int") "__floordiv__" = some vi_floordiv)
  (x_irfloordiv : PySem.W.findIn K (.type "int") "__rfloordiv__" = some vr_floordiv)
  (x_cc : PySem.W.findIn K (.ref C_Number) "__class__" = some (some (.builtin "object.__class__")))
  (x_cg : PySem.W.specialIn K (.builtin "object.__class__") "__get__" = some (some (.builtin "getset_descriptor.__get__")))
  (x_ct : PySem.W.takesIn K (.builtin "object.__class__") = some true)
  (x_cm : PySem.W.mroIn K C_Number (.type "object") = some true) : Tx P K mg where
  C_Number := C_Number
  Number_mg := PySem.W.mg_of X G a_Number
  C_Fault := C_Fault
  Fault_mg := PySem.W.mg_of X G a_Fault
  Number_cl := ⟨pg_Number, hd_Number, po_Number, sa_Number⟩
  Number_ty := ⟨cls_some hd_Number, tc_Number⟩
  F_is_integer := F_is_integer
  fd_is_integer := (PySem.W.fnOf "is_integer" "is_integer" (defArgs s_is_integer) (defBody s_is_integer) (defScope s_is_integer) .none kV_is_integer dc_is_integer pm_is_integer an_is_integer cd_is_integer ct_is_integer)
  is_integer_ok := fun_mk l_is_integer c_is_integer k_is_integer
  b_is_integer := (fun_mk (st := s_is_integer) l_is_integer c_is_integer k_is_integer).binds (ps := ["value"]) fun _ _ _ _ _ _ us hl => match us, hl with | [_], _ => rfl
  is_integer_mg := PySem.W.mg_of X G g_is_integer
  F_is_from := F_is_from
  fd_is_from := (PySem.W.fnOf "is_from" "is_from" (defArgs s_is_from) (defBody s_is_from) (defScope s_is_from) .none kV_is_from dc_is_from pm_is_from an_is_from cd_is_from ct_is_from)
  is_from_ok := fun_mk l_is_from c_is_from k_is_from
  b_is_from := (fun_mk (st := s_is_from) l_is_from c_is_from k_is_from).binds (ps := ["value", "low", "high"]) fun _ _ _ _ _ _ us hl => match us, hl with | [_, _, _], _ => rfl
  is_from_mg := PySem.W.mg_of X G g_is_from
  F_worth_of := F_worth_of
  fd_worth_of := (PySem.W.fnOf "worth_of" "worth_of" (defArgs s_worth_of) (defBody s_worth_of) (defScope s_worth_of) .none kV_worth_of dc_worth_of pm_worth_of an_worth_of cd_worth_of ct_worth_of)
  worth_of_ok := fun_mk l_worth_of c_worth_of k_worth_of
  b_worth_of := (fun_mk (st := s_worth_of) l_worth_of c_worth_of k_worth_of).binds (ps := ["number"]) fun _ _ _ _ _ _ us hl => match us, hl with | [_], _ => rfl
  worth_of_mg := PySem.W.mg_of X G g_worth_of
  F_is_plain := F_is_plain
  fd_is_plain := (PySem.W.fnOf "is_plain" "is_plain" (defArgs s_is_plain) (defBody s_is_plain) (defScope s_is_plain) .none kV_is_plain dc_is_plain pm_is_plain an_is_plain cd_is_plain ct_is_plain)
  is_plain_ok := fun_mk l_is_plain c_is_plain k_is_plain
  b_is_plain := (fun_mk (st := s_is_plain) l_is_plain c_is_plain k_is_plain).binds (ps := ["size", "thing"]) fun _ _ _ _ _ _ us hl => match us, hl with | [_, _], _ => rfl
  is_plain_mg := PySem.W.mg_of X G g_is_plain
  F_quotient := F_quotient
  fd_quotient := (PySem.W.fnOf "quotient" "quotient" (defArgs s_quotient) (defBody s_quotient) (defScope s_quotient) dV_quotient kV_quotient dc_quotient pm_quotient an_quotient cd_quotient ct_quotient)
  quotient_ok := ⟨⟨_, _, _, _, _, _, _, _, _, _, rfl, l_quotient, c_quotient, .inr ⟨by simp, _, _, _, _, dV1_quotient, dV2_quotient, dV3_quotient, dV4_quotient⟩, .inl rfl⟩, k_quotient⟩
  quotient_mg := PySem.W.mg_of X G g_quotient
  F_Number___init__ := F_Number___init__
  fd_Number___init__ := (PySem.W.fnOf "__init__" "Number.__init__" (defArgs s_Number___init__) (defBody s_Number___init__) (defScope s_Number___init__) .none kV_Number___init__ dc_Number___init__ pm_Number___init__ an_Number___init__ cd_Number___init__ ct_Number___init__)
  Number___init___ok := fun_mk l_Number___init__ c_Number___init__ k_Number___init__
  b_Number___init__ := (fun_mk (st := s_Number___init__) l_Number___init__ c_Number___init__ k_Number___init__).binds (ps := ["self", "size", "worth"]) fun _ _ _ _ _ _ us hl => match us, hl with | [_, _, _], _ => rfl
  Number___init___sl := ⟨g_Number___init__, i_Number___init__⟩
  Number_mk := ⟨mk_Number, g_Number___init__, i_Number___init__, kc_Number⟩
  F_Number_size := F_Number_size
  fd_Number_size := (PySem.W.fnOf "size" "Number.size" (defArgs s_Number_size) (defBody s_Number_size) (defScope s_Number_size) .none kV_Number_size dc_Number_size pm_Number_size an_Number_size cd_Number_size ct_Number_size)
  Number_size_ok := fun_mk l_Number_size c_Number_size k_Number_size
  b_Number_size := (fun_mk (st := s_Number_size) l_Number_size c_Number_size k_Number_size).binds (ps := ["self"]) fun _ _ _ _ _ _ us hl => match us, hl with | [_], _ => rfl
  pr_Number_size := pr_Number_size
  Number_size_pr := ⟨g_Number_size, gg_Number_size, gt_Number_size, _, gr_Number_size⟩
  F_Number_worth := F_Number_worth
  fd_Number_worth := (PySem.W.fnOf "worth" "Number.worth" (defArgs s_Number_worth) (defBody s_Number_worth) (defScope s_Number_worth) .none kV_Number_worth dc_Number_worth pm_Number_worth an_Number_worth cd_Number_worth ct_Number_worth)
  Number_worth_ok := fun_mk l_Number_worth c_Number_worth k_Number_worth
  b_Number_worth := (fun_mk (st := s_Number_worth) l_Number_worth c_Number_worth k_Number_worth).binds (ps := ["self"]) fun _ _ _ _ _ _ us hl => match us, hl with | [_], _ => rfl
  pr_Number_worth := pr_Number_worth
  Number_worth_pr := ⟨g_Number_worth, gg_Number_worth, gt_Number_worth, _, gr_Number_worth⟩
  F_Number_rounded := F_Number_rounded
  fd_Number_rounded := (PySem.W.fnOf "rounded" "Number.rounded" (defArgs s_Number_rounded) (defBody s_Number_rounded) (defScope s_Number_rounded) .none kV_Number_rounded dc_Number_rounded pm_Number_rounded an_Number_rounded cd_Number_rounded ct_Number_rounded)
  Number_rounded_ok := fun_mk l_Number_rounded c_Number_rounded k_Number_rounded
  b_Number_rounded := (fun_mk (st := s_Number_rounded) l_Number_rounded c_Number_rounded k_Number_rounded).binds (ps := ["self", "result"]) fun _ _ _ _ _ _ us hl => match us, hl with | [_, _], _ => rfl
  Number_rounded_sl := ⟨g_Number_rounded, i_Number_rounded⟩
  F_Number___add__ := F_Number___add__
  fd_Number___add__ := (PySem.W.fnOf "__add__" "Number.__add__" (defArgs s_Number___add__) (defBody s_Number___add__) (defScope s_Number___add__) .none kV_Number___add__ dc_Number___add__ pm_Number___add__ an_Number___add__ cd_Number___add__ ct_Number___add__)
  Number___add___ok := fun_mk l_Number___add__ c_Number___add__ k_Number___add__
  b_Number___add__ := (fun_mk (st := s_Number___add__) l_Number___add__ c_Number___add__ k_Number___add__).binds (ps := ["self", "other"]) fun _ _ _ _ _ _ us hl => match us, hl with | [_, _], _ => rfl
  Number___add___sl := ⟨g_Number___add__, i_Number___add__⟩
  F_Number___sub__ := F_Number___sub__
  fd_Number___sub__ := (PySem.W.fnOf "__sub__" "Number.__sub__" (defArgs s_Number___sub__) (defBody s_Number___sub__) (defScope s_Number___sub__) .none kV_Number___sub__ dc_Number___sub__ pm_Number___sub__ an_Number___sub__ cd_Number___sub__ ct_Number___sub__)
  Number___sub___ok := fun_mk l_Number___sub__ c_Number___sub__ k_Number___sub__
  b_Number___sub__ := (fun_mk (st := s_Number___sub__) l_Number___sub__ c_Number___sub__ k_Number___sub__).binds (ps := ["self", "other"]) fun _ _ _ _ _ _ us hl => match us, hl with | [_, _], _ => rfl
  Number___sub___sl := ⟨g_Number___sub__, i_Number___sub__⟩
  F_Number___mul__ := F_Number___mul__
  fd_Number___mul__ := (PySem.W.fnOf "__mul__" "Number.__mul__" (defArgs s_Number___mul__) (defBody s_Number___mul__) (defScope s_Number___mul__) .none kV_Number___mul__ dc_Number___mul__ pm_Number___mul__ an_Number___mul__ cd_Number___mul__ ct_Number___mul__)
  Number___mul___ok := fun_mk l_Number___mul__ c_Number___mul__ k_Number___mul__
  b_Number___mul__ := (fun_mk (st := s_Number___mul__) l_Number___mul__ c_Number___mul__ k_Number___mul__).binds (ps := ["self", "other"]) fun _ _ _ _ _ _ us hl => match us, hl with | [_, _], _ => rfl
  Number___mul___sl := ⟨g_Number___mul__, i_Number___mul__⟩
  F_Number___floordiv__ := F_Number___floordiv__
  fd_Number___floordiv__ := (PySem.W.fnOf "__floordiv__" "Number.__floordiv__" (defArgs s_Number___floordiv__) (defBody s_Number___floordiv__) (defScope s_Number___floordiv__) .none kV_Number___floordiv__ dc_Number___floordiv__ pm_Number___floordiv__ an_Number___floordiv__ cd_Number___floordiv__ ct_Number___floordiv__)
  Number___floordiv___ok := fun_mk l_Number___floordiv__ c_Number___floordiv__ k_Number___floordiv__
  b_Number___floordiv__ := (fun_mk (st := s_Number___floordiv__) l_Number___floordiv__ c_Number___floordiv__ k_Number___floordiv__).binds (ps := ["self", "other"]) fun _ _ _ _ _ _ us hl => match us, hl with | [_, _], _ => rfl
  Number___floordiv___sl := ⟨g_Number___floordiv__, i_Number___floordiv__⟩
  F_Number___radd__ := F_Number___radd__
  fd_Number___radd__ := (PySem.W.fnOf "__radd__" "Number.__radd__" (defArgs s_Number___radd__) (defBody s_Number___radd__) (defScope s_Number___radd__) .none kV_Number___radd__ dc_Number___radd__ pm_Number___radd__ an_Number___radd__ cd_Number___radd__ ct_Number___radd__)
  Number___radd___ok := fun_mk l_Number___radd__ c_Number___radd__ k_Number___radd__
  b_Number___radd__ := (fun_mk (st := s_Number___radd__) l_Number___radd__ c_Number___radd__ k_Number___radd__).binds (ps := ["self", "other"]) fun _ _ _ _ _ _ us hl => match us, hl with | [_, _], _ => rfl
  Number___radd___sl := ⟨g_Number___radd__, i_Number___radd__⟩
  F_Number___rsub__ := F_Number___rsub__
  fd_Number___rsub__ := (PySem.W.fnOf "__rsub__" "Number.__rsub__" (defArgs s_Number___rsub__) (defBody s_Number___rsub__) (defScope s_Number___rsub__) .none kV_Number___rsub__ dc_Number___rsub__ pm_Number___rsub__ an_Number___rsub__ cd_Number___rsub__ ct_Number___rsub__)
  Number___rsub___ok := fun_mk l_Number___rsub__ c_Number___rsub__ k_Number___rsub__
  b_Number___rsub__ := (fun_mk (st := s_Number___rsub__) l_Number___rsub__ c_Number___rsub__ k_Number___rsub__).binds (ps := ["self", "other"]) fun _ _ _ _ _ _ us hl => match us, hl with | [_, _], _ => rfl
  Number___rsub___sl := ⟨g_Number___rsub__, i_Number___rsub__⟩
  F_Number___rmul__ := F_Number___rmul__
  fd_Number___rmul__ := (PySem.W.fnOf "__rmul__" "Number.__rmul__" (defArgs s_Number___rmul__) (defBody s_Number___rmul__) (defScope s_Number___rmul__) .none kV_Number___rmul__ dc_Number___rmul__ pm_Number___rmul__ an_Number___rmul__ cd_Number___rmul__ ct_Number___rmul__)
  Number___rmul___ok := fun_mk l_Number___rmul__ c_Number___rmul__ k_Number___rmul__
  b_Number___rmul__ := (fun_mk (st := s_Number___rmul__) l_Number___rmul__ c_Number___rmul__ k_Number___rmul__).binds (ps := ["self", "other"]) fun _ _ _ _ _ _ us hl => match us, hl with | [_, _], _ => rfl
  Number___rmul___sl := ⟨g_Number___rmul__, i_Number___rmul__⟩
  F_Number___rfloordiv__ := F_Number___rfloordiv__
  fd_Number___rfloordiv__ := (PySem.W.fnOf "__rfloordiv__" "Number.__rfloordiv__" (defArgs s_Number___rfloordiv__) (defBody s_Number___rfloordiv__) (defScope s_Number___rfloordiv__) .none kV_Number___rfloordiv__ dc_Number___rfloordiv__ pm_Number___rfloordiv__ an_Number___rfloordiv__ cd_Number___rfloordiv__ ct_Number___rfloordiv__)
  Number___rfloordiv___ok := fun_mk l_Number___rfloordiv__ c_Number___rfloordiv__ k_Number___rfloordiv__
  b_Number___rfloordiv__ := (fun_mk (st := s_Number___rfloordiv__) l_Number___rfloordiv__ c_Number___rfloordiv__ k_Number___rfloordiv__).binds (ps := ["self", "other"]) fun _ _ _ _ _ _ us hl => match us, hl with | [_, _], _ => rfl
  Number___rfloordiv___sl := ⟨g_Number___rfloordiv__, i_Number___rfloordiv__⟩
  F_Number___neg__ := F_Number___neg__
  fd_Number___neg__ := (PySem.W.fnOf "__neg__" "Number.__neg__" (defArgs s_Number___neg__) (defBody s_Number___neg__) (defScope s_Number___neg__) .none kV_Number___neg__ dc_Number___neg__ pm_Number___neg__ an_Number___neg__ cd_Number___neg__ ct_Number___neg__)
  Number___neg___ok := fun_mk l_Number___neg__ c_Number___neg__ k_Number___neg__
  b_Number___neg__ := (fun_mk (st := s_Number___neg__) l_Number___neg__ c_Number___neg__ k_Number___neg__).binds (ps := ["self"]) fun _ _ _ _ _ _ us hl => match us, hl with | [_], _ => rfl
  Number___neg___sl := ⟨g_Number___neg__, i_Number___neg__⟩
  F_Number___eq__ := F_Number___eq__
  fd_Number___eq__ := (PySem.W.fnOf "__eq__" "Number.__eq__" (defArgs s_Number___eq__) (defBody s_Number___eq__) (defScope s_Number___eq__) .none kV_Number___eq__ dc_Number___eq__ pm_Number___eq__ an_Number___eq__ cd_Number___eq__ ct_Number___eq__)
  Number___eq___ok := fun_mk l_Number___eq__ c_Number___eq__ k_Number___eq__
  b_Number___eq__ := (fun_mk (st := s_Number___eq__) l_Number___eq__ c_Number___eq__ k_Number___eq__).binds (ps := ["self", "other"]) fun _ _ _ _ _ _ us hl => match us, hl with | [_, _], _ => rfl
  Number___eq___sl := ⟨g_Number___eq__, i_Number___eq__⟩
  F_Number___ne__ := F_Number___ne__
  fd_Number___ne__ := (PySem.W.fnOf "__ne__" "Number.__ne__" (defArgs s_Number___ne__) (defBody s_Number___ne__) (defScope s_Number___ne__) .none kV_Number___ne__ dc_Number___ne__ pm_Number___ne__ an_Number___ne__ cd_Number___ne__ ct_Number___ne__)
  Number___ne___ok := fun_mk l_Number___ne__ c_Number___ne__ k_Number___ne__
  b_Number___ne__ := (fun_mk (st := s_Number___ne__) l_Number___ne__ c_Number___ne__ k_Number___ne__).binds (ps := ["self", "other"]) fun _ _ _ _ _ _ us hl => match us, hl with | [_, _], _ => rfl
  Number___ne___sl := ⟨g_Number___ne__, i_Number___ne__⟩
  F_Number___lt__ := F_Number___lt__
  fd_Number___lt__ := (PySem.W.fnOf "__lt__" "Number.__lt__" (defArgs s_Number___lt__) (defBody s_Number___lt__) (defScope s_Number___lt__) .none kV_Number___lt__ dc_Number___lt__ pm_Number___lt__ an_Number___lt__ cd_Number___lt__ ct_Number___lt__)
  Number___lt___ok := fun_mk l_Number___lt__ c_Number___lt__ k_Number___lt__
  b_Number___lt__ := (fun_mk (st := s_Number___lt__) l_Number___lt__ c_Number___lt__ k_Number___lt__).binds (ps := ["self", "other"]) fun _ _ _ _ _ _ us hl => match us, hl with | [_, _], _ => rfl
  Number___lt___sl := ⟨g_Number___lt__, i_Number___lt__⟩
  F_Number___le__ := F_Number___le__
  fd_Number___le__ := (PySem.W.fnOf "__le__" "Number.__le__" (defArgs s_Number___le__) (defBody s_Number___le__) (defScope s_Number___le__) .none kV_Number___le__ dc_Number___le__ pm_Number___le__ an_Number___le__ cd_Number___le__ ct_Number___le__)
  Number___le___ok := fun_mk l_Number___le__ c_Number___le__ k_Number___le__
  b_Number___le__ := (fun_mk (st := s_Number___le__) l_Number___le__ c_Number___le__ k_Number___le__).binds (ps := ["self", "other"]) fun _ _ _ _ _ _ us hl => match us, hl with | [_, _], _ => rfl
  Number___le___sl := ⟨g_Number___le__, i_Number___le__⟩
  F_Number___gt__ := F_Number___gt__
  fd_Number___gt__ := (PySem.W.fnOf "__gt__" "Number.__gt__" (defArgs s_Number___gt__) (defBody s_Number___gt__) (defScope s_Number___gt__) .none kV_Number___gt__ dc_Number___gt__ pm_Number___gt__ an_Number___gt__ cd_Number___gt__ ct_Number___gt__)
  Number___gt___ok := fun_mk l_Number___gt__ c_Number___gt__ k_Number___gt__
  b_Number___gt__ := (fun_mk (st := s_Number___gt__) l_Number___gt__ c_Number___gt__ k_Number___gt__).binds (ps := ["self", "other"]) fun _ _ _ _ _ _ us hl => match us, hl with | [_, _], _ => rfl
  Number___gt___sl := ⟨g_Number___gt__, i_Number___gt__⟩
  F_Number___ge__ := F_Number___ge__
  fd_Number___ge__ := (PySem.W.fnOf "__ge__" "Number.__ge__" (defArgs s_Number___ge__) (defBody s_Number___ge__) (defScope s_Number___ge__) .none kV_Number___ge__ dc_Number___ge__ pm_Number___ge__ an_Number___ge__ cd_Number___ge__ ct_Number___ge__)
  Number___ge___ok := fun_mk l_Number___ge__ c_Number___ge__ k_Number___ge__
  b_Number___ge__ := (fun_mk (st := s_Number___ge__) l_Number___ge__ c_Number___ge__ k_Number___ge__).binds (ps := ["self", "other"]) fun _ _ _ _ _ _ us hl => match us, hl with | [_, _], _ => rfl
  Number___ge___sl := ⟨g_Number___ge__, i_Number___ge__⟩
  F__law_pot := F__law_pot
  fd__law_pot := (PySem.W.fnOf "_law_pot" "_law_pot" (defArgs s__law_pot) (defBody s__law_pot) (defScope s__law_pot) .none kV__law_pot dc__law_pot pm__law_pot an__law_pot cd__law_pot ct__law_pot)
  _law_pot_ok := fun_mk l__law_pot c__law_pot k__law_pot
  b__law_pot := (fun_mk (st := s__law_pot) l__law_pot c__law_pot k__law_pot).binds (ps := ["_law_script", "_law_k"]) fun _ _ _ _ _ _ us hl => match us, hl with | [_, _], _ => rfl
  _law_pot_mg := PySem.W.mg_of X G g__law_pot
  F__law_take := F__law_take
  fd__law_take := (PySem.W.fnOf "_law_take" "_law_take" (defArgs s__law_take) (defBody s__law_take) (defScope s__law_take) .none kV__law_take dc__law_take pm__law_take an__law_take cd__law_take ct__law_take)
  _law_take_ok := fun_mk l__law_take c__law_take k__law_take
  b__law_take := (fun_mk (st := s__law_take) l__law_take c__law_take k__law_take).binds (ps := ["_law_pot_here", "_law_upto"]) fun _ _ _ _ _ _ us hl => match us, hl with | [_, _], _ => rfl
  _law_take_mg := PySem.W.mg_of X G g__law_take
  F__law_of := F__law_of
  fd__law_of := (PySem.W.fnOf "_law_of" "_law_of" (defArgs s__law_of) (defBody s__law_of) (defScope s__law_of) .none kV__law_of dc__law_of pm__law_of an__law_of cd__law_of ct__law_of)
  _law_of_ok := fun_mk l__law_of c__law_of k__law_of
  b__law_of := (fun_mk (st := s__law_of) l__law_of c__law_of k__law_of).binds (ps := ["_law_pot_here", "_law_some"]) fun _ _ _ _ _ _ us hl => match us, hl with | [_, _], _ => rfl
  _law_of_mg := PySem.W.mg_of X G g__law_of
  F__law_due := F__law_due
  fd__law_due := (PySem.W.fnOf "_law_due" "_law_due" (defArgs s__law_due) (defBody s__law_due) (defScope s__law_due) .none kV__law_due dc__law_due pm__law_due an__law_due cd__law_due ct__law_due)
  _law_due_ok := fun_mk l__law_due c__law_due k__law_due
  b__law_due := (fun_mk (st := s__law_due) l__law_due c__law_due k__law_due).binds (ps := ["_law_sign", "_law_size", "_law_a", "_law_b"]) fun _ _ _ _ _ _ us hl => match us, hl with | [_, _, _, _], _ => rfl
  _law_due_mg := PySem.W.mg_of X G g__law_due
  F__law_signed := F__law_signed
  fd__law_signed := (PySem.W.fnOf "_law_signed" "_law_signed" (defArgs s__law_signed) (defBody s__law_signed) (defScope s__law_signed) .none kV__law_signed dc__law_signed pm__law_signed an__law_signed cd__law_signed ct__law_signed)
  _law_signed_ok := fun_mk l__law_signed c__law_signed k__law_signed
  b__law_signed := (fun_mk (st := s__law_signed) l__law_signed c__law_signed k__law_signed).binds (ps := ["_law_sign", "_law_one", "_law_other"]) fun _ _ _ _ _ _ us hl => match us, hl with | [_, _, _], _ => rfl
  _law_signed_mg := PySem.W.mg_of X G g__law_signed
  F__law_heard := F__law_heard
  fd__law_heard := (PySem.W.fnOf "_law_heard" "_law_heard" (defArgs s__law_heard) (defBody s__law_heard) (defScope s__law_heard) .none kV__law_heard dc__law_heard pm__law_heard an__law_heard cd__law_heard ct__law_heard)
  _law_heard_ok := fun_mk l__law_heard c__law_heard k__law_heard
  b__law_heard := (fun_mk (st := s__law_heard) l__law_heard c__law_heard k__law_heard).binds (ps := ["_law_sign", "_law_one", "_law_other"]) fun _ _ _ _ _ _ us hl => match us, hl with | [_, _, _], _ => rfl
  _law_heard_mg := PySem.W.mg_of X G g__law_heard
  F__law_sign_right := F__law_sign_right
  fd__law_sign_right := (PySem.W.fnOf "_law_sign_right" "_law_sign_right" (defArgs s__law_sign_right) (defBody s__law_sign_right) (defScope s__law_sign_right) .none kV__law_sign_right dc__law_sign_right pm__law_sign_right an__law_sign_right cd__law_sign_right ct__law_sign_right)
  _law_sign_right_ok := fun_mk l__law_sign_right c__law_sign_right k__law_sign_right
  b__law_sign_right := (fun_mk (st := s__law_sign_right) l__law_sign_right c__law_sign_right k__law_sign_right).binds (ps := ["_law_sign", "_law_size", "_law_a", "_law_b", "_law_pair"]) fun _ _ _ _ _ _ us hl => match us, hl with | [_, _, _, _, _], _ => rfl
  _law_sign_right_mg := PySem.W.mg_of X G g__law_sign_right
  F__law_compared := F__law_compared
  fd__law_compared := (PySem.W.fnOf "_law_compared" "_law_compared" (defArgs s__law_compared) (defBody s__law_compared) (defScope s__law_compared) .none kV__law_compared dc__law_compared pm__law_compared an__law_compared cd__law_compared ct__law_compared)
  _law_compared_ok := fun_mk l__law_compared c__law_compared k__law_compared
  b__law_compared := (fun_mk (st := s__law_compared) l__law_compared c__law_compared k__law_compared).binds (ps := ["_law_one", "_law_other"]) fun _ _ _ _ _ _ us hl => match us, hl with | [_, _], _ => rfl
  _law_compared_mg := PySem.W.mg_of X G g__law_compared
  F__law_pair_right := F__law_pair_right
  fd__law_pair_right := (PySem.W.fnOf "_law_pair_right" "_law_pair_right" (defArgs s__law_pair_right) (defBody s__law_pair_right) (defScope s__law_pair_right) .none kV__law_pair_right dc__law_pair_right pm__law_pair_right an__law_pair_right cd__law_pair_right ct__law_pair_right)
  _law_pair_right_ok := fun_mk l__law_pair_right c__law_pair_right k__law_pair_right
  b__law_pair_right := (fun_mk (st := s__law_pair_right) l__law_pair_right c__law_pair_right k__law_pair_right).binds (ps := ["_law_size", "_law_a", "_law_b"]) fun _ _ _ _ _ _ us hl => match us, hl with | [_, _, _], _ => rfl
  _law_pair_right_mg := PySem.W.mg_of X G g__law_pair_right
  F__law_chain_right := F__law_chain_right
  fd__law_chain_right := (PySem.W.fnOf "_law_chain_right" "_law_chain_right" (defArgs s__law_chain_right) (defBody s__law_chain_right) (defScope s__law_chain_right) .none kV__law_chain_right dc__law_chain_right pm__law_chain_right an__law_chain_right cd__law_chain_right ct__law_chain_right)
  _law_chain_right_ok := fun_mk l__law_chain_right c__law_chain_right k__law_chain_right
  b__law_chain_right := (fun_mk (st := s__law_chain_right) l__law_chain_right c__law_chain_right k__law_chain_right).binds (ps := ["_law_pot_here", "_law_size"]) fun _ _ _ _ _ _ us hl => match us, hl with | [_, _], _ => rfl
  _law_chain_right_mg := PySem.W.mg_of X G g__law_chain_right
  F__law_right := F__law_right
  fd__law_right := (PySem.W.fnOf "_law_right" "_law_right" (defArgs s__law_right) (defBody s__law_right) (defScope s__law_right) .none kV__law_right dc__law_right pm__law_right an__law_right cd__law_right ct__law_right)
  _law_right_ok := fun_mk l__law_right c__law_right k__law_right
  b__law_right := (fun_mk (st := s__law_right) l__law_right c__law_right k__law_right).binds (ps := ["_law_pot_here"]) fun _ _ _ _ _ _ us hl => match us, hl with | [_], _ => rfl
  _law_right_mg := PySem.W.mg_of X G g__law_right
  F_law := F_law
  fd_law := (PySem.W.fnOf "law" "law" (defArgs s_law) (defBody s_law) (defScope s_law) .none kV_law dc_law pm_law an_law cd_law ct_law)
  law_ok := fun_mk l_law c_law k_law
  b_law := (fun_mk (st := s_law) l_law c_law k_law).binds (ps := ["_law_script"]) fun _ _ _ _ _ _ us hl => match us, hl with | [_], _ => rfl
  law_mg := PySem.W.mg_of X G g_law
  Fault_err := ⟨⟨_, (PySem.W.ksFn "__init__" "Fault.__init__" (defArgs (inClass (topS 2) 0)) (defBody (inClass (topS 2) 0)) (defScope (inClass (topS 2) 0)) edV_Fault ekV_Fault edc_Fault epm_Fault ean_Fault (.ref ecd_Fault) ect_Fault ecc_Fault), ⟨⟨_, _, _, _, _, _, _, _, _, _, _, _, _, _, _, e1_Fault, e2_Fault⟩, e3_Fault, e4_Fault, e5_Fault, e6_Fault, e7_Fault, e8_Fault, z_super, z_tp, hP.1, (by intro f hf; simp only [List.mem_cons, List.not_mem_nil, or_false] at hf; rcases hf with rfl | rfl; exact ef0_Fault; exact ef1_Fault), ⟨_, _, _, _, _, _, _, _, _, _, _, _, _, _, _, rfl, e9_Fault, ea_Fault, ⟨_, _, _, _, _, _, eb_Fault, ec_Fault, ed_Fault⟩, ⟨_, _, _, ee_Fault⟩, ⟨_, rfl, rfl⟩, ⟨rfl, rfl, rfl, by decide +kernel, by decide +kernel, by decide +kernel, by decide +kernel, by decide +kernel, by decide +kernel, by decide +kernel⟩, .inr ⟨_, _, _, _, _, _, _, _, _, _, _, _, _, _, _, _, rfl, rfl, by decide +kernel, rfl⟩⟩⟩, (by subst dV1_Fault; cases dV4_Fault with | cons r t => cases t; exact binds_ks dV2_Fault dV3_Fault fun us hl => match us, hl with | [_, _, _], _ => ⟨_, rfl, rfl⟩)⟩, PySem.W.mg_of X G a_Fault, ek_Fault, ex_Fault, et_Fault⟩
  Fault_xf := ⟨eg_Fault, ei_Fault, ex_Fault, eh_Fault⟩
  Fault_no0 := ef0_Fault
  Fault_no1 := ef1_Fault
  Fault_te := EXM ex_Fault eh_Fault et_Fault e8_Fault
  b_int := PySem.W.mg_none_of X G z_int
  b_bool := PySem.W.mg_none_of X G z_bool
  b_abs := PySem.W.mg_none_of X G z_abs
  b_len := PySem.W.mg_none_of X G z_len
  b_isinstance := PySem.W.mg_none_of X G z_isinstance
  b_repr := PySem.W.mg_none_of X G z_repr
  b_all := PySem.W.mg_none_of X G z_all
  b_range := PySem.W.mg_none_of X G z_range
  tk_LEAST_SIZE := tk_LEAST_SIZE
  k_LEAST_SIZE := PySem.W.mg_of X G q_LEAST_SIZE
  tk_MOST_SIZE := tk_MOST_SIZE
  k_MOST_SIZE := PySem.W.mg_of X G q_MOST_SIZE
  tk_ZERO := tk_ZERO
  k_ZERO := PySem.W.mg_of X G q_ZERO
  x_slf := x_slf
  x_s1 := x_s1
  x_s2 := x_s2
  x_s3 := x_s3
  x_nS := x_nS
  x_nW := x_nW
  x_iadd := ⟨_, x_iadd⟩
  x_iradd := ⟨_, x_iradd⟩
  x_isub := ⟨_, x_isub⟩
  x_irsub := ⟨_, x_irsub⟩
  x_imul := ⟨_, x_imul⟩
  x_irmul := ⟨_, x_irmul⟩
  x_ifloordiv := ⟨_, x_ifloordiv⟩
  x_irfloordiv := ⟨_, x_irfloordiv⟩
  x_cc := x_cc
  x_cg := x_cg
  x_ct := x_ct
  x_cm := x_cm

end K00

namespace K00
open PySem PySem.Spec PyProof.Rows L2 L2.TP
/-! ### Numbers -/
def nf (n p : Int) : List (Str × V) := [("own_size", .int n), ("own_worth", .int p)]
theorem nf_size (n p : Int) : (nf n p).lookup ("own_size" : Str) = some (.int n) := rfl
theorem nf_worth (n p : Int) : (nf n p).lookup ("own_worth" : Str) = some (.int p) := by
  show List.lookup ("own_worth" : Str) [(("own_size" : Str), V.int n), ("own_worth", V.int p)] = _
  have q : (("own_worth" : Str) == ("own_size" : Str)) = false := by decide +kernel
  simp [List.lookup, q]
theorem nf_put1 (n : Int) : putF "own_size" (.int n) [] = ([("own_size", .int n)] : List (Str × V)) := rfl
theorem nf_put2 (n p : Int) : putF "own_worth" (.int p) ([("own_size", .int n)] : List (Str × V)) = nf n p := by
  show (if ("own_size" : Str) = "own_worth" then _ else _) = _
  rw [if_neg (by decide +kernel)]
  rfl
structure NumAt (C : Addr) (H : Hp) (a : Addr) (n p : Int) : Prop where
  at_ : ∃ dx, H a = some (.ins C dx (nf n p))
  n2 : 2 ≤ n
  n4 : n ≤ 4
  p0 : 0 ≤ p
  pn : p < n
theorem NumAt.ext {C : Addr} {H H' : Hp} {a : Addr} {n p : Int} (h : NumAt C H a n p) (e : Ext H H') : NumAt C H' a n p := by
  obtain ⟨dx, q⟩ := h.at_
  exact ⟨⟨dx, e _ _ q⟩, h.n2, h.n4, h.p0, h.pn⟩
/-- what counts as a number of size n -/
def IsN (C : Addr) (H : Hp) (v : V) (n p : Int) : Prop := (∃ a, v = .ref a ∧ NumAt C H a n p) ∨ (v = .int p ∧ 0 ≤ p ∧ p < n)
theorem IsN.ext {C : Addr} {H H' : Hp} {v : V} {n p : Int} (h : IsN C H v n p) (e : Ext H H') : IsN C H' v n p := by
  rcases h with ⟨a, rfl, h⟩ | h
  · exact .inl ⟨a, rfl, h.ext e⟩
  · exact .inr h

section
variable {P : Program} {w : World} {K : PySem.W.Frag} {mg : Str → Option Value} {base : Heap}
theorem ty_num (T : Tx P K mg) {H : Hp} {a : Addr} {n p : Int} (h : NumAt T.C_Number H a n p) : TyX K H (.ref a) (.ref T.C_Number) := by
  obtain ⟨dx, q⟩ := h.at_
  exact .base (.ins q T.Number_cl T.x_cc T.x_cg T.x_ct T.x_cm)
theorem kit_num (T : Tx P K mg) : PySem.W.kitOne K (.ref T.C_Number) (.ref T.C_Number) = some true := kit_ref T.Number_ty T.x_s3 fun _ => rfl
theorem kit_int (T : Tx P K mg) : PySem.W.kitOne K (.type "int") (.ref T.C_Number) = some false := kit_ref T.Number_ty T.x_s1 fun z => nomatch z

def spIsInteger : Sp := fun vs H Q _ => ∃ i : Int, vs = [.int i] ∧ Q (.bl true) H
theorem ok_is_integer (T : Tx P K mg) : FnOk P w K mg base CX0 1 T.F_is_integer T.fd_is_integer ["value"] spIsInteger := by
  refine T.is_integer_ok.ok sc_is_integer (fun vs H Q E h => ?_) (fun cdv A outer s H vs Q E hr h => ?_)
  · obtain ⟨i, rfl, _⟩ := h
    rfl
  · obtain ⟨i, rfl, q⟩ := h
    have nd := sc_is_integer.nd
    refine ⟨_, (pss_one (ps_ret (pe_and (pe_callB call_isi (by rfl) T.b_isinstance (by decide +kernel) (pa_cons (pv 0) (pa_cons (pe_bltn (by rfl) T.b_int (by decide +kernel) (v := .ty "int") rfl) pa_nil))) (pe_one (pe_not (pe_callB call_isi (by rfl) T.b_isinstance (by decide +kernel) (pa_cons (pv 0) (pa_cons (pe_bltn (by rfl) T.b_bool (by decide +kernel) (v := .ty "bool") rfl) pa_nil)))))))), ?_⟩
    refine ⟨_, rfl, _, _, _, _, _, rfl, .ty _, .base (.int i), kit_ty (r := true) (by decide +kernel), _, rfl, iteT ?_⟩
    exact ⟨_, rfl, _, _, _, _, _, rfl, .ty _, .base (.int i), kit_ty (r := false) (by decide +kernel), _, rfl, q⟩

def spIsFrom : Sp := fun vs H Q _ => ∃ i lo hi : Int, vs = [.int i, .int lo, .int hi] ∧ Q (.bl (decide (lo ≤ i) && decide (i ≤ hi))) H
theorem ok_is_from (T : Tx P K mg) : FnOk P w K mg base CX0 2 T.F_is_from T.fd_is_from ["value", "low", "high"] spIsFrom := by
  refine T.is_from_ok.ok sc_is_from (fun vs H Q E h => ?_) (fun cdv A outer s H vs Q E hr h => ?_)
  · obtain ⟨i, lo, hi, rfl, _⟩ := h
    rfl
  · obtain ⟨i, lo, hi, rfl, q⟩ := h
    have nd := sc_is_from.nd
    refine ⟨_, (pss_one (ps_ret (pe_and (pe_call (ok_is_integer T) (hr.mono (by decide)) rfl T.is_integer_mg T.is_integer_ok.kp T.b_is_integer .nil pass0 (pa_cons (pv 0) pa_nil)) (pe_one (pe_chain op_le op_le (pv 1) (pv 0) (pv 2)))))), ?_⟩
    refine ⟨_, rfl, i, rfl, _, rfl, iteT ?_⟩
    refine ⟨_, rfl, _, rfl, _, _, rfl, rfl, _, rfl, ?_⟩
    by_cases c : lo ≤ i
    · rw [decide_eq_true c] at q ⊢
      exact iteT ⟨_, rfl, _, _, rfl, rfl, q⟩
    · rw [decide_eq_false c] at q ⊢
      exact iteF q

def spWorthOf (C : Addr) : Sp := fun vs H Q _ => ∃ (v : V) (n p : Int), vs = [v] ∧ IsN C H v n p ∧ Q (.int p) H
theorem ok_Number_size (T : Tx P K mg) : FnOk P w K mg base CX0 1 T.F_Number_size T.fd_Number_size ["self"] (getSp T.C_Number "own_size") := by
  obtain ⟨oc, od, kV, doc, pm, an, cdv, ct, osl, e, lk, hcd⟩ := T.Number_size_ok.ex
  rw [e] at lk ⊢
  exact fn_getter lk hcd sc_Number_size rfl rfl T.Number_cl T.x_nS
theorem ok_Number_worth (T : Tx P K mg) : FnOk P w K mg base CX0 1 T.F_Number_worth T.fd_Number_worth ["self"] (getSp T.C_Number "own_worth") := by
  obtain ⟨oc, od, kV, doc, pm, an, cdv, ct, osl, e, lk, hcd⟩ := T.Number_worth_ok.ex
  rw [e] at lk ⊢
  exact fn_getter lk hcd sc_Number_worth rfl rfl T.Number_cl T.x_nW
theorem ok_worth_of (T : Tx P K mg) : FnOk P w K mg base CX0 3 T.F_worth_of T.fd_worth_of ["number"] (spWorthOf T.C_Number) := by
  refine T.worth_of_ok.ok sc_worth_of (fun vs H Q E h => ?_) (fun cdv A outer s H vs Q E hr h => ?_)
  · obtain ⟨v, n, p, rfl, _⟩ := h
    rfl
  · obtain ⟨v, n, p, rfl, hv, q⟩ := h
    have nd := sc_worth_of.nd
    refine ⟨_, (pss_one (ps_ret (pe_ifExp (pt_val (pe_callB call_isi (by rfl) T.b_isinstance (by decide +kernel) (pa_cons (pv 0) (pa_cons (pe_glob (v := .ref T.C_Number) rfl T.Number_mg rfl) pa_nil)))) (pe_prop (pv 0) T.Number_cl T.Number_worth_pr (ok_Number_worth T) (hr.mono (by decide)) T.b_Number_worth .nil pass0 rfl) (pv 0)))), ?_⟩
    rcases hv with ⟨a, rfl, ha⟩ | ⟨rfl, h0, hn⟩
    · refine ⟨_, rfl, _, _, _, _, _, rfl, .own _, ty_num T ha, kit_num T, _, rfl, iteT ?_⟩
      obtain ⟨dx, ea⟩ := ha.at_
      exact ⟨_, rfl, a, dx, _, rfl, ea, a, dx, _, _, rfl, ea, nf_worth n p, q⟩
    · refine ⟨_, rfl, _, _, _, _, _, rfl, .own _, .base (.int p), kit_int T, _, rfl, iteF ?_⟩
      exact ⟨_, rfl, q⟩

def spIsPlain (C : Addr) : Sp := fun vs H Q _ => ∃ (v : V) (n p : Int), vs = [.int n, v] ∧ IsN C H v n p ∧ Q (.bl true) H
theorem ok_is_plain (T : Tx P K mg) : FnOk P w K mg base CX0 3 T.F_is_plain T.fd_is_plain ["size", "thing"] (spIsPlain T.C_Number) := by
  refine T.is_plain_ok.ok sc_is_plain (fun vs H Q E h => ?_) (fun cdv A outer s H vs Q E hr h => ?_)
  · obtain ⟨v, n, p, rfl, _⟩ := h
    rfl
  · obtain ⟨v, n, p, rfl, hv, q⟩ := h
    have nd := sc_is_plain.nd
    refine ⟨_, (pss_one (ps_ret (pe_or (pe_callB call_isi (by rfl) T.b_isinstance (by decide +kernel) (pa_cons (pv 1) (pa_cons (pe_glob (v := .ref T.C_Number) rfl T.Number_mg rfl) pa_nil))) (pe_one (pe_call (ok_is_from T) (hr.mono (by decide)) rfl T.is_from_mg T.is_from_ok.kp T.b_is_from .nil pass0 (pa_cons (pv 1) (pa_cons pe_int (pa_cons (pe_op op_sub (pv 0) pe_int) pa_nil)))))))), ?_⟩
    rcases hv with ⟨a, rfl, ha⟩ | ⟨rfl, h0, hn⟩
    · exact ⟨_, rfl, _, _, _, _, _, rfl, .own _, ty_num T ha, kit_num T, _, rfl, iteT q⟩
    · refine ⟨_, rfl, _, _, _, _, _, rfl, .own _, .base (.int p), kit_int T, _, rfl, iteF ?_⟩
      refine ⟨_, rfl, _, rfl, _, _, rfl, rfl, p, 0, n - 1, rfl, ?_⟩
      rw [decide_eq_true h0, decide_eq_true (by omega : p ≤ n - 1)]
      exact q

/-- Number(n, p): a new one -/
def spInit (C : Addr) : Sp := fun vs H Q _ => ∃ (x dx : Addr) (n p : Int), vs = [.ref x, .int n, .int p] ∧ H x = some (.ins C dx []) ∧ 2 ≤ n ∧ n ≤ 4 ∧ 0 ≤ p ∧ p < n ∧ Q .non (upd H x (.ins C dx (nf n p)))
theorem ok_Number__init__ (T : Tx P K mg) : FnOk P w K mg base CX0 3 T.F_Number___init__ T.fd_Number___init__ ["self", "size", "worth"] (spInit T.C_Number) := by
  refine T.Number___init___ok.ok sc_Number___init__ (fun vs H Q E h => ?_) (fun cdv A outer s H vs Q E hr h => ?_)
  · obtain ⟨x, dx, n, p, rfl, _⟩ := h
    rfl
  · obtain ⟨x, dx, n, p, rfl, hx, n2, n4, p0, pn, q⟩ := h
    have nd := sc_Number___init__.nd
    refine ⟨_, (pss_cons (ps_if (pt_not (pt_val (pe_call (ok_is_from T) (hr.mono (by decide)) rfl T.is_from_mg T.is_from_ok.kp T.b_is_from .nil pass0 (pa_cons (pv 1) (pa_cons (pe_glob (v := .int 2) rfl T.k_LEAST_SIZE ⟨_, rfl⟩) (pa_cons (pe_glob (v := .int 4) rfl T.k_MOST_SIZE ⟨_, rfl⟩) pa_nil)))))) (pss_one ps_never) pss_nil) (pss_cons (ps_if (pt_not (pt_val (pe_call (ok_is_from T) (hr.mono (by decide)) rfl T.is_from_mg T.is_from_ok.kp T.b_is_from .nil pass0 (pa_cons (pv 2) (pa_cons pe_int (pa_cons (pe_op op_sub (pv 1) pe_int) pa_nil)))))) (pss_one ps_never) pss_nil) (pss_cons (ps_fld (pv 0) (pv 1) rfl) (pss_one (ps_fld (pv 0) (pv 2) rfl))))), ?_⟩
    refine ⟨_, rfl, n, 2, 4, rfl, _, rfl, ?_⟩
    rw [decide_eq_true n2, decide_eq_true n4]
    refine iteF ?_
    refine ⟨_, rfl, _, rfl, _, _, rfl, rfl, p, 0, n - 1, rfl, _, rfl, ?_⟩
    rw [decide_eq_true p0, decide_eq_true (by omega : p ≤ n - 1)]
    refine iteF ?_
    refine ⟨_, rfl, _, rfl, x, T.C_Number, dx, [], rfl, hx, T.Number_cl, T.x_nS, by decide, ?_⟩
    refine ⟨_, rfl, _, rfl, x, T.C_Number, dx, _, rfl, upd_same, T.Number_cl, T.x_nW, by show 1 < 1000; decide, ?_⟩
    rw [upd_upd, nf_put1, nf_put2]
    exact q
/-- what the making of a Number asks -/
theorem made {C : Addr} {H : Hp} {n p : Int} {Q : VK} (n2 : 2 ≤ n) (n4 : n ≤ 4) (p0 : 0 ≤ p) (pn : p < n) (q : ∀ z H', Ext H H' → NumAt C H' z n p → Q (.ref z) H') :
    ∀ x dx, H x = none → H dx = none → dx ≠ x → spInit C (.ref x :: ([.int n, .int p] ++ [])) (upd (upd H dx (.own x)) x (.ins C dx [])) (fun v H2 => v = .non ∧ Q (.ref x) H2) E0 := by
  intro x dx hx hdx ne
  refine ⟨x, dx, n, p, rfl, upd_same, n2, n4, p0, pn, rfl, ?_⟩
  rw [upd_upd]
  exact q x _ (ext_new Ext.rfl' hx hdx) ⟨⟨dx, upd_same⟩, n2, n4, p0, pn⟩

def spRounded (C : Addr) : Sp := fun vs H Q _ => ∃ (a : Addr) (n p r : Int), vs = [.ref a, .int r] ∧ NumAt C H a n p ∧ -100 ≤ r ∧ r ≤ 100 ∧ ∀ z H', Ext H H' → NumAt C H' z n (r % n) → Q (.ref z) H'
theorem ok_Number_rounded (T : Tx P K mg) : FnOk P w K mg base CX0 5 T.F_Number_rounded T.fd_Number_rounded ["self", "result"] (spRounded T.C_Number) := by
  refine T.Number_rounded_ok.ok sc_Number_rounded (fun vs H Q E h => ?_) (fun cdv A outer s H vs Q E hr h => ?_)
  · obtain ⟨a, n, p, r, rfl, _⟩ := h
    rfl
  · obtain ⟨a, n, p, r, rfl, ha, r1, r2, q⟩ := h
    have nd := sc_Number_rounded.nd
    obtain ⟨dx, ea⟩ := ha.at_
    have n2 := ha.n2
    have n4 := ha.n4
    refine ⟨_, (pss_one (ps_ret (pe_make T.Number_mk (ok_Number__init__ T) (hr.mono (by decide)) (by rfl) T.Number_mg T.b_Number___init__ .nil pass0 (pa_cons (pe_fld (pv 0) rfl) (pa_cons (pe_op op_sub (pv 1) (pe_op op_mul (pe_op op_fdivN (pv 1) (pe_fld (pv 0) rfl)) (pe_fld (pv 0) rfl))) pa_nil))))), ?_⟩
    refine ⟨_, rfl, a, T.C_Number, dx, _, _, rfl, ea, T.Number_cl, T.x_nS, nf_size n p, _, rfl, _, rfl, _, rfl, a, T.C_Number, dx, _, _, rfl, ea, T.Number_cl, T.x_nS, nf_size n p, r, n, rfl, rfl, ⟨by omega, by omega⟩,
      _, rfl, a, T.C_Number, dx, _, _, rfl, ea, T.Number_cl, T.x_nS, nf_size n p, _, _, rfl, rfl, .inr ⟨by omega, by omega⟩, _, _, rfl, rfl, ?_⟩
    have e : r - r.fdiv n * n = r % n := by
      rw [Int.fdiv_eq_ediv_of_nonneg r (by omega)]
      have := Int.emod_def r n
      rw [this, Int.mul_comm]
    have z := made (C := T.C_Number) (H := H) (Q := Q) n2 n4 (Int.emod_nonneg r (by omega)) (Int.emod_lt_of_pos r (by omega)) q
    rw [← e] at z
    exact z

theorem IsN.bounds {C : Addr} {H : Hp} {v : V} {n q : Int} (h : IsN C H v n q) : 0 ≤ q ∧ q < n := by
  rcases h with ⟨a, _, h⟩ | ⟨_, h1, h2⟩
  · exact ⟨h.p0, h.pn⟩
  · exact ⟨h1, h2⟩
theorem mul_lo {p q : Int} (h1 : 0 ≤ p) (h2 : 0 ≤ q) : -100 ≤ p * q := by
  have := Int.mul_nonneg h1 h2
  omega
theorem mul_hi {p q : Int} (h1 : 0 ≤ p) (h2 : 0 ≤ q) (h3 : p ≤ 10) (h4 : q ≤ 10) : p * q ≤ 100 := by
  have := Int.mul_le_mul h3 h4 h2 (by decide)
  omega
/-- a sign: self and other, their worths p and q -/
def spBin (C : Addr) (f : Int → Int → Int) : Sp := fun vs H Q _ => ∃ (a : Addr) (v : V) (n p q : Int), vs = [.ref a, v] ∧ NumAt C H a n p ∧ IsN C H v n q ∧ ∀ z H', Ext H H' → NumAt C H' z n (f p q % n) → Q (.ref z) H'
def spCmp (C : Addr) (f : Int → Int → Bool) : Sp := fun vs H Q _ => ∃ (a : Addr) (v : V) (n p q : Int), vs = [.ref a, v] ∧ NumAt C H a n p ∧ IsN C H v n q ∧ Q (.bl (f p q)) H

theorem ok_Number___add__ (T : Tx P K mg) : FnOk P w K mg base CX0 6 T.F_Number___add__ T.fd_Number___add__ ["self", "other"] (spBin T.C_Number fun p q => p + q) := by
  refine T.Number___add___ok.ok sc_Number___add__ (fun vs H Q E h => ?_) (fun cdv A outer s H vs Q E hr h => ?_)
  · obtain ⟨a, v, n, p, q, rfl, _⟩ := h
    rfl
  · obtain ⟨a, v, n, p, q, rfl, ha, hv, k⟩ := h
    have nd := sc_Number___add__.nd
    obtain ⟨dx, ea⟩ := ha.at_
    have n2 := ha.n2
    have n4 := ha.n4
    have p0 := ha.p0
    have pn := ha.pn
    obtain ⟨q0, qn⟩ := hv.bounds
    refine ⟨_, (pss_cons (ps_if (pt_not (pt_val (pe_call (ok_is_plain T) (hr.mono (by decide)) rfl T.is_plain_mg T.is_plain_ok.kp T.b_is_plain .nil pass0 (pa_cons (pe_fld (pv 0) rfl) (pa_cons (pv 1) pa_nil))))) (pss_one (ps_never)) pss_nil) (pss_one (ps_ret (pe_meth (pv 0) T.Number_cl ⟨T.Number_rounded_sl.at_, T.Number_rounded_sl.fn, T.Number_rounded_ok.kp⟩ (ok_Number_rounded T) (hr.mono (by decide)) T.b_Number_rounded .nil pass0 (pa_cons (pe_op op_add (pe_fld (pv 0) rfl) (pe_call (ok_worth_of T) (hr.mono (by decide)) rfl T.worth_of_mg T.worth_of_ok.kp T.b_worth_of .nil pass0 (pa_cons (pv 1) pa_nil))) pa_nil))))), ?_⟩
    refine ⟨_, rfl, a, T.C_Number, dx, _, _, rfl, ea, T.Number_cl, T.x_nS, nf_size n p, _, rfl, v, n, q, rfl, hv, _, rfl, iteF ?_⟩
    refine ⟨_, rfl, a, dx, _, rfl, ea, rfl, _, rfl, a, T.C_Number, dx, _, _, rfl, ea, T.Number_cl, T.x_nW, nf_worth n p, _, rfl, v, n, q, rfl, hv, _, _, rfl, rfl, a, n, p, _, rfl, ha, ?_, ?_, k⟩
    · exact (by omega)
    · exact (by omega)

theorem ok_Number___radd__ (T : Tx P K mg) : FnOk P w K mg base CX0 6 T.F_Number___radd__ T.fd_Number___radd__ ["self", "other"] (spBin T.C_Number fun p q => q + p) := by
  refine T.Number___radd___ok.ok sc_Number___radd__ (fun vs H Q E h => ?_) (fun cdv A outer s H vs Q E hr h => ?_)
  · obtain ⟨a, v, n, p, q, rfl, _⟩ := h
    rfl
  · obtain ⟨a, v, n, p, q, rfl, ha, hv, k⟩ := h
    have nd := sc_Number___radd__.nd
    obtain ⟨dx, ea⟩ := ha.at_
    have n2 := ha.n2
    have n4 := ha.n4
    have p0 := ha.p0
    have pn := ha.pn
    obtain ⟨q0, qn⟩ := hv.bounds
    refine ⟨_, (pss_cons (ps_if (pt_not (pt_val (pe_call (ok_is_plain T) (hr.mono (by decide)) rfl T.is_plain_mg T.is_plain_ok.kp T.b_is_plain .nil pass0 (pa_cons (pe_fld (pv 0) rfl) (pa_cons (pv 1) pa_nil))))) (pss_one (ps_never)) pss_nil) (pss_one (ps_ret (pe_meth (pv 0) T.Number_cl ⟨T.Number_rounded_sl.at_, T.Number_rounded_sl.fn, T.Number_rounded_ok.kp⟩ (ok_Number_rounded T) (hr.mono (by decide)) T.b_Number_rounded .nil pass0 (pa_cons (pe_op op_add (pe_call (ok_worth_of T) (hr.mono (by decide)) rfl T.worth_of_mg T.worth_of_ok.kp T.b_worth_of .nil pass0 (pa_cons (pv 1) pa_nil)) (pe_fld (pv 0) rfl)) pa_nil))))), ?_⟩
    refine ⟨_, rfl, a, T.C_Number, dx, _, _, rfl, ea, T.Number_cl, T.x_nS, nf_size n p, _, rfl, v, n, q, rfl, hv, _, rfl, iteF ?_⟩
    refine ⟨_, rfl, a, dx, _, rfl, ea, rfl, _, rfl, v, n, q, rfl, hv, _, rfl, a, T.C_Number, dx, _, _, rfl, ea, T.Number_cl, T.x_nW, nf_worth n p, _, _, rfl, rfl, a, n, p, _, rfl, ha, ?_, ?_, k⟩
    · exact (by omega)
    · exact (by omega)

theorem ok_Number___sub__ (T : Tx P K mg) : FnOk P w K mg base CX0 6 T.F_Number___sub__ T.fd_Number___sub__ ["self", "other"] (spBin T.C_Number fun p q => p - q) := by
  refine T.Number___sub___ok.ok sc_Number___sub__ (fun vs H Q E h => ?_) (fun cdv A outer s H vs Q E hr h => ?_)
  · obtain ⟨a, v, n, p, q, rfl, _⟩ := h
    rfl
  · obtain ⟨a, v, n, p, q, rfl, ha, hv, k⟩ := h
    have nd := sc_Number___sub__.nd
    obtain ⟨dx, ea⟩ := ha.at_
    have n2 := ha.n2
    have n4 := ha.n4
    have p0 := ha.p0
    have pn := ha.pn
    obtain ⟨q0, qn⟩ := hv.bounds
    refine ⟨_, (pss_cons (ps_if (pt_not (pt_val (pe_call (ok_is_plain T) (hr.mono (by decide)) rfl T.is_plain_mg T.is_plain_ok.kp T.b_is_plain .nil pass0 (pa_cons (pe_fld (pv 0) rfl) (pa_cons (pv 1) pa_nil))))) (pss_one (ps_never)) pss_nil) (pss_one (ps_ret (pe_meth (pv 0) T.Number_cl ⟨T.Number_rounded_sl.at_, T.Number_rounded_sl.fn, T.Number_rounded_ok.kp⟩ (ok_Number_rounded T) (hr.mono (by decide)) T.b_Number_rounded .nil pass0 (pa_cons (pe_op op_sub (pe_fld (pv 0) rfl) (pe_call (ok_worth_of T) (hr.mono (by decide)) rfl T.worth_of_mg T.worth_of_ok.kp T.b_worth_of .nil pass0 (pa_cons (pv 1) pa_nil))) pa_nil))))), ?_⟩
    refine ⟨_, rfl, a, T.C_Number, dx, _, _, rfl, ea, T.Number_cl, T.x_nS, nf_size n p, _, rfl, v, n, q, rfl, hv, _, rfl, iteF ?_⟩
    refine ⟨_, rfl, a, dx, _, rfl, ea, rfl, _, rfl, a, T.C_Number, dx, _, _, rfl, ea, T.Number_cl, T.x_nW, nf_worth n p, _, rfl, v, n, q, rfl, hv, _, _, rfl, rfl, a, n, p, _, rfl, ha, ?_, ?_, k⟩
    · exact (by omega)
    · exact (by omega)

theorem ok_Number___rsub__ (T : Tx P K mg) : FnOk P w K mg base CX0 6 T.F_Number___rsub__ T.fd_Number___rsub__ ["self", "other"] (spBin T.C_Number fun p q => q - p) := by
  refine T.Number___rsub___ok.ok sc_Number___rsub__ (fun vs H Q E h => ?_) (fun cdv A outer s H vs Q E hr h => ?_)
  · obtain ⟨a, v, n, p, q, rfl, _⟩ := h
    rfl
  · obtain ⟨a, v, n, p, q, rfl, ha, hv, k⟩ := h
    have nd := sc_Number___rsub__.nd
    obtain ⟨dx, ea⟩ := ha.at_
    have n2 := ha.n2
    have n4 := ha.n4
    have p0 := ha.p0
    have pn := ha.pn
    obtain ⟨q0, qn⟩ := hv.bounds
    refine ⟨_, (pss_cons (ps_if (pt_not (pt_val (pe_call (ok_is_plain T) (hr.mono (by decide)) rfl T.is_plain_mg T.is_plain_ok.kp T.b_is_plain .nil pass0 (pa_cons (pe_fld (pv 0) rfl) (pa_cons (pv 1) pa_nil))))) (pss_one (ps_never)) pss_nil) (pss_one (ps_ret (pe_meth (pv 0) T.Number_cl ⟨T.Number_rounded_sl.at_, T.Number_rounded_sl.fn, T.Number_rounded_ok.kp⟩ (ok_Number_rounded T) (hr.mono (by decide)) T.b_Number_rounded .nil pass0 (pa_cons (pe_op op_sub (pe_call (ok_worth_of T) (hr.mono (by decide)) rfl T.worth_of_mg T.worth_of_ok.kp T.b_worth_of .nil pass0 (pa_cons (pv 1) pa_nil)) (pe_fld (pv 0) rfl)) pa_nil))))), ?_⟩
    refine ⟨_, rfl, a, T.C_Number, dx, _, _, rfl, ea, T.Number_cl, T.x_nS, nf_size n p, _, rfl, v, n, q, rfl, hv, _, rfl, iteF ?_⟩
    refine ⟨_, rfl, a, dx, _, rfl, ea, rfl, _, rfl, v, n, q, rfl, hv, _, rfl, a, T.C_Number, dx, _, _, rfl, ea, T.Number_cl, T.x_nW, nf_worth n p, _, _, rfl, rfl, a, n, p, _, rfl, ha, ?_, ?_, k⟩
    · exact (by omega)
    · exact (by omega)

theorem ok_Number___mul__ (T : Tx P K mg) : FnOk P w K mg base CX0 6 T.F_Number___mul__ T.fd_Number___mul__ ["self", "other"] (spBin T.C_Number fun p q => p * q) := by
  refine T.Number___mul___ok.ok sc_Number___mul__ (fun vs H Q E h => ?_) (fun cdv A outer s H vs Q E hr h => ?_)
  · obtain ⟨a, v, n, p, q, rfl, _⟩ := h
    rfl
  · obtain ⟨a, v, n, p, q, rfl, ha, hv, k⟩ := h
    have nd := sc_Number___mul__.nd
    obtain ⟨dx, ea⟩ := ha.at_
    have n2 := ha.n2
    have n4 := ha.n4
    have p0 := ha.p0
    have pn := ha.pn
    obtain ⟨q0, qn⟩ := hv.bounds
    refine ⟨_, (pss_cons (ps_if (pt_not (pt_val (pe_call (ok_is_plain T) (hr.mono (by decide)) rfl T.is_plain_mg T.is_plain_ok.kp T.b_is_plain .nil pass0 (pa_cons (pe_fld (pv 0) rfl) (pa_cons (pv 1) pa_nil))))) (pss_one (ps_never)) pss_nil) (pss_one (ps_ret (pe_meth (pv 0) T.Number_cl ⟨T.Number_rounded_sl.at_, T.Number_rounded_sl.fn, T.Number_rounded_ok.kp⟩ (ok_Number_rounded T) (hr.mono (by decide)) T.b_Number_rounded .nil pass0 (pa_cons (pe_op op_mul (pe_fld (pv 0) rfl) (pe_call (ok_worth_of T) (hr.mono (by decide)) rfl T.worth_of_mg T.worth_of_ok.kp T.b_worth_of .nil pass0 (pa_cons (pv 1) pa_nil))) pa_nil))))), ?_⟩
    refine ⟨_, rfl, a, T.C_Number, dx, _, _, rfl, ea, T.Number_cl, T.x_nS, nf_size n p, _, rfl, v, n, q, rfl, hv, _, rfl, iteF ?_⟩
    refine ⟨_, rfl, a, dx, _, rfl, ea, rfl, _, rfl, a, T.C_Number, dx, _, _, rfl, ea, T.Number_cl, T.x_nW, nf_worth n p, _, rfl, v, n, q, rfl, hv, _, _, rfl, rfl, .inl ⟨by omega, by omega⟩, a, n, p, _, rfl, ha, ?_, ?_, k⟩
    · exact (mul_lo p0 q0)
    · exact (mul_hi p0 q0 (by omega) (by omega))

theorem ok_Number___rmul__ (T : Tx P K mg) : FnOk P w K mg base CX0 6 T.F_Number___rmul__ T.fd_Number___rmul__ ["self", "other"] (spBin T.C_Number fun p q => q * p) := by
  refine T.Number___rmul___ok.ok sc_Number___rmul__ (fun vs H Q E h => ?_) (fun cdv A outer s H vs Q E hr h => ?_)
  · obtain ⟨a, v, n, p, q, rfl, _⟩ := h
    rfl
  · obtain ⟨a, v, n, p, q, rfl, ha, hv, k⟩ := h
    have nd := sc_Number___rmul__.nd
    obtain ⟨dx, ea⟩ := ha.at_
    have n2 := ha.n2
    have n4 := ha.n4
    have p0 := ha.p0
    have pn := ha.pn
    obtain ⟨q0, qn⟩ := hv.bounds
    refine ⟨_, (pss_cons (ps_if (pt_not (pt_val (pe_call (ok_is_plain T) (hr.mono (by decide)) rfl T.is_plain_mg T.is_plain_ok.kp T.b_is_plain .nil pass0 (pa_cons (pe_fld (pv 0) rfl) (pa_cons (pv 1) pa_nil))))) (pss_one (ps_never)) pss_nil) (pss_one (ps_ret (pe_meth (pv 0) T.Number_cl ⟨T.Number_rounded_sl.at_, T.Number_rounded_sl.fn, T.Number_rounded_ok.kp⟩ (ok_Number_rounded T) (hr.mono (by decide)) T.b_Number_rounded .nil pass0 (pa_cons (pe_op op_mul (pe_call (ok_worth_of T) (hr.mono (by decide)) rfl T.worth_of_mg T.worth_of_ok.kp T.b_worth_of .nil pass0 (pa_cons (pv 1) pa_nil)) (pe_fld (pv 0) rfl)) pa_nil))))), ?_⟩
    refine ⟨_, rfl, a, T.C_Number, dx, _, _, rfl, ea, T.Number_cl, T.x_nS, nf_size n p, _, rfl, v, n, q, rfl, hv, _, rfl, iteF ?_⟩
    refine ⟨_, rfl, a, dx, _, rfl, ea, rfl, _, rfl, v, n, q, rfl, hv, _, rfl, a, T.C_Number, dx, _, _, rfl, ea, T.Number_cl, T.x_nW, nf_worth n p, _, _, rfl, rfl, .inl ⟨by omega, by omega⟩, a, n, p, _, rfl, ha, ?_, ?_, k⟩
    · exact (mul_lo q0 p0)
    · exact (mul_hi q0 p0 (by omega) (by omega))

theorem ok_Number___eq__ (T : Tx P K mg) : FnOk P w K mg base CX0 6 T.F_Number___eq__ T.fd_Number___eq__ ["self", "other"] (spCmp T.C_Number fun p q => decide (V.int p = V.int q)) := by
  refine T.Number___eq___ok.ok sc_Number___eq__ (fun vs H Q E h => ?_) (fun cdv A outer s H vs Q E hr h => ?_)
  · obtain ⟨a, v, n, p, q, rfl, _⟩ := h
    rfl
  · obtain ⟨a, v, n, p, q, rfl, ha, hv, k⟩ := h
    have nd := sc_Number___eq__.nd
    obtain ⟨dx, ea⟩ := ha.at_
    refine ⟨_, (pss_cons (ps_if (pt_not (pt_val (pe_call (ok_is_plain T) (hr.mono (by decide)) rfl T.is_plain_mg T.is_plain_ok.kp T.b_is_plain .nil pass0 (pa_cons (pe_fld (pv 0) rfl) (pa_cons (pv 1) pa_nil))))) (pss_one (ps_never)) pss_nil) (pss_one (ps_ret (pe_cmpR op_eq (pe_fld (pv 0) rfl) (pe_call (ok_worth_of T) (hr.mono (by decide)) rfl T.worth_of_mg T.worth_of_ok.kp T.b_worth_of .nil pass0 (pa_cons (pv 1) pa_nil)) (nomark _))))), ?_⟩
    refine ⟨_, rfl, a, T.C_Number, dx, _, _, rfl, ea, T.Number_cl, T.x_nS, nf_size n p, _, rfl, v, n, q, rfl, hv, _, rfl, iteF ?_⟩
    exact ⟨_, rfl, a, T.C_Number, dx, _, _, rfl, ea, T.Number_cl, T.x_nW, nf_worth n p, _, rfl, v, n, q, rfl, hv, rfl, k⟩

theorem ok_Number___ne__ (T : Tx P K mg) : FnOk P w K mg base CX0 6 T.F_Number___ne__ T.fd_Number___ne__ ["self", "other"] (spCmp T.C_Number fun p q => !decide (V.int p = V.int q)) := by
  refine T.Number___ne___ok.ok sc_Number___ne__ (fun vs H Q E h => ?_) (fun cdv A outer s H vs Q E hr h => ?_)
  · obtain ⟨a, v, n, p, q, rfl, _⟩ := h
    rfl
  · obtain ⟨a, v, n, p, q, rfl, ha, hv, k⟩ := h
    have nd := sc_Number___ne__.nd
    obtain ⟨dx, ea⟩ := ha.at_
    refine ⟨_, (pss_cons (ps_if (pt_not (pt_val (pe_call (ok_is_plain T) (hr.mono (by decide)) rfl T.is_plain_mg T.is_plain_ok.kp T.b_is_plain .nil pass0 (pa_cons (pe_fld (pv 0) rfl) (pa_cons (pv 1) pa_nil))))) (pss_one (ps_never)) pss_nil) (pss_one (ps_ret (pe_cmpR op_ne (pe_fld (pv 0) rfl) (pe_call (ok_worth_of T) (hr.mono (by decide)) rfl T.worth_of_mg T.worth_of_ok.kp T.b_worth_of .nil pass0 (pa_cons (pv 1) pa_nil)) (nomark _))))), ?_⟩
    refine ⟨_, rfl, a, T.C_Number, dx, _, _, rfl, ea, T.Number_cl, T.x_nS, nf_size n p, _, rfl, v, n, q, rfl, hv, _, rfl, iteF ?_⟩
    exact ⟨_, rfl, a, T.C_Number, dx, _, _, rfl, ea, T.Number_cl, T.x_nW, nf_worth n p, _, rfl, v, n, q, rfl, hv, rfl, k⟩

theorem ok_Number___lt__ (T : Tx P K mg) : FnOk P w K mg base CX0 6 T.F_Number___lt__ T.fd_Number___lt__ ["self", "other"] (spCmp T.C_Number fun p q => decide (p < q)) := by
  refine T.Number___lt___ok.ok sc_Number___lt__ (fun vs H Q E h => ?_) (fun cdv A outer s H vs Q E hr h => ?_)
  · obtain ⟨a, v, n, p, q, rfl, _⟩ := h
    rfl
  · obtain ⟨a, v, n, p, q, rfl, ha, hv, k⟩ := h
    have nd := sc_Number___lt__.nd
    obtain ⟨dx, ea⟩ := ha.at_
    refine ⟨_, (pss_cons (ps_if (pt_not (pt_val (pe_call (ok_is_plain T) (hr.mono (by decide)) rfl T.is_plain_mg T.is_plain_ok.kp T.b_is_plain .nil pass0 (pa_cons (pe_fld (pv 0) rfl) (pa_cons (pv 1) pa_nil))))) (pss_one (ps_never)) pss_nil) (pss_one (ps_ret (pe_cmpR op_lt (pe_fld (pv 0) rfl) (pe_call (ok_worth_of T) (hr.mono (by decide)) rfl T.worth_of_mg T.worth_of_ok.kp T.b_worth_of .nil pass0 (pa_cons (pv 1) pa_nil)) (nomark _))))), ?_⟩
    refine ⟨_, rfl, a, T.C_Number, dx, _, _, rfl, ea, T.Number_cl, T.x_nS, nf_size n p, _, rfl, v, n, q, rfl, hv, _, rfl, iteF ?_⟩
    exact ⟨_, rfl, a, T.C_Number, dx, _, _, rfl, ea, T.Number_cl, T.x_nW, nf_worth n p, _, rfl, v, n, q, rfl, hv, _, _, rfl, rfl, k⟩

theorem ok_Number___le__ (T : Tx P K mg) : FnOk P w K mg base CX0 6 T.F_Number___le__ T.fd_Number___le__ ["self", "other"] (spCmp T.C_Number fun p q => decide (p ≤ q)) := by
  refine T.Number___le___ok.ok sc_Number___le__ (fun vs H Q E h => ?_) (fun cdv A outer s H vs Q E hr h => ?_)
  · obtain ⟨a, v, n, p, q, rfl, _⟩ := h
    rfl
  · obtain ⟨a, v, n, p, q, rfl, ha, hv, k⟩ := h
    have nd := sc_Number___le__.nd
    obtain ⟨dx, ea⟩ := ha.at_
    refine ⟨_, (pss_cons (ps_if (pt_not (pt_val (pe_call (ok_is_plain T) (hr.mono (by decide)) rfl T.is_plain_mg T.is_plain_ok.kp T.b_is_plain .nil pass0 (pa_cons (pe_fld (pv 0) rfl) (pa_cons (pv 1) pa_nil))))) (pss_one (ps_never)) pss_nil) (pss_one (ps_ret (pe_cmpR op_le (pe_fld (pv 0) rfl) (pe_call (ok_worth_of T) (hr.mono (by decide)) rfl T.worth_of_mg T.worth_of_ok.kp T.b_worth_of .nil pass0 (pa_cons (pv 1) pa_nil)) (nomark _))))), ?_⟩
    refine ⟨_, rfl, a, T.C_Number, dx, _, _, rfl, ea, T.Number_cl, T.x_nS, nf_size n p, _, rfl, v, n, q, rfl, hv, _, rfl, iteF ?_⟩
    exact ⟨_, rfl, a, T.C_Number, dx, _, _, rfl, ea, T.Number_cl, T.x_nW, nf_worth n p, _, rfl, v, n, q, rfl, hv, _, _, rfl, rfl, k⟩

theorem ok_Number___gt__ (T : Tx P K mg) : FnOk P w K mg base CX0 6 T.F_Number___gt__ T.fd_Number___gt__ ["self", "other"] (spCmp T.C_Number fun p q => decide (q < p)) := by
  refine T.Number___gt___ok.ok sc_Number___gt__ (fun vs H Q E h => ?_) (fun cdv A outer s H vs Q E hr h => ?_)
  · obtain ⟨a, v, n, p, q, rfl, _⟩ := h
    rfl
  · obtain ⟨a, v, n, p, q, rfl, ha, hv, k⟩ := h
    have nd := sc_Number___gt__.nd
    obtain ⟨dx, ea⟩ := ha.at_
    refine ⟨_, (pss_cons (ps_if (pt_not (pt_val (pe_call (ok_is_plain T) (hr.mono (by decide)) rfl T.is_plain_mg T.is_plain_ok.kp T.b_is_plain .nil pass0 (pa_cons (pe_fld (pv 0) rfl) (pa_cons (pv 1) pa_nil))))) (pss_one (ps_never)) pss_nil) (pss_one (ps_ret (pe_cmpR op_gt (pe_fld (pv 0) rfl) (pe_call (ok_worth_of T) (hr.mono (by decide)) rfl T.worth_of_mg T.worth_of_ok.kp T.b_worth_of .nil pass0 (pa_cons (pv 1) pa_nil)) (nomark _))))), ?_⟩
    refine ⟨_, rfl, a, T.C_Number, dx, _, _, rfl, ea, T.Number_cl, T.x_nS, nf_size n p, _, rfl, v, n, q, rfl, hv, _, rfl, iteF ?_⟩
    exact ⟨_, rfl, a, T.C_Number, dx, _, _, rfl, ea, T.Number_cl, T.x_nW, nf_worth n p, _, rfl, v, n, q, rfl, hv, _, _, rfl, rfl, k⟩

theorem ok_Number___ge__ (T : Tx P K mg) : FnOk P w K mg base CX0 6 T.F_Number___ge__ T.fd_Number___ge__ ["self", "other"] (spCmp T.C_Number fun p q => decide (q ≤ p)) := by
  refine T.Number___ge___ok.ok sc_Number___ge__ (fun vs H Q E h => ?_) (fun cdv A outer s H vs Q E hr h => ?_)
  · obtain ⟨a, v, n, p, q, rfl, _⟩ := h
    rfl
  · obtain ⟨a, v, n, p, q, rfl, ha, hv, k⟩ := h
    have nd := sc_Number___ge__.nd
    obtain ⟨dx, ea⟩ := ha.at_
    refine ⟨_, (pss_cons (ps_if (pt_not (pt_val (pe_call (ok_is_plain T) (hr.mono (by decide)) rfl T.is_plain_mg T.is_plain_ok.kp T.b_is_plain .nil pass0 (pa_cons (pe_fld (pv 0) rfl) (pa_cons (pv 1) pa_nil))))) (pss_one (ps_never)) pss_nil) (pss_one (ps_ret (pe_cmpR op_ge (pe_fld (pv 0) rfl) (pe_call (ok_worth_of T) (hr.mono (by decide)) rfl T.worth_of_mg T.worth_of_ok.kp T.b_worth_of .nil pass0 (pa_cons (pv 1) pa_nil)) (nomark _))))), ?_⟩
    refine ⟨_, rfl, a, T.C_Number, dx, _, _, rfl, ea, T.Number_cl, T.x_nS, nf_size n p, _, rfl, v, n, q, rfl, hv, _, rfl, iteF ?_⟩
    exact ⟨_, rfl, a, T.C_Number, dx, _, _, rfl, ea, T.Number_cl, T.x_nW, nf_worth n p, _, rfl, v, n, q, rfl, hv, _, _, rfl, rfl, k⟩

end
end K00

namespace K00
open PySem PySem.Spec PyProof.Rows L2 L2.TP
section
variable {P : Program} {w : World} {K : PySem.W.Frag} {mg : Str → Option Value} {base : Heap}
theorem num_c (T : Tx P K mg) : NumC K T.C_Number := ⟨T.x_slf, T.x_s1, T.x_s2⟩
/-- an own fault with the word zero -/
def ZeroE (CF : Addr) (H : Hp) (E : XK) : Prop := ∀ (H' : Hp) (t d : Addr), Ext H H' → H' t = some (.tup [.str "zero"]) → H' d = some (.xd [("words", .ref t), ("what", .non)]) → E (.ref CF) (some d) H'
theorem ZeroE.imp {CF : Addr} {H H' : Hp} {E : XK} (h : ZeroE CF H E) (e : Ext H H') : ZeroE CF H' E := fun H2 t d x => h H2 t d (e.trans x)
def spQuot (CF : Addr) : Sp := fun vs H Q E => ∃ a b : Int, vs = [.int a, .int b, .non] ∧ 0 ≤ b ∧ b ≤ 100 ∧ (b = 0 → ZeroE CF H E) ∧ (b ≠ 0 → Q (.int (a / b)) H)
theorem quot_binds (T : Tx P K mg) : ∃ ds, Vals [V.non] ds ∧ Binds K T.fd_quotient ["one", "other", "what"] ds :=
  T.quotient_ok.binds1 2 0 (by simp) rfl fun _ _ _ _ _ _ _ us its h1 h2 => match us, its, h1, h2 with | [_, _], [_], _, _ => ⟨_, rfl, rfl⟩
theorem ok_quotient (T : Tx P K mg) : FnOk P w K mg base (L2.CX P w) 1 T.F_quotient T.fd_quotient ["one", "other", "what"] (spQuot T.C_Fault) := by
  refine T.quotient_ok.ok sc_quotient (fun vs H Q E h => ?_) (fun cdv A outer s H vs Q E hr h => ?_)
  · obtain ⟨a, b, rfl, _⟩ := h
    rfl
  · obtain ⟨a, b, rfl, b0, b1, kz, kq⟩ := h
    have nd := sc_quotient.nd
    refine ⟨_, (pss_cons (ps_if (pt_cmpR op_eq (pv 1) pe_int (nomark _)) (pss_one (ps_raiseE rfl (takes_of rfl rfl rfl rfl) T.Fault_err (by decide) hr (pa_cons (pe_tup (pa_cons (pe_glob (v := .str "zero") rfl T.k_ZERO ⟨_, rfl⟩) pa_nil)) (pa_cons (pv 2) pa_nil)))) pss_nil) (pss_one (ps_ret (pe_op op_fdivN (pv 0) (pv 1))))), ?_⟩
    refine ⟨_, rfl, rfl, _, rfl, ?_⟩
    by_cases c : b = 0
    · subst c
      refine iteT ?_
      refine ⟨by show 1 ≤ sizeLine; decide, fun p hp => ?_⟩
      refine ⟨_, rfl, rfl, fun d hd => ?_⟩
      have ne : p ≠ d := fun z => by
        rw [← z, upd_same] at hd
        cases hd
      exact kz rfl _ p d ((ext_upd hp).trans (ext_upd hd)) (by rw [upd_ne ne]; exact upd_same) upd_same
    · have z : decide (V.int b = V.int 0) = false := decide_eq_false fun q => c (by injection q)
      rw [z]
      refine iteF ?_
      refine ⟨_, rfl, _, rfl, a, b, rfl, rfl, ⟨c, by omega⟩, ?_⟩
      show Q (.int (a.fdiv b)) H
      rw [Int.fdiv_eq_ediv_of_nonneg a b0]
      exact kq c

def spDiv (C CF : Addr) (f : Int → Int → Int) (z : Int → Int → Int) : Sp := fun vs H Q E => ∃ (a : Addr) (v : V) (n p q : Int), vs = [.ref a, v] ∧ NumAt C H a n p ∧ IsN C H v n q ∧ (z p q = 0 → ZeroE CF H E) ∧ (z p q ≠ 0 → ∀ x H', Ext H H' → NumAt C H' x n (f p q) → Q (.ref x) H')
theorem div_le {p q n : Int} (p0 : 0 ≤ p) (pn : p < n) (q0 : 0 ≤ q) : 0 ≤ p / q ∧ p / q < n := by
  refine ⟨Int.ediv_nonneg p0 q0, ?_⟩
  have := Int.ediv_le_self q p0
  omega
theorem ok_Number___floordiv__ (T : Tx P K mg) : FnOk P w K mg base (L2.CX P w) 6 T.F_Number___floordiv__ T.fd_Number___floordiv__ ["self", "other"] (spDiv T.C_Number T.C_Fault (fun p q => p / q) fun _ q => q) := by
  obtain ⟨ds, qd, qb⟩ := quot_binds T
  refine T.Number___floordiv___ok.okX sc_Number___floordiv__ (fun vs H Q E h => ?_) (fun cdv A outer s H vs Q E hr h => ?_)
  · obtain ⟨a, v, n, p, q, rfl, _⟩ := h
    rfl
  · obtain ⟨a, v, n, p, q, rfl, ha, hv, kz, kq⟩ := h
    have nd := sc_Number___floordiv__.nd
    obtain ⟨dx, ea⟩ := ha.at_
    have n4 := ha.n4
    obtain ⟨q0, qn⟩ := hv.bounds
    obtain ⟨d1, d2⟩ := div_le ha.p0 ha.pn q0
    refine ⟨_, (pss_cons (ps_if (pt_not (pt_val (pe_call (ok_is_plain T) (hr.mono (by decide)) rfl T.is_plain_mg T.is_plain_ok.kp T.b_is_plain .nil pass0 (pa_cons (pe_fld (pv 0) rfl) (pa_cons (pv 1) pa_nil))))) (pss_one (ps_never)) pss_nil) (pss_one (ps_ret (pe_make T.Number_mk (ok_Number__init__ T) (hr.mono (by decide)) (by rfl) T.Number_mg T.b_Number___init__ .nil pass0 (pa_cons (pe_fld (pv 0) rfl) (pa_cons (pe_call (ok_quotient T) (hr.mono (by decide)) rfl T.quotient_mg T.quotient_ok.kp qb qd (passes_call (takes_of rfl rfl rfl rfl) (fun _ _ _ _ z => z)) (pa_cons (pe_fld (pv 0) rfl) (pa_cons (pe_call (ok_worth_of T) (hr.mono (by decide)) rfl T.worth_of_mg T.worth_of_ok.kp T.b_worth_of .nil pass0 (pa_cons (pv 1) pa_nil)) pa_nil))) pa_nil)))))), ?_⟩
    refine ⟨_, rfl, a, T.C_Number, dx, _, _, rfl, ea, T.Number_cl, T.x_nS, nf_size n p, _, rfl, v, n, q, rfl, hv, _, rfl, iteF ?_⟩
    refine ⟨_, rfl, a, T.C_Number, dx, _, _, rfl, ea, T.Number_cl, T.x_nS, nf_size n p, _, rfl, a, T.C_Number, dx, _, _, rfl, ea, T.Number_cl, T.x_nW, nf_worth n p, _, rfl, v, n, q, rfl, hv, p, q, rfl, q0, by omega, kz, fun c => ?_⟩
    exact made ha.n2 ha.n4 d1 d2 (kq c)
theorem ok_Number___rfloordiv__ (T : Tx P K mg) : FnOk P w K mg base (L2.CX P w) 6 T.F_Number___rfloordiv__ T.fd_Number___rfloordiv__ ["self", "other"] (spDiv T.C_Number T.C_Fault (fun p q => q / p) fun p _ => p) := by
  obtain ⟨ds, qd, qb⟩ := quot_binds T
  refine T.Number___rfloordiv___ok.okX sc_Number___rfloordiv__ (fun vs H Q E h => ?_) (fun cdv A outer s H vs Q E hr h => ?_)
  · obtain ⟨a, v, n, p, q, rfl, _⟩ := h
    rfl
  · obtain ⟨a, v, n, p, q, rfl, ha, hv, kz, kq⟩ := h
    have nd := sc_Number___rfloordiv__.nd
    obtain ⟨dx, ea⟩ := ha.at_
    have n4 := ha.n4
    have p0 := ha.p0
    have pn := ha.pn
    obtain ⟨q0, qn⟩ := hv.bounds
    obtain ⟨d1, d2⟩ := div_le q0 qn p0
    refine ⟨_, (pss_cons (ps_if (pt_not (pt_val (pe_call (ok_is_plain T) (hr.mono (by decide)) rfl T.is_plain_mg T.is_plain_ok.kp T.b_is_plain .nil pass0 (pa_cons (pe_fld (pv 0) rfl) (pa_cons (pv 1) pa_nil))))) (pss_one (ps_never)) pss_nil) (pss_one (ps_ret (pe_make T.Number_mk (ok_Number__init__ T) (hr.mono (by decide)) (by rfl) T.Number_mg T.b_Number___init__ .nil pass0 (pa_cons (pe_fld (pv 0) rfl) (pa_cons (pe_call (ok_quotient T) (hr.mono (by decide)) rfl T.quotient_mg T.quotient_ok.kp qb qd (passes_call (takes_of rfl rfl rfl rfl) (fun _ _ _ _ z => z)) (pa_cons (pe_call (ok_worth_of T) (hr.mono (by decide)) rfl T.worth_of_mg T.worth_of_ok.kp T.b_worth_of .nil pass0 (pa_cons (pv 1) pa_nil)) (pa_cons (pe_fld (pv 0) rfl) pa_nil))) pa_nil)))))), ?_⟩
    refine ⟨_, rfl, a, T.C_Number, dx, _, _, rfl, ea, T.Number_cl, T.x_nS, nf_size n p, _, rfl, v, n, q, rfl, hv, _, rfl, iteF ?_⟩
    refine ⟨_, rfl, a, T.C_Number, dx, _, _, rfl, ea, T.Number_cl, T.x_nS, nf_size n p, _, rfl, v, n, q, rfl, hv, _, rfl, a, T.C_Number, dx, _, _, rfl, ea, T.Number_cl, T.x_nW, nf_worth n p, q, p, rfl, p0, by omega, kz, fun c => ?_⟩
    exact made ha.n2 ha.n4 d1 d2 (kq c)
def spNeg (C : Addr) : Sp := fun vs H Q _ => ∃ (a : Addr) (n p : Int), vs = [.ref a] ∧ NumAt C H a n p ∧ ∀ z H', Ext H H' → NumAt C H' z n (-p % n) → Q (.ref z) H'
theorem ok_Number___neg__ (T : Tx P K mg) : FnOk P w K mg base CX0 6 T.F_Number___neg__ T.fd_Number___neg__ ["self"] (spNeg T.C_Number) := by
  refine T.Number___neg___ok.ok sc_Number___neg__ (fun vs H Q E h => ?_) (fun cdv A outer s H vs Q E hr h => ?_)
  · obtain ⟨a, n, p, rfl, _⟩ := h
    rfl
  · obtain ⟨a, n, p, rfl, ha, k⟩ := h
    have nd := sc_Number___neg__.nd
    obtain ⟨dx, ea⟩ := ha.at_
    have n4 := ha.n4
    have p0 := ha.p0
    have pn := ha.pn
    refine ⟨_, (pss_one (ps_ret (pe_meth (pv 0) T.Number_cl ⟨T.Number_rounded_sl.at_, T.Number_rounded_sl.fn, T.Number_rounded_ok.kp⟩ (ok_Number_rounded T) (hr.mono (by decide)) T.b_Number_rounded .nil pass0 (pa_cons (pe_un un_neg (pe_fld (pv 0) rfl)) pa_nil)))), ?_⟩
    exact ⟨_, rfl, a, dx, _, rfl, ea, rfl, _, rfl, a, T.C_Number, dx, _, _, rfl, ea, T.Number_cl, T.x_nW, nf_worth n p, p, rfl, a, n, p, _, rfl, ha, by omega, by omega, k⟩
end
end K00

namespace K00
open PySem PySem.Spec PyProof.Rows L2 L2.TP
section
variable {P : Program} {w : World} {K : PySem.W.Frag} {mg : Str → Option Value} {base : Heap}
theorem primes_at (i : Int) (h0 : 0 ≤ i) (h5 : i < 5) : ∃ q : Int, atI [V.int 2147483647, V.int 2147483629, V.int 2147483587, V.int 2147483579, V.int 2147483563] i = some (.int q) ∧ 0 < q ∧ q < 4294967296 := by
  have h : i = 0 ∨ i = 1 ∨ i = 2 ∨ i = 3 ∨ i = 4 := by omega
  rcases h with rfl | rfl | rfl | rfl | rfl
  all_goals exact ⟨_, rfl, by decide, by decide⟩
theorem fm_nn {x m : Int} (h : 0 < m) : 0 ≤ x.fmod m := by
  rw [Int.fmod_eq_emod_of_nonneg x (by omega)]
  exact Int.emod_nonneg x (by omega)
theorem fm_lt {x m : Int} (h : 0 < m) : x.fmod m < m := by
  rw [Int.fmod_eq_emod_of_nonneg x (by omega)]
  exact Int.emod_lt_of_pos x h
theorem fd_nn {x m : Int} (hx : 0 ≤ x) (h : 0 < m) : 0 ≤ x.fdiv m := by
  rw [Int.fdiv_eq_ediv_of_nonneg x (by omega)]
  exact Int.ediv_nonneg hx (by omega)
theorem sq_lt {c : Int} (h0 : 0 ≤ c) (h1 : c ≤ 100001) : 0 ≤ 98081 * c * c ∧ 98081 * c * c ≤ 98081 * 100001 * 100001 := by
  have a1 : 0 ≤ 98081 * c := by omega
  have a2 : 98081 * c ≤ 98081 * 100001 := by omega
  exact ⟨Int.mul_nonneg a1 h0, Int.mul_le_mul a2 h1 h0 (by decide)⟩
theorem ok__law_take (T : Tx P K mg) : FnOk P w K mg base CX0 1 T.F__law_take T.fd__law_take ["_law_pot_here", "_law_upto"] spTake := by
  refine T._law_take_ok.ok sc__law_take (fun vs H Q E h => ?_) (fun cdv A outer s H vs Q E hr h => ?_)
  · obtain ⟨G, p, n, m, rfl, _⟩ := h
    rfl
  · obtain ⟨G, p, n, m, rfl, wp, hn, m0, m1, k⟩ := h
    have nd := sc__law_take.nd
    obtain ⟨a, b, c, hp, a0, b0, b1, c0, c1⟩ := wp.pot.at_
    refine ⟨_, (pss_cons (ps_if (pt_cmpR op_gt (pe_ix ix_list (pv 0) pe_int (fun _ _ => rfl)) pe_int (nomark _)) (pss_cons (ps_set (i := 2) nd rfl (Or.inl rfl) (pe_op op_modN (pe_callTy call_int1 (by rfl) T.b_int (by decide +kernel) (pa_cons (pe_ix ix_list (pv 0) pe_int (fun _ _ => rfl)) pa_nil)) (pv 1))) (pss_cons (ps_asg (pe_op op_fdivN (pe_ix ix_list (pv 0) pe_int (fun _ _ => rfl)) (pv 1)) (pg_sub (pv 0) pe_int set_list)) (pss_one (ps_ret (pv 2))))) pss_nil) (pss_cons (ps_asg (pe_op op_add (pe_ix ix_list (pv 0) pe_int (fun _ _ => rfl)) pe_int) (pg_sub (pv 0) pe_int set_list)) (pss_cons (ps_set (i := 3) nd rfl (Or.inl rfl) (pe_ix ix_list (pe_lst (pa_cons pe_int (pa_cons pe_int (pa_cons pe_int (pa_cons pe_int (pa_cons pe_int pa_nil)))))) (pe_op op_modN (pe_callTy call_int1 (by rfl) T.b_int (by decide +kernel) (pa_cons (pe_ix ix_list (pv 0) pe_int (fun _ _ => rfl)) pa_nil)) pe_int) (fun _ _ => rfl))) (pss_cons (ps_set (i := 4) nd rfl (Or.inl rfl) (pe_op op_modN (pe_callTy call_int1 (by rfl) T.b_int (by decide +kernel) (pa_cons (pe_op op_pow (pe_callTy call_int1 (by rfl) T.b_int (by decide +kernel) (pa_cons (pe_op op_add (pe_op op_add (pe_ix ix_list (pv 0) pe_int (fun _ _ => rfl)) (pe_op op_mul (pe_op op_mul pe_int (pe_ix ix_list (pv 0) pe_int (fun _ _ => rfl))) (pe_ix ix_list (pv 0) pe_int (fun _ _ => rfl)))) pe_int) pa_nil)) pe_int) pa_nil)) (pv 3))) (pss_cons (ps_set (i := 4) nd rfl (Or.inl rfl) (pe_op op_modN (pe_callTy call_int1 (by rfl) T.b_int (by decide +kernel) (pa_cons (pe_op op_mul (pv 4) (pe_op op_add (pe_op op_modN (pe_callTy call_int1 (by rfl) T.b_int (by decide +kernel) (pa_cons (pv 4) pa_nil)) pe_int) (pe_op op_mul pe_int (pe_ix ix_list (pv 0) pe_int (fun _ _ => rfl))))) pa_nil)) pe_int)) (pss_one (ps_ret (pe_op op_modN (pe_callTy call_int1 (by rfl) T.b_int (by decide +kernel) (pa_cons (pe_op op_fdivN (pv 4) pe_int) pa_nil)) (pv 1))))))))), ?_⟩
    refine ⟨_, rfl, p, _, _, _, rfl, rfl, SqL.of hp, rfl, _, _, rfl, rfl, _, rfl, ?_⟩
    refine ite2 (fun _ => ?_) (fun _ => ?_)
    · refine ⟨_, rfl, p, _, _, _, rfl, rfl, SqL.of hp, rfl, .inl ⟨_, rfl, _, rfl, _, _, rfl, rfl, (by show m ≠ 0; omega), ?_⟩⟩
      refine ⟨_, rfl, p, _, _, _, rfl, rfl, SqL.of hp, rfl, _, rfl, _, _, rfl, rfl, ⟨by omega, by omega⟩, ?_⟩
      refine ⟨_, rfl, p, _, _, 0, rfl, rfl, hp, rfl, ?_⟩
      refine ⟨_, rfl, ?_⟩
      refine k _ _ (fm_nn m0) (fm_lt m0) ⟨ext_over wp.ext wp.no, wp.no, ⟨_, b, c, upd_same, fd_nn a0 m0, b0, b1, c0, by omega⟩⟩
    · refine ⟨_, rfl, p, _, _, _, rfl, rfl, SqL.of hp, rfl, _, _, rfl, rfl, _, rfl, p, _, _, 2, rfl, rfl, hp, rfl, ?_⟩
      refine ⟨by show 5 ≤ sizeLine; decide, fun l hl => ?_⟩
      have ne : p ≠ l := fun z => by
        rw [← z, upd_same] at hl
        cases hl
      have hp2 : upd (upd H p (.lst [.int a, .int b, .int (c + 1)])) l (.lst [V.int 2147483647, V.int 2147483629, V.int 2147483587, V.int 2147483579, V.int 2147483563]) p = some (.lst [.int a, .int b, .int (c + 1)]) := by
        rw [upd_ne ne]
        exact upd_same
      obtain ⟨q, hq, q0, q1⟩ := primes_at ((c + 1).fmod 5) (fm_nn (by decide)) (fm_lt (by decide))
      refine ⟨_, rfl, p, _, _, _, rfl, rfl, SqL.of hp2, rfl, .inl ⟨_, rfl, _, _, rfl, rfl, (by show (5 : Int) ≠ 0; decide), l, _, _, _, rfl, rfl, SqL.of upd_same, hq, ?_⟩⟩
      obtain ⟨s1, s2⟩ := sq_lt (c := c + 1) (by omega) (by omega)
      refine ⟨_, rfl, p, _, _, _, rfl, rfl, SqL.of hp2, rfl, _, rfl, p, _, _, _, rfl, rfl, SqL.of hp2, rfl, _, _, rfl, rfl, .inl ⟨by omega, by omega⟩, _, rfl, p, _, _, _, rfl, rfl, SqL.of hp2, rfl, _, _, rfl, rfl, .inr ⟨by omega, by omega⟩, _, _, rfl, rfl, _, _, rfl, rfl, .inl ⟨_, rfl, _, _, rfl, rfl, ⟨by decide, by decide, ?_⟩, .inl ⟨_, rfl, _, rfl, _, _, rfl, rfl, (by show q ≠ 0; omega), ?_⟩⟩⟩
      · show (b + 98081 * (c + 1) * (c + 1) + 29).natAbs < 2 ^ 64
        omega
      have x0 := fm_nn (x := (b + 98081 * (c + 1) * (c + 1) + 29) ^ (3 : Int).toNat) q0
      have x1 := fm_lt (x := (b + 98081 * (c + 1) * (c + 1) + 29) ^ (3 : Int).toNat) q0
      generalize hx : ((b + 98081 * (c + 1) * (c + 1) + 29) ^ (3 : Int).toNat).fmod q = x at x0 x1
      refine ⟨_, rfl, _, rfl, .inl ⟨_, rfl, _, _, rfl, rfl, (by show (10009 : Int) ≠ 0; decide), _, rfl, p, _, _, _, rfl, rfl, SqL.of hp2, rfl, _, _, rfl, rfl, .inl ⟨by omega, by omega⟩, _, _, rfl, rfl, _, _, rfl, rfl, ?_, .inl ⟨_, rfl, _, _, rfl, rfl, (by show (2305843009213693907 : Int) ≠ 0; decide), ?_⟩⟩⟩
      · refine .inl ⟨?_, ?_⟩
        · show -(2 ^ 64) < ((b + 98081 * (c + 1) * (c + 1) + 29) ^ (3 : Int).toNat).fmod q
          rw [hx]
          omega
        · show ((b + 98081 * (c + 1) * (c + 1) + 29) ^ (3 : Int).toNat).fmod q < 2 ^ 64
          rw [hx]
          omega
      refine ⟨_, rfl, _, _, rfl, rfl, ⟨by decide, by decide⟩, .inl ⟨_, rfl, _, rfl, _, _, rfl, rfl, (by show m ≠ 0; omega), ?_⟩⟩
      refine k _ _ (fm_nn m0) (fm_lt m0) ⟨ext_over (ext_over wp.ext wp.no) (ext_none (ext_over wp.ext wp.no) hl), wp.no, ⟨a, b, c + 1, hp2, a0, b0, b1, by omega, by omega⟩⟩

/-- one of some things -/
def spOf (K : PySem.W.Frag) : Sp := fun vs H Q _ => ∃ (G : Hp) (p l : Addr) (n : Nat) (xs : List V), vs = [.ref p, .ref l] ∧ WP G p n H ∧ n ≤ 100000 ∧ SqL K G l xs ∧ 0 < xs.length ∧ xs.length ≤ 1000 ∧
  ∀ (i : Nat) (v : V) (H' : Hp), xs[i]? = some v → WP G p (n + 1) H' → Q v H'
theorem ok__law_of (T : Tx P K mg) : FnOk P w K mg base CX0 2 T.F__law_of T.fd__law_of ["_law_pot_here", "_law_some"] (spOf K) := by
  refine T._law_of_ok.ok sc__law_of (fun vs H Q E h => ?_) (fun cdv A outer s H vs Q E hr h => ?_)
  · obtain ⟨G, p, l, n, xs, rfl, _⟩ := h
    rfl
  · obtain ⟨G, p, l, n, xs, rfl, wp, hn, hl, l0, l1, k⟩ := h
    have nd := sc__law_of.nd
    refine ⟨_, (pss_one (ps_ret (pe_ix ix_list (pv 1) (pe_call (ok__law_take T) (hr.mono (by decide)) rfl T._law_take_mg T._law_take_ok.kp T.b__law_take .nil pass0 (pa_cons (pv 0) (pa_cons (pe_callB call_len_seq (by rfl) T.b_len (by decide +kernel) (pa_cons (pv 1) pa_nil)) pa_nil))) (fun _ _ => rfl)))), ?_⟩
    refine ⟨_, rfl, _, rfl, _, rfl, l, _, rfl, .inl (hl.ext wp.ext), G, p, n, (xs.length : Int), rfl, wp, hn, by omega, by omega, fun r H' r0 r1 wp' => ?_⟩
    obtain ⟨j, rfl⟩ : ∃ j : Nat, r = (j : Int) := ⟨r.toNat, by omega⟩
    have hj : j < xs.length := by omega
    refine ⟨l, _, _, _, rfl, rfl, hl.ext wp'.ext, atI_nat (List.getElem?_eq_getElem hj), ?_⟩
    exact k j _ H' (List.getElem?_eq_getElem hj) wp'

/-- the pot of a cell -/
def spPot (K : PySem.W.Frag) : Sp := fun vs H Q _ => ∃ (a : Addr) (ns : List Int) (k : Int), vs = [.ref a, .int k] ∧ SqL K H a (ns.map V.int) ∧ 0 ≤ k ∧ k ≤ 100 ∧
  ∀ (p : Addr) (x y : Int), H p = none → 0 ≤ x → 0 ≤ y → y < 2305843009213693952 → Q (.ref p) (upd H p (.lst [.int x, .int y, .int 0]))
theorem ok__law_pot (T : Tx P K mg) : FnOk P w K mg base CX0 1 T.F__law_pot T.fd__law_pot ["_law_script", "_law_k"] (spPot K) := by
  refine T._law_pot_ok.ok sc__law_pot (fun vs H Q E h => ?_) (fun cdv A outer s H vs Q E hr h => ?_)
  · obtain ⟨a, ns, k, rfl, _⟩ := h
    rfl
  · obtain ⟨a, ns, k, rfl, hS, k0, k1, q⟩ := h
    have nd := sc__law_pot.nd
    refine ⟨_, (Evl.pss_cut (ps_set (i := 2) nd rfl (Or.inl rfl) (pe_ifExp (pt_cmpR op_lt (pv 1) (pe_callB call_len_seq (by rfl) T.b_len (by decide +kernel) (pa_cons (pv 0) pa_nil)) (nomark _)) (pe_ix ix_list (pv 0) (pv 1) (fun _ _ => rfl)) (pe_op op_add (pe_op op_mul pe_int (pv 1)) pe_int))) (pss_cons (ps_set (i := 3) nd rfl (Or.inl rfl) (pe_op op_mul (pe_op op_modN (pe_callTy call_int1 (by rfl) T.b_int (by decide +kernel) (pa_cons (pe_callB call_abs (by rfl) T.b_abs (by decide +kernel) (pa_cons (pv 2) pa_nil)) pa_nil)) (pe_op op_powW (pe_op op_pow pe_int pe_int) pe_int)) (pe_callTy call_int1 (by rfl) T.b_int (by decide +kernel) (pa_cons (pe_cmpR op_ge (pe_callB call_abs (by rfl) T.b_abs (by decide +kernel) (pa_cons (pv 2) pa_nil)) (pe_op op_pow pe_int pe_int) (nomark _)) pa_nil)))) (pss_one (ps_ret (pe_lst (pa_cons (pv 3) (pa_cons (pe_op op_modN (pe_callTy call_int1 (by rfl) T.b_int (by decide +kernel) (pa_cons (pe_op op_add (pe_op op_add (pe_op op_mul (pe_op op_modN (pe_callTy call_int1 (by rfl) T.b_int (by decide +kernel) (pa_cons (pv 2) pa_nil)) pe_int) pe_int) (pe_op op_mul (pe_op op_mul pe_int (pv 1)) (pv 1))) pe_int) pa_nil)) pe_int) (pa_cons pe_int pa_nil)))))))), ?_⟩
    refine ⟨fun σ' H' => ∃ c : Int, σ' = [some (.ref a), some (.int k), some (.int c), none] ∧ H' = H, ?_, ?_⟩
    · refine ⟨_, rfl, _, rfl, a, _, rfl, .inl hS, _, _, rfl, rfl, _, rfl, ?_⟩
      refine ite2 (fun h => ?_) (fun _ => ?_)
      · have hk : k < ((ns.map V.int).length : Int) := of_decide_eq_true h
        rw [List.length_map] at hk
        obtain ⟨j, rfl⟩ : ∃ j : Nat, k = (j : Int) := ⟨k.toNat, by omega⟩
        have hj : j < ns.length := by omega
        refine ⟨_, rfl, _, rfl, a, _, _, _, rfl, rfl, hS, atI_nat (v := V.int ns[j]) ?_, ns[j], rfl, rfl⟩
        rw [List.getElem?_map, List.getElem?_eq_getElem hj]
        rfl
      · exact ⟨_, rfl, _, _, rfl, rfl, .inl ⟨by omega, by omega⟩, _, _, rfl, rfl, _, rfl, rfl⟩
    · rintro σ' H' ⟨c, rfl, rfl⟩
      refine ⟨_, rfl, _, rfl, .inl ⟨_, rfl, _, _, rfl, rfl, ⟨by decide, by decide, by decide⟩, _, _, rfl, rfl, ⟨by decide, by decide +kernel⟩, _, _, rfl, rfl, (by show ((10 : Int) ^ (60 : Int).toNat) ^ (5 : Int).toNat ≠ 0; decide +kernel), ?_⟩⟩
      generalize hA : (if c < 0 then -c else c) = A'
      have hb : (0 : Int) < (10 ^ (60 : Int).toNat) ^ (5 : Int).toNat := by decide +kernel
      refine ⟨_, rfl, _, rfl, _, _, rfl, rfl, ⟨by decide, by decide, by decide⟩, _, _, rfl, rfl, .inr ⟨_, rfl, _, _, rfl, rfl, .inr ?_, ?_⟩⟩
      · constructor <;> (split <;> omega)
      have own0 : 0 ≤ A'.fmod ((10 ^ (60 : Int).toNat) ^ (5 : Int).toNat) * (if decide ((10 : Int) ^ (18 : Int).toNat ≤ (if c < 0 then -c else c)) = true then (1 : Int) else 0) := by
        refine Int.mul_nonneg (fm_nn hb) ?_
        split <;> omega
      have y0 := fm_nn (x := c) (m := 2305843009213693951) (by decide)
      have y1 := fm_lt (x := c) (m := 2305843009213693951) (by decide)
      refine ⟨_, rfl, _, rfl, .inl ⟨_, rfl, _, _, rfl, rfl, (by show (2305843009213693951 : Int) ≠ 0; decide), _, _, rfl, rfl, .inr ⟨by decide, by decide⟩, _, rfl, _, _, rfl, rfl, .inl ⟨by decide, by decide⟩, _, rfl, _, _, rfl, rfl, .inr ⟨by omega, by omega⟩, _, _, rfl, rfl, _, _, rfl, rfl, .inl ⟨_, rfl, _, _, rfl, rfl, (by show (2305843009213693921 : Int) ≠ 0; decide), by show 3 ≤ sizeLine; decide, fun p hp => ?_⟩⟩⟩
      exact q p _ _ hp own0 (fm_nn (by decide)) (Int.lt_trans (fm_lt (by decide)) (by decide))
end
end K00

namespace K00
open PySem PySem.Spec PyProof.Rows L2 L2.TP
inductive Sg where
  | plus | minus | times | over
def Sg.str : Sg → Str
  | .plus => "+"
  | .minus => "-"
  | .times => "*"
  | .over => "//"
/-- the worth that a sign makes of two, none where it faults -/
def Sg.due : Sg → Int → Int → Int → Option Int
  | .plus, n, a, b => some ((a + b) % n)
  | .minus, n, a, b => some ((a - b) % n)
  | .times, n, a, b => some ((a * b) % n)
  | .over, _, a, b => if b = 0 then none else some (a / b)
def dueV : Option Int → V
  | none => .non
  | some d => .int d
/-- two values that stand for a and b, one of them a Number at least -/
def PairIs (C : Addr) (H : Hp) (u v : V) (n a b : Int) : Prop := (∃ x, u = .ref x ∧ NumAt C H x n a ∧ IsN C H v n b) ∨ (u = .int a ∧ 0 ≤ a ∧ a < n ∧ ∃ y, v = .ref y ∧ NumAt C H y n b)
theorem PairIs.ext {C : Addr} {H H' : Hp} {u v : V} {n a b : Int} (h : PairIs C H u v n a b) (e : Ext H H') : PairIs C H' u v n a b := by
  rcases h with ⟨x, rfl, h1, h2⟩ | ⟨rfl, h1, h2, y, rfl, h3⟩
  · exact .inl ⟨x, rfl, h1.ext e, h2.ext e⟩
  · exact .inr ⟨rfl, h1, h2, y, rfl, h3.ext e⟩
structure Bnd (n a b : Int) : Prop where
  n2 : 2 ≤ n
  n4 : n ≤ 4
  a0 : 0 ≤ a
  an : a < n
  b0 : 0 ≤ b
  bn : b < n
theorem PairIs.bnd {C : Addr} {H : Hp} {u v : V} {n a b : Int} (h : PairIs C H u v n a b) : Bnd n a b := by
  rcases h with ⟨x, rfl, h1, h2⟩ | ⟨rfl, h1, h2, y, rfl, h3⟩
  · exact ⟨h1.n2, h1.n4, h1.p0, h1.pn, h2.bounds.1, h2.bounds.2⟩
  · exact ⟨h3.n2, h3.n4, h1, h2, h3.p0, h3.pn⟩
theorem own_of {C : Addr} {sp spr : Sp} {E : XK} {H : Hp} {Q : VK} {u v : V} {n a b : Int} (h : PairIs C H u v n a b)
    (h1 : ∀ x, u = .ref x → NumAt C H x n a → IsN C H v n b → sp [u, v] H Q E) (h2 : ∀ y, v = .ref y → NumAt C H y n b → IsN C H u n a → spr [v, u] H Q E) : rOwnB C sp spr E u v H Q := by
  rcases h with ⟨x, rfl, hx, hv⟩ | ⟨rfl, a0, an, y, rfl, hy⟩
  · obtain ⟨dx, ex⟩ := hx.at_
    refine .inl ⟨x, dx, _, rfl, ex, ?_, h1 x rfl hx hv⟩
    rcases hv with ⟨y, rfl, hy⟩ | ⟨rfl, _, _⟩
    · obtain ⟨dy, ey⟩ := hy.at_
      exact .inl ⟨y, dy, _, rfl, ey⟩
    · exact .inr ⟨_, rfl⟩
  · obtain ⟨dy, ey⟩ := hy.at_
    exact .inr ⟨a, y, dy, _, rfl, rfl, ey, h2 y rfl hy (.inr ⟨rfl, a0, an⟩)⟩
theorem str_ne {x y : Str} (h : x ≠ y) : decide (V.str x = V.str y) = false := decide_eq_false fun z => h (by injection z)
theorem str_eq {x : Str} : decide (V.str x = V.str x) = true := decide_eq_true rfl

section
variable {P : Program} {w : World} {K : PySem.W.Frag} {mg : Str → Option Value} {base : Heap}
def spDue : Sp := fun vs H Q _ => ∃ (g : Sg) (n a b : Int), vs = [.str g.str, .int n, .int a, .int b] ∧ Bnd n a b ∧ ∀ H', Ext H H' → Q (dueV (g.due n a b)) H'
theorem ok__law_due (T : Tx P K mg) : FnOk P w K mg base CX0 1 T.F__law_due T.fd__law_due ["_law_sign", "_law_size", "_law_a", "_law_b"] spDue := by
  refine T._law_due_ok.ok sc__law_due (fun vs H Q E h => ?_) (fun cdv A outer s H vs Q E hr h => ?_)
  · obtain ⟨g, n, a, b, rfl, _⟩ := h
    rfl
  · obtain ⟨g, n, a, b, rfl, B, k⟩ := h
    have nd := sc__law_due.nd
    obtain ⟨n2, n4, a0, an, b0, bn⟩ := B
    refine ⟨_, (pss_cons (ps_if (pt_cmpR op_eq (pv 0) pe_str (nomark _)) (pss_one (ps_ret (pe_ifExp (pt_cmpR op_gt (pv 3) pe_int (nomark _)) (pe_op op_fdivN (pv 2) (pv 3)) pe_non))) pss_nil) (pss_cons (ps_set (i := 4) nd rfl (Or.inl rfl) (pe_dget (hu_of hr) (pe_disp (pps_cons pe_str (pe_op op_add (pv 2) (pv 3)) (pps_cons pe_str (pe_op op_sub (pv 2) (pv 3)) (pps_cons pe_str (pe_op op_mul (pv 2) (pv 3)) pps_nil))) (by rfl) (by rfl) (fun z => by cases z) (by decide)) (pv 0) (fun _ _ => rfl))) (pss_one (ps_ret (pe_op op_modN (pe_callTy call_int1 (by rfl) T.b_int (by decide +kernel) (pa_cons (pv 4) pa_nil)) (pv 1)))))), ?_⟩
    refine ⟨_, rfl, rfl, _, rfl, ?_⟩
    cases g with
    | over =>
      refine (show decide (V.str Sg.over.str = V.str "//") = true from str_eq) ▸ (if_pos rfl).mpr ?_
      refine ⟨_, rfl, _, _, rfl, rfl, _, rfl, ?_⟩
      by_cases c : b = 0
      · subst c
        exact iteF (k H Ext.rfl')
      · refine ite2 (fun _ => ?_) (fun z => absurd (decide_eq_true (by omega : 0 < b)) z)
        refine ⟨_, rfl, _, rfl, _, _, rfl, rfl, ⟨c, by omega⟩, ?_⟩
        have z := k H Ext.rfl'
        simp only [Sg.due, if_neg c, dueV] at z
        rw [← Int.fdiv_eq_ediv_of_nonneg a b0] at z
        exact z
    | plus =>
      have e : decide (V.str Sg.plus.str = V.str "//") = false := str_ne (by decide +kernel)
      rw [e]
      refine iteF ?_
      intro p hp
      refine ⟨_, rfl, _, rfl, _, _, rfl, rfl, _, rfl, _, rfl, _, _, rfl, rfl, _, rfl, _, rfl, _, _, rfl, rfl, .inl ⟨by omega, by omega⟩, upd_same, [(.inr "+", .int (a + b)), (.inr "-", .int (a - b)), (.inr "*", .int (a * b))], rfl, by show 3 ≤ 15; decide, ?_⟩
      have hv : valV (mergeK [] [(.inr "+", .int (a + b)), (.inr "-", .int (a - b)), (.inr "*", .int (a * b))]) (.inr "+") = some (.int (a + b)) := by kernel_rfl
      refine ⟨_, rfl, p, .int (a + b), rfl, hv ▸ DGet.k (k := Sum.inr "+") upd_same, ?_⟩
      refine ⟨_, rfl, .inl ⟨_, rfl, _, rfl, _, _, rfl, rfl, (by show n ≠ 0; omega), ?_⟩⟩
      have z := k
      simp only [Sg.due, dueV] at z
      rw [← Int.fmod_eq_emod_of_nonneg (a + b) (by omega)] at z
      exact z _ (ext_over (ext_upd hp) hp)
    | minus =>
      have e : decide (V.str Sg.minus.str = V.str "//") = false := str_ne (by decide +kernel)
      rw [e]
      refine iteF ?_
      intro p hp
      refine ⟨_, rfl, _, rfl, _, _, rfl, rfl, _, rfl, _, rfl, _, _, rfl, rfl, _, rfl, _, rfl, _, _, rfl, rfl, .inl ⟨by omega, by omega⟩, upd_same, [(.inr "+", .int (a + b)), (.inr "-", .int (a - b)), (.inr "*", .int (a * b))], rfl, by show 3 ≤ 15; decide, ?_⟩
      have hv : valV (mergeK [] [(.inr "+", .int (a + b)), (.inr "-", .int (a - b)), (.inr "*", .int (a * b))]) (.inr "-") = some (.int (a - b)) := by kernel_rfl
      refine ⟨_, rfl, p, .int (a - b), rfl, hv ▸ DGet.k (k := Sum.inr "-") upd_same, ?_⟩
      refine ⟨_, rfl, .inl ⟨_, rfl, _, rfl, _, _, rfl, rfl, (by show n ≠ 0; omega), ?_⟩⟩
      have z := k
      simp only [Sg.due, dueV] at z
      rw [← Int.fmod_eq_emod_of_nonneg (a - b) (by omega)] at z
      exact z _ (ext_over (ext_upd hp) hp)
    | times =>
      have e : decide (V.str Sg.times.str = V.str "//") = false := str_ne (by decide +kernel)
      rw [e]
      refine iteF ?_
      intro p hp
      refine ⟨_, rfl, _, rfl, _, _, rfl, rfl, _, rfl, _, rfl, _, _, rfl, rfl, _, rfl, _, rfl, _, _, rfl, rfl, .inl ⟨by omega, by omega⟩, upd_same, [(.inr "+", .int (a + b)), (.inr "-", .int (a - b)), (.inr "*", .int (a * b))], rfl, by show 3 ≤ 15; decide, ?_⟩
      have hv : valV (mergeK [] [(.inr "+", .int (a + b)), (.inr "-", .int (a - b)), (.inr "*", .int (a * b))]) (.inr "*") = some (.int (a * b)) := by kernel_rfl
      refine ⟨_, rfl, p, .int (a * b), rfl, hv ▸ DGet.k (k := Sum.inr "*") upd_same, ?_⟩
      refine ⟨_, rfl, .inl ⟨_, rfl, _, rfl, _, _, rfl, rfl, (by show n ≠ 0; omega), ?_⟩⟩
      have z := k
      simp only [Sg.due, dueV] at z
      rw [← Int.fmod_eq_emod_of_nonneg (a * b) (by omega)] at z
      exact z _ (ext_over (ext_upd hp) hp)

def spSigned (C CF : Addr) : Sp := fun vs H Q E => ∃ (g : Sg) (u v : V) (n a b : Int), vs = [.str g.str, u, v] ∧ PairIs C H u v n a b ∧ (g.due n a b = none → ZeroE CF H E) ∧ (∀ d, g.due n a b = some d → ∀ z H', Ext H H' → NumAt C H' z n d → Q (.ref z) H')
theorem ok__law_signed (T : Tx P K mg) : FnOk P w K mg base (L2.CX P w) 7 T.F__law_signed T.fd__law_signed ["_law_sign", "_law_one", "_law_other"] (spSigned T.C_Number T.C_Fault) := by
  refine T._law_signed_ok.okX sc__law_signed (fun vs H Q E h => ?_) (fun cdv A outer s H vs Q E hr h => ?_)
  · obtain ⟨g, u, v, n, a, b, rfl, _⟩ := h
    rfl
  · obtain ⟨g, u, v, n, a, b, rfl, hp, kz, kq⟩ := h
    have nd := sc__law_signed.nd
    refine ⟨_, (pss_cons (ps_if (pt_cmpR op_eq (pv 0) pe_str (nomark _)) (pss_one (ps_ret (pe_op (op_sign (op := .Add) (by decide +kernel) (by decide +kernel) (num_c T) T.Number___add___sl T.Number___radd___sl T.x_iadd T.x_iradd F.fills_int_add (fun y dy => Dadd y _ dy) (ok_Number___add__ T) (ok_Number___radd__ T) (hr.mono (by decide)) T.b_Number___add__ T.b_Number___radd__ pass0) (pv 1) (pv 2)))) pss_nil) (pss_cons (ps_if (pt_cmpR op_eq (pv 0) pe_str (nomark _)) (pss_one (ps_ret (pe_op (op_sign (op := .Sub) (by decide +kernel) (by decide +kernel) (num_c T) T.Number___sub___sl T.Number___rsub___sl T.x_isub T.x_irsub F.fills_int_sub (fun y dy => Dsub y _ dy) (ok_Number___sub__ T) (ok_Number___rsub__ T) (hr.mono (by decide)) T.b_Number___sub__ T.b_Number___rsub__ pass0) (pv 1) (pv 2)))) pss_nil) (pss_one (ps_ret (pe_ifExp (pt_cmpR op_eq (pv 0) pe_str (nomark _)) (pe_op (op_sign (op := .Mult) (by decide +kernel) (by decide +kernel) (num_c T) T.Number___mul___sl T.Number___rmul___sl T.x_imul T.x_irmul F.fills_int_mul (fun y dy => Dmul y _ dy) (ok_Number___mul__ T) (ok_Number___rmul__ T) (hr.mono (by decide)) T.b_Number___mul__ T.b_Number___rmul__ pass0) (pv 1) (pv 2)) (pe_op (op_sign (op := .FloorDiv) (by decide +kernel) (by decide +kernel) (num_c T) T.Number___floordiv___sl T.Number___rfloordiv___sl T.x_ifloordiv T.x_irfloordiv F.fills_int_floordiv (fun y dy => Dfdiv y _ dy) (ok_Number___floordiv__ T) (ok_Number___rfloordiv__ T) (hr.mono (by decide)) T.b_Number___floordiv__ T.b_Number___rfloordiv__ (passes_call (takes_of rfl rfl rfl rfl) (fun _ _ _ _ z => z))) (pv 1) (pv 2))))))), ?_⟩
    refine ⟨_, rfl, rfl, _, rfl, ?_⟩
    cases g with
    | plus =>
      refine (if_pos (show decide (V.str Sg.plus.str = V.str "+") = true from str_eq)).mpr ?_
      refine ⟨_, rfl, _, rfl, own_of hp (fun x hu hx hv => ?_) (fun y hv hy hu => ?_)⟩
      · subst hu
        exact ⟨x, v, n, a, b, rfl, hx, hv, kq _ rfl⟩
      · subst hv
        exact ⟨y, u, n, b, a, rfl, hy, hu, kq _ rfl⟩
    | minus =>
      refine (if_neg (show ¬ decide (V.str Sg.minus.str = V.str "+") = true by rw [str_ne (by decide +kernel)]; decide)).mpr ?_
      refine ⟨_, rfl, rfl, _, rfl, (if_pos (show decide (V.str Sg.minus.str = V.str "-") = true from str_eq)).mpr ?_⟩
      refine ⟨_, rfl, _, rfl, own_of hp (fun x hu hx hv => ?_) (fun y hv hy hu => ?_)⟩
      · subst hu
        exact ⟨x, v, n, a, b, rfl, hx, hv, kq _ rfl⟩
      · subst hv
        exact ⟨y, u, n, b, a, rfl, hy, hu, kq _ rfl⟩
    | times =>
      refine (if_neg (show ¬ decide (V.str Sg.times.str = V.str "+") = true by rw [str_ne (by decide +kernel)]; decide)).mpr ?_
      refine ⟨_, rfl, rfl, _, rfl, (if_neg (show ¬ decide (V.str Sg.times.str = V.str "-") = true by rw [str_ne (by decide +kernel)]; decide)).mpr ?_⟩
      refine ⟨_, rfl, rfl, _, rfl, (if_pos (show decide (V.str Sg.times.str = V.str "*") = true from str_eq)).mpr ?_⟩
      refine ⟨_, rfl, _, rfl, own_of hp (fun x hu hx hv => ?_) (fun y hv hy hu => ?_)⟩
      · subst hu
        exact ⟨x, v, n, a, b, rfl, hx, hv, kq _ rfl⟩
      · subst hv
        exact ⟨y, u, n, b, a, rfl, hy, hu, kq _ rfl⟩
    | over =>
      refine (if_neg (show ¬ decide (V.str Sg.over.str = V.str "+") = true by rw [str_ne (by decide +kernel)]; decide)).mpr ?_
      refine ⟨_, rfl, rfl, _, rfl, (if_neg (show ¬ decide (V.str Sg.over.str = V.str "-") = true by rw [str_ne (by decide +kernel)]; decide)).mpr ?_⟩
      refine ⟨_, rfl, rfl, _, rfl, (if_neg (show ¬ decide (V.str Sg.over.str = V.str "*") = true by rw [str_ne (by decide +kernel)]; decide)).mpr ?_⟩
      have kz' : b = 0 → ZeroE T.C_Fault H E := fun c => kz (by simp only [Sg.due]; rw [if_pos c])
      have kq' : b ≠ 0 → ∀ x H', Ext H H' → NumAt T.C_Number H' x n (a / b) → Q (.ref x) H' := fun c => kq _ (by simp only [Sg.due]; rw [if_neg c])
      refine ⟨_, rfl, _, rfl, own_of hp (fun x hu hx hv => ?_) (fun y hv hy hu => ?_)⟩
      · subst hu
        exact ⟨x, v, n, a, b, rfl, hx, hv, kz', kq'⟩
      · subst hv
        exact ⟨y, u, n, b, a, rfl, hy, hu, kz', kq'⟩

/-- what a sign is heard to make, as data -/
def heardD (n : Int) : Option Int → PyData
  | none => .tuple [.str "zero"]
  | some d => .tuple [.int n, .int d]
def spHeard (K : PySem.W.Frag) (C : Addr) : Sp := fun vs H Q _ => ∃ (g : Sg) (u v : V) (n a b : Int), vs = [.str g.str, u, v] ∧ PairIs C H u v n a b ∧ ∀ z H', Ext H H' → Dp K H' z (heardD n (g.due n a b)) → Q z H'
theorem ok__law_heard (T : Tx P K mg) : FnOk P w K mg base CX0 8 T.F__law_heard T.fd__law_heard ["_law_sign", "_law_one", "_law_other"] (spHeard K T.C_Number) := by
  refine T._law_heard_ok.ok sc__law_heard (fun vs H Q E h => ?_) (fun cdv A outer s H vs Q E hr h => ?_)
  · obtain ⟨g, u, v, n, a, b, rfl, _⟩ := h
    rfl
  · obtain ⟨g, u, v, n, a, b, rfl, hp, k⟩ := h
    have nd := sc__law_heard.nd
    refine ⟨_, (pss_cons (ps_try_as (i := 4) rfl rfl nd rfl rfl ⟨rfl, by decide, .inl T.Fault_mg⟩ takes0 (fun W pn xe tk _ => (pss_one (ps_set (i := 3) nd rfl (Or.inl rfl) (pe_callS (ok__law_signed T) (hr.mono (by decide)) rfl T._law_signed_mg T._law_signed_ok.kp T.b__law_signed (fun σ => passAt tk σ) (pa_cons (pv 0) (pa_cons (pv 1) (pa_cons (pv 2) pa_nil))))))) (fun a oe cls d pn hz hf => pss_one (ps_ret (pe_xf T.Fault_xf T.Fault_no0 hz hf (pv 4))))) (pss_one (ps_ret (pe_ifExp (pt_val (pe_callB call_isi (by rfl) T.b_isinstance (by decide +kernel) (pa_cons (pv 3) (pa_cons (pe_glob (v := .ref T.C_Number) rfl T.Number_mg rfl) pa_nil)))) (pe_tup (pa_cons (pe_prop (pv 3) T.Number_cl T.Number_size_pr (ok_Number_size T) (hr.mono (by decide)) T.b_Number_size .nil pass0 rfl) (pa_cons (pe_prop (pv 3) T.Number_cl T.Number_worth_pr (ok_Number_worth T) (hr.mono (by decide)) T.b_Number_worth .nil pass0 rfl) pa_nil))) pe_non)))), ?_⟩
    refine ⟨_, rfl, _, rfl, _, rfl, g, u, v, n, a, b, rfl, hp, fun hz H' t d x1 x2 x3 => ?_, fun d hd z H' x1 x2 => ?_⟩
    · refine ⟨true, T.Fault_te, fun _ e he => ?_, fun q => Bool.noConfusion q⟩
      refine ⟨_, rfl, rfl, rfl, d, _, .ref t, rfl, x3, rfl, ?_⟩
      refine k _ _ x1 ?_
      rw [hz]
      exact .tup (SqT.of x2) (.cons (.str _) .nil)
    · obtain ⟨dx, ez⟩ := x2.at_
      refine ⟨_, rfl, _, _, _, _, _, rfl, .own _, ty_num T x2, kit_num T, _, rfl, iteT ?_⟩
      refine ⟨_, rfl, z, dx, _, rfl, ez, z, dx, _, _, rfl, ez, nf_size n d, _, rfl, z, dx, _, rfl, ez, z, dx, _, _, rfl, ez, nf_worth n d, by show 2 ≤ sizeLine; decide, fun p hp' => ?_⟩
      refine k _ _ (x1.trans (ext_upd hp')) ?_
      rw [hd]
      exact .tup (SqT.of upd_same) (.cons (.int _) (.cons (.int _) .nil))
end
end K00

namespace K00
open PySem PySem.Spec PyProof.Rows L2 L2.TP
theorem due_bnd {g : Sg} {n a b d : Int} (B : Bnd n a b) (h : g.due n a b = some d) : 0 ≤ d ∧ d < n := by
  obtain ⟨n2, n4, a0, an, b0, bn⟩ := B
  have key : ∀ x : Int, 0 ≤ x % n ∧ x % n < n := fun x => ⟨Int.emod_nonneg x (by omega), Int.emod_lt_of_pos x (by omega)⟩
  cases g with
  | plus => cases h; exact key _
  | minus => cases h; exact key _
  | times => cases h; exact key _
  | over =>
    simp only [Sg.due] at h
    split at h
    · cases h
    · cases h
      exact div_le a0 an b0
theorem heard_sm {g : Sg} {n a b : Int} (B : Bnd n a b) : Sm 1 200 (heardD n (g.due n a b)) := by
  have n4 := B.n4
  have n2 := B.n2
  cases e : g.due n a b with
  | none => exact (Sm.tup (k := 0) (w := 100) ⟨by decide, by decide, by decide, by decide⟩).mono (by decide) (by decide)
  | some d =>
    obtain ⟨d0, dn⟩ := due_bnd B e
    exact (Sm.tup (SmA.cons (Sm.int (k := 0) (by omega : n.natAbs < 10 ^ 12)) (SmA.cons (Sm.int (by omega : d.natAbs < 10 ^ 12)) (SmA.nil (w := 0))))).mono (by decide) (by decide)
section
variable {P : Program} {w : World} {K : PySem.W.Frag} {mg : Str → Option Value} {base : Heap}
def spSR (K : PySem.W.Frag) (C : Addr) : Sp := fun vs H Q _ => ∃ (g : Sg) (t : Addr) (u v : V) (n a b : Int), vs = [.str g.str, .int n, .int a, .int b, .ref t] ∧ SqT K H t [u, v] ∧ PairIs C H u v n a b ∧ ∀ H', Ext H H' → Q (.bl true) H'
theorem ok__law_sign_right (T : Tx P K mg) : FnG P w K mg base CX0 9 T.F__law_sign_right T.fd__law_sign_right ["_law_sign", "_law_size", "_law_a", "_law_b", "_law_pair"] (spSR K T.C_Number) := by
  refine okG T._law_sign_right_ok sc__law_sign_right (fun vs H Q E h => ?_) (fun cdv A outer s H vs Q E gA hr h => ?_)
  · obtain ⟨g, t, u, v, n, a, b, rfl, _⟩ := h
    rfl
  · obtain ⟨g, t, u, v, n, a, b, rfl, ht, hp, k⟩ := h
    have nd := sc__law_sign_right.nd
    have B := hp.bnd
    refine ⟨_, (pss_cons (ps_set (i := 5) nd rfl (Or.inl rfl) (pe_call (ok__law_due T) (hr.mono (by decide)) rfl T._law_due_mg T._law_due_ok.kp T.b__law_due .nil pass0 (pa_cons (pv 0) (pa_cons (pv 1) (pa_cons (pv 2) (pa_cons (pv 3) pa_nil)))))) (pss_one (ps_ret (pe_cmpR op_eq (pe_callB (call_repr gA hr) (by rfl) T.b_repr (by decide +kernel) (pa_cons (pe_call (ok__law_heard T) (hr.mono (by decide)) rfl T._law_heard_mg T._law_heard_ok.kp T.b__law_heard .nil pass0 (pa_cons (pv 0) (pa_cons (pe_ix ix_tup (pv 4) pe_int (fun _ _ => rfl)) (pa_cons (pe_ix ix_tup (pv 4) pe_int (fun _ _ => rfl)) pa_nil)))) pa_nil)) (pe_callB (call_repr gA hr) (by rfl) T.b_repr (by decide +kernel) (pa_cons (pe_ifExp (pt_cmpR op_isN (pv 5) pe_non (nomark _)) (pe_tup (pa_cons pe_str pa_nil)) (pe_tup (pa_cons (pv 1) (pa_cons (pv 5) pa_nil)))) pa_nil)) (nomark _))))), ?_⟩
    refine ⟨_, rfl, _, rfl, _, rfl, _, rfl, g, n, a, b, rfl, B, fun H1 x1 => ?_⟩
    refine ⟨_, rfl, _, rfl, t, _, _, _, rfl, rfl, ht.ext x1, rfl, _, rfl, t, _, _, _, rfl, rfl, ht.ext x1, rfl, g, u, v, n, a, b, rfl, hp.ext x1, fun z H2 x2 dz => ?_⟩
    have sm := heard_sm (g := g) B
    refine ⟨z, _, rfl, dz, sm.shw, sm.d40, sm.len, ?_⟩
    refine ⟨_, rfl, rfl, _, rfl, ?_⟩
    cases e : g.due n a b with
    | none =>
      rw [e] at sm
      refine iteT ⟨by show 1 ≤ sizeLine; decide, fun p hp' => ?_⟩
      refine ⟨_, _, rfl, .tup (SqT.of upd_same) (.cons (.str _) .nil), sm.shw, sm.d40, sm.len, rfl, ?_⟩
      show Q (.bl (decide (V.str (heardD n none).shown = V.str (heardD n none).shown))) _
      rw [str_eq]
      exact k _ (x1.trans (x2.trans (ext_upd hp')))
    | some d =>
      rw [e] at sm
      refine iteF ⟨_, rfl, _, rfl, by show 2 ≤ sizeLine; decide, fun p hp' => ?_⟩
      refine ⟨_, _, rfl, .tup (SqT.of upd_same) (.cons (.int _) (.cons (.int _) .nil)), sm.shw, sm.d40, sm.len, rfl, ?_⟩
      show Q (.bl (decide (V.str (heardD n (some d)).shown = V.str (heardD n (some d)).shown))) _
      rw [str_eq]
      exact k _ (x1.trans (x2.trans (ext_upd hp')))

theorem cmp_of {C : Addr} {f f' : Int → Int → Bool} {E : XK} {H : Hp} {Q : VK} {u v : V} {n a b : Int} {r : Bool} (h : PairIs C H u v n a b) (e1 : f a b = r) (e2 : f' b a = r) (q : Q (.bl r) H) : rOwnB C (spCmp C f) (spCmp C f') E u v H Q := by
  refine own_of h (fun x hu hx hv => ?_) (fun y hv hy hu => ?_)
  · subst hu
    exact ⟨x, v, n, a, b, rfl, hx, hv, e1.symm ▸ q⟩
  · subst hv
    exact ⟨y, u, n, b, a, rfl, hy, hu, e2.symm ▸ q⟩
def cmpL (a b : Int) : List Bool := [decide (V.int a = V.int b), !decide (V.int a = V.int b), decide (a < b), decide (a ≤ b), decide (b < a), decide (b ≤ a)]
theorem int_comm (a b : Int) : decide (V.int b = V.int a) = decide (V.int a = V.int b) := decide_eq_decide.mpr ⟨Eq.symm, Eq.symm⟩
def spCompared (C : Addr) : Sp := fun vs H Q _ => ∃ (u v : V) (n a b : Int), vs = [u, v] ∧ PairIs C H u v n a b ∧ ∀ p H', Ext H H' → H' p = some (.lst ((cmpL a b).map V.bl)) → Q (.ref p) H'
theorem ok__law_compared (T : Tx P K mg) : FnOk P w K mg base CX0 7 T.F__law_compared T.fd__law_compared ["_law_one", "_law_other"] (spCompared T.C_Number) := by
  refine T._law_compared_ok.ok sc__law_compared (fun vs H Q E h => ?_) (fun cdv A outer s H vs Q E hr h => ?_)
  · obtain ⟨u, v, n, a, b, rfl, _⟩ := h
    rfl
  · obtain ⟨u, v, n, a, b, rfl, hp, k⟩ := h
    have nd := sc__law_compared.nd
    refine ⟨_, (pss_one (ps_ret (pe_lst (pa_cons (pe_cmpR (op_ownC (fun _ _ => rfl) (num_c T) T.Number___eq___sl T.Number___eq___sl (fun y dy => Deq y _ dy) (ok_Number___eq__ T) (ok_Number___eq__ T) (hr.mono (by decide)) T.b_Number___eq__ T.b_Number___eq__ pass0) (pv 0) (pv 1) (nomark _)) (pa_cons (pe_cmpR (op_ownC (fun _ _ => rfl) (num_c T) T.Number___ne___sl T.Number___ne___sl (fun y dy => Dne y _ dy) (ok_Number___ne__ T) (ok_Number___ne__ T) (hr.mono (by decide)) T.b_Number___ne__ T.b_Number___ne__ pass0) (pv 0) (pv 1) (nomark _)) (pa_cons (pe_cmpR (op_ownC (fun _ _ => rfl) (num_c T) T.Number___lt___sl T.Number___gt___sl (fun y dy => Dlt y _ dy) (ok_Number___lt__ T) (ok_Number___gt__ T) (hr.mono (by decide)) T.b_Number___lt__ T.b_Number___gt__ pass0) (pv 0) (pv 1) (nomark _)) (pa_cons (pe_cmpR (op_ownC (fun _ _ => rfl) (num_c T) T.Number___le___sl T.Number___ge___sl (fun y dy => Dle y _ dy) (ok_Number___le__ T) (ok_Number___ge__ T) (hr.mono (by decide)) T.b_Number___le__ T.b_Number___ge__ pass0) (pv 0) (pv 1) (nomark _)) (pa_cons (pe_cmpR (op_ownC (fun _ _ => rfl) (num_c T) T.Number___gt___sl T.Number___lt___sl (fun y dy => Dgt y _ dy) (ok_Number___gt__ T) (ok_Number___lt__ T) (hr.mono (by decide)) T.b_Number___gt__ T.b_Number___lt__ pass0) (pv 0) (pv 1) (nomark _)) (pa_cons (pe_cmpR (op_ownC (fun _ _ => rfl) (num_c T) T.Number___ge___sl T.Number___le___sl (fun y dy => Dge y _ dy) (ok_Number___ge__ T) (ok_Number___le__ T) (hr.mono (by decide)) T.b_Number___ge__ T.b_Number___le__ pass0) (pv 0) (pv 1) (nomark _)) pa_nil))))))))), ?_⟩
    refine ⟨_, rfl, _, rfl, cmp_of (r := decide (V.int a = V.int b)) hp rfl (int_comm a b) ?_⟩
    refine ⟨_, rfl, _, rfl, cmp_of (r := !decide (V.int a = V.int b)) hp rfl (by rw [int_comm]) ?_⟩
    refine ⟨_, rfl, _, rfl, cmp_of hp rfl rfl ?_⟩
    refine ⟨_, rfl, _, rfl, cmp_of hp rfl rfl ?_⟩
    refine ⟨_, rfl, _, rfl, cmp_of hp rfl rfl ?_⟩
    refine ⟨_, rfl, _, rfl, cmp_of hp rfl rfl ?_⟩
    refine ⟨by show 6 ≤ sizeLine; decide, fun p hp' => ?_⟩
    exact k p _ (ext_upd hp') upd_same
end
end K00

namespace K00
open PySem PySem.Spec PyProof.Rows L2 L2.TP
def sgs : List V := [.str "+", .str "-", .str "*", .str "//"]
theorem sgs_at {i : Nat} {x : V} (h : sgs[i]? = some x) : ∃ g : Sg, x = .str g.str := by
  match i, h with
  | 0, h => exact ⟨.plus, by cases h; rfl⟩
  | 1, h => exact ⟨.minus, by cases h; rfl⟩
  | 2, h => exact ⟨.times, by cases h; rfl⟩
  | 3, h => exact ⟨.over, by cases h; rfl⟩
  | n + 4, h => simp [sgs] at h
theorem cmp_sm (a b : Int) : Sm 1 6 (.list ((cmpL a b).map .bool)) :=
  Sm.lst (k := 0) (w := 6) (SmA.cons (w := 0) (w' := 5) (Sm.bl _) (SmA.cons (w := 0) (w' := 4) (Sm.bl _) (SmA.cons (w := 0) (w' := 3) (Sm.bl _) (SmA.cons (w := 0) (w' := 2) (Sm.bl _) (SmA.cons (w := 0) (w' := 1) (Sm.bl _) (SmA.cons (w := 0) (w' := 0) (Sm.bl _) SmA.nil))))))
theorem cmp_dp {K : PySem.W.Frag} {H : Hp} {p : Addr} {a b : Int} (h : H p = some (.lst ((cmpL a b).map V.bl))) : Dp K H (.ref p) (.list ((cmpL a b).map .bool)) :=
  .lst (SqL.of h) (.cons (.bl _) (.cons (.bl _) (.cons (.bl _) (.cons (.bl _) (.cons (.bl _) (.cons (.bl _) .nil))))))
theorem ints2_sm {a b : Int} (ha : a.natAbs < 10 ^ 12) (hb : b.natAbs < 10 ^ 12) : Sm 1 200 (.list [.int a, .int b]) :=
  (Sm.lst (k := 0) (SmA.cons (Sm.int ha) (SmA.cons (Sm.int hb) (SmA.nil (w := 0))))).mono (by decide) (by decide)
theorem ints4_sm {a b c d : Int} (ha : a.natAbs < 10 ^ 12) (hb : b.natAbs < 10 ^ 12) (hc : c.natAbs < 10 ^ 12) (hd : d.natAbs < 10 ^ 12) : Sm 1 200 (.list [.int a, .int b, .int c, .int d]) :=
  (Sm.lst (k := 0) (SmA.cons (Sm.int ha) (SmA.cons (Sm.int hb) (SmA.cons (Sm.int hc) (SmA.cons (Sm.int hd) (SmA.nil (w := 0))))))).mono (by decide) (by decide)
theorem newN {C : Addr} {H : Hp} {n p : Int} {x dx : Addr} (hx : H x = none) (hdx : H dx = none) (n2 : 2 ≤ n) (n4 : n ≤ 4) (p0 : 0 ≤ p) (pn : p < n) :
    Ext H (upd (upd (upd H dx (.own x)) x (.ins C dx [])) x (.ins C dx (nf n p))) ∧ NumAt C (upd (upd (upd H dx (.own x)) x (.ins C dx [])) x (.ins C dx (nf n p))) x n p := by
  rw [upd_upd]
  exact ⟨ext_new Ext.rfl' hx hdx, ⟨dx, upd_same⟩, n2, n4, p0, pn⟩
section
variable {P : Program} {w : World} {K : PySem.W.Frag} {mg : Str → Option Value} {base : Heap}
def spPR : Sp := fun vs H Q _ => ∃ (n a b : Int), vs = [.int n, .int a, .int b] ∧ Bnd n a b ∧ ∀ H', Ext H H' → Q (.bl true) H'
theorem ok__law_pair_right (T : Tx P K mg) : FnG P w K mg base CX0 10 T.F__law_pair_right T.fd__law_pair_right ["_law_size", "_law_a", "_law_b"] spPR := by
  refine okG T._law_pair_right_ok sc__law_pair_right (fun vs H Q E h => ?_) (fun cdv A outer s H vs Q E gA hr h => ?_)
  · obtain ⟨n, a, b, rfl, _⟩ := h
    rfl
  · obtain ⟨n, a, b, rfl, B, k⟩ := h
    have nd := sc__law_pair_right.nd
    obtain ⟨n2, n4, a0, an, b0, bn⟩ := id B
    refine ⟨_, (pss_cons (ps_par (i := 3) (j := 4) (by rfl) nd rfl rfl (by decide) rfl rfl (pa_cons (pe_make T.Number_mk (ok_Number__init__ T) (hr.mono (by decide)) (by rfl) T.Number_mg T.b_Number___init__ .nil pass0 (pa_cons (pv 0) (pa_cons (pv 1) pa_nil))) (pa_cons (pe_make T.Number_mk (ok_Number__init__ T) (hr.mono (by decide)) (by rfl) T.Number_mg T.b_Number___init__ .nil pass0 (pa_cons (pv 0) (pa_cons (pv 2) pa_nil))) pa_nil)) (by rfl)) (pss_cons (ps_for PassesOwn.never rfl (pi_list (pe_lst (pa_cons (pe_tup (pa_cons (pv 3) (pa_cons (pv 4) pa_nil))) (pa_cons (pe_tup (pa_cons (pv 3) (pa_cons (pv 2) pa_nil))) (pa_cons (pe_tup (pa_cons (pv 1) (pa_cons (pv 4) pa_nil))) pa_nil))))) (pg_name (i := 5) nd rfl (Or.inr rfl)) (pss_cons (ps_if (pt_not (pt_val (pe_callB (cr_all rfl) (by rfl) T.b_all (by decide +kernel) (pa_cons (pe_lc (own := [("_law_sign", 7)]) (g := gName 7) (by rfl) nd (pi_list (pe_lst (pa_cons pe_str (pa_cons pe_str (pa_cons pe_str (pa_cons pe_str pa_nil)))))) (blkOk_by (own := [("_law_sign", 7)]) (N := N__law_pair_right) (sc := defScope s__law_pair_right) (by decide +kernel)) (fun _ _ _ _ _ => (pg_name (i := 7) nd rfl (Or.inl rfl))) (fun _ _ _ _ _ => pts_nil) (fun _ _ _ _ _ => (pe_callG (ok__law_sign_right T) gA (hr.mono (by decide)) rfl T._law_sign_right_mg T._law_sign_right_ok.kp T.b__law_sign_right .nil pass0 (pa_cons (pv 7) (pa_cons (pv 0) (pa_cons (pv 1) (pa_cons (pv 2) (pa_cons (pv 5) pa_nil)))))))) pa_nil)))) (pss_one (ps_ret pe_bl)) pss_nil) (pss_one (ps_if (pt_cmpR op_ne (pe_callB (call_repr gA hr) (by rfl) T.b_repr (by decide +kernel) (pa_cons (pe_call (ok__law_compared T) (hr.mono (by decide)) rfl T._law_compared_mg T._law_compared_ok.kp T.b__law_compared .nil pass0 (pa_cons (pe_ix ix_tup (pv 5) pe_int (fun _ _ => rfl)) (pa_cons (pe_ix ix_tup (pv 5) pe_int (fun _ _ => rfl)) pa_nil))) pa_nil)) (pe_callB (call_repr gA hr) (by rfl) T.b_repr (by decide +kernel) (pa_cons (pe_lst (pa_cons (pe_cmpR op_eq (pv 1) (pv 2) (nomark _)) (pa_cons (pe_cmpR op_ne (pv 1) (pv 2) (nomark _)) (pa_cons (pe_cmpR op_lt (pv 1) (pv 2) (nomark _)) (pa_cons (pe_cmpR op_le (pv 1) (pv 2) (nomark _)) (pa_cons (pe_cmpR op_gt (pv 1) (pv 2) (nomark _)) (pa_cons (pe_cmpR op_ge (pv 1) (pv 2) (nomark _)) pa_nil))))))) pa_nil)) (nomark _)) (pss_one (ps_ret pe_bl)) pss_nil)))) (pss_cons (ps_set (i := 6) nd rfl (Or.inl rfl) (pe_un (un_ownN T.Number___neg___sl (ok_Number___neg__ T) (hr.mono (by decide)) T.b_Number___neg__ pass0) (pv 3))) (pss_cons (ps_if (PW.pt (pw_or (pt_not (pt_val (pe_callB call_isi (by rfl) T.b_isinstance (by decide +kernel) (pa_cons (pv 6) (pa_cons (pe_glob (v := .ref T.C_Number) rfl T.Number_mg rfl) pa_nil))))) (pw_or1 (pt_cmpR op_ne (pe_callB (call_repr gA hr) (by rfl) T.b_repr (by decide +kernel) (pa_cons (pe_lst (pa_cons (pe_prop (pv 6) T.Number_cl T.Number_size_pr (ok_Number_size T) (hr.mono (by decide)) T.b_Number_size .nil pass0 rfl) (pa_cons (pe_prop (pv 6) T.Number_cl T.Number_worth_pr (ok_Number_worth T) (hr.mono (by decide)) T.b_Number_worth .nil pass0 rfl) pa_nil))) pa_nil)) (pe_callB (call_repr gA hr) (by rfl) T.b_repr (by decide +kernel) (pa_cons (pe_lst (pa_cons (pv 0) (pa_cons (pe_op op_modN (pe_callTy call_int1 (by rfl) T.b_int (by decide +kernel) (pa_cons (pe_un un_neg (pv 1)) pa_nil)) (pv 0)) pa_nil))) pa_nil)) (nomark _))))) (pss_one (ps_ret pe_bl)) pss_nil) (pss_one (ps_ret (pe_cmpR op_eq (pe_callB (call_repr gA hr) (by rfl) T.b_repr (by decide +kernel) (pa_cons (pe_lst (pa_cons (pe_prop (pv 3) T.Number_cl T.Number_size_pr (ok_Number_size T) (hr.mono (by decide)) T.b_Number_size .nil pass0 rfl) (pa_cons (pe_prop (pv 3) T.Number_cl T.Number_worth_pr (ok_Number_worth T) (hr.mono (by decide)) T.b_Number_worth .nil pass0 rfl) (pa_cons (pe_prop (pv 4) T.Number_cl T.Number_size_pr (ok_Number_size T) (hr.mono (by decide)) T.b_Number_size .nil pass0 rfl) (pa_cons (pe_prop (pv 4) T.Number_cl T.Number_worth_pr (ok_Number_worth T) (hr.mono (by decide)) T.b_Number_worth .nil pass0 rfl) pa_nil))))) pa_nil)) (pe_callB (call_repr gA hr) (by rfl) T.b_repr (by decide +kernel) (pa_cons (pe_lst (pa_cons (pv 0) (pa_cons (pv 1) (pa_cons (pv 0) (pa_cons (pv 2) pa_nil))))) pa_nil)) (nomark _)))))))), ?_⟩
    refine ⟨_, rfl, _, rfl, ?_⟩
    intro x dx h1 h2 _
    refine ⟨x, dx, n, a, rfl, upd_same, n2, n4, a0, an, rfl, ?_⟩
    have F := newN (C := T.C_Number) h1 h2 n2 n4 a0 an
    generalize (upd (upd (upd H dx (.own x)) x (.ins T.C_Number dx [])) x (.ins T.C_Number dx (nf n a))) = H1 at F ⊢
    obtain ⟨x1, hx⟩ := F
    refine ⟨_, rfl, _, rfl, ?_⟩
    intro y dy h1 h2 _
    refine ⟨y, dy, n, b, rfl, upd_same, n2, n4, b0, bn, rfl, ?_⟩
    have F := newN (C := T.C_Number) h1 h2 n2 n4 b0 bn
    generalize (upd (upd (upd H1 dy (.own y)) y (.ins T.C_Number dy [])) y (.ins T.C_Number dy (nf n b))) = H2 at F ⊢
    obtain ⟨x2, hy⟩ := F
    refine ⟨_, _, rfl, ?_⟩
    have hx2 := hx.ext x2
    refine ⟨_, rfl, _, rfl, by show 2 ≤ sizeLine; decide, fun t1 ht1 => ?_⟩
    refine ⟨_, rfl, _, rfl, by show 2 ≤ sizeLine; decide, fun t2 ht2 => ?_⟩
    refine ⟨_, rfl, _, rfl, by show 2 ≤ sizeLine; decide, fun t3 ht3 => ?_⟩
    refine ⟨by show 3 ≤ sizeLine; decide, fun l hl => ?_⟩
    generalize hH3 : upd (upd (upd (upd H2 t1 (.tup [.ref x, .ref y])) t2 (.tup [.ref x, .int b])) t3 (.tup [.int a, .ref y])) l (.lst [.ref t1, .ref t2, .ref t3]) = H3
    have xl : Ext H2 H3 := by
      rw [← hH3]
      exact (ext_upd ht1).trans ((ext_upd ht2).trans ((ext_upd ht3).trans (ext_upd hl)))
    have e1 : H3 t1 = some (.tup [.ref x, .ref y]) := by
      rw [← hH3]
      exact ((ext_upd ht2).trans ((ext_upd ht3).trans (ext_upd hl))) _ _ upd_same
    have e2 : H3 t2 = some (.tup [.ref x, .int b]) := by
      rw [← hH3]
      exact ((ext_upd ht3).trans (ext_upd hl)) _ _ upd_same
    have e3 : H3 t3 = some (.tup [.int a, .ref y]) := by
      rw [← hH3]
      exact (ext_upd hl) _ _ upd_same
    have el : H3 l = some (.lst [.ref t1, .ref t2, .ref t3]) := by
      rw [← hH3]
      exact upd_same
    have hx3 := hx2.ext xl
    have hy3 := hy.ext xl
    refine ⟨l, rfl, ⟨_, SqL.of el⟩, for_list (K := K) (a := l) (xs := [.ref t1, .ref t2, .ref t3]) (fun i σ H' => (∃ v, σ = [some (.int n), some (.int a), some (.int b), some (.ref x), some (.ref y), v, none, none]) ∧ Ext H3 H')
      ⟨⟨_, rfl⟩, Ext.rfl'⟩ (fun i σ H' _ h => (SqL.of el).ext h.2) ?_ ?_⟩
    · rintro i z σ H' hi ⟨⟨v, rfl⟩, xx⟩
      obtain ⟨t, u, u', rfl, ht, hp⟩ : ∃ (t : Addr) (u u' : V), z = .ref t ∧ H3 t = some (.tup [u, u']) ∧ PairIs T.C_Number H3 u u' n a b := by
        match i, hi with
        | 0, hi => cases hi; exact ⟨t1, _, _, rfl, e1, .inl ⟨x, rfl, hx3, .inl ⟨y, rfl, hy3⟩⟩⟩
        | 1, hi => cases hi; exact ⟨t2, _, _, rfl, e2, .inl ⟨x, rfl, hx3, .inr ⟨rfl, b0, bn⟩⟩⟩
        | 2, hi => cases hi; exact ⟨t3, _, _, rfl, e3, .inr ⟨rfl, a0, an, y, rfl, hy3⟩⟩
        | m + 3, hi => simp at hi
      refine ⟨by show 4 ≤ sizeLine; decide, fun l2 hl2 => ?_⟩
      have xl2 : Ext H3 (upd H' l2 (.lst sgs)) := xx.trans (ext_upd hl2)
      refine ⟨l2, rfl, ⟨_, SqL.of upd_same⟩, fun D hD => ?_⟩
      have hD3 : (upd H' l2 (.lst sgs)) D = none := hD
      refine lc_list (K := K) (a := l2) (xs := sgs) (fun i H'' => Ext (upd H' l2 (.lst sgs)) H'' ∧ H'' D = some (.lst (List.replicate i (.bl true)))) ⟨ext_upd hD, upd_same⟩ (fun i H'' _ h => SqL.ext (SqL.of upd_same) h.1) (fun i g H'' hg h => ?_) (fun H'' h => ?_)
      · obtain ⟨g, rfl⟩ := sgs_at hg
        refine ⟨rfl, ?_⟩
        refine ⟨_, rfl, _, rfl, _, rfl, _, rfl, _, rfl, g, t, u, u', n, a, b, rfl, SqT.of ((xl2.trans h.1) _ _ ht), hp.ext (xl2.trans h.1), fun H4 x4 => ?_⟩
        have i4 : i < 4 := (List.getElem?_eq_some_iff.mp hg).1
        refine ⟨_, x4 _ _ h.2, by rw [List.length_replicate]; exact Nat.lt_trans i4 (by decide), ?_⟩
        refine ⟨ext_over (h.1.trans x4) hD3, ?_⟩
        rw [upd_same, List.replicate_succ']
      · refine ⟨D, List.replicate 4 true, rfl, SqL.of h.2, _, rfl, ?_⟩
        refine iteF ?_
        have x5 := xl2.trans h.1
        refine ⟨_, rfl, t, _, _, _, rfl, rfl, SqT.of (x5 _ _ ht), rfl, _, rfl, t, _, _, _, rfl, rfl, SqT.of (x5 _ _ ht), rfl, u, u', n, a, b, rfl, hp.ext x5, fun p H6 x6 hp6 => ?_⟩
        have sm := cmp_sm a b
        refine ⟨_, _, rfl, cmp_dp hp6, sm.shw, sm.d40, sm.len, ?_⟩
        refine ⟨_, rfl, _, rfl, rfl, _, rfl, _, rfl, rfl, _, rfl, _, rfl, _, _, rfl, rfl, _, rfl, _, rfl, _, _, rfl, rfl, _, rfl, _, rfl, _, _, rfl, rfl, _, rfl, _, rfl, _, _, rfl, rfl, by show 6 ≤ sizeLine; decide, fun p2 hp2 => ?_⟩
        refine ⟨_, _, rfl, cmp_dp upd_same, sm.shw, sm.d40, sm.len, rfl, _, rfl, ?_⟩
        refine (if_neg (show ¬ (!decide (V.str _ = V.str _)) = true by rw [str_eq]; decide)).mpr ?_
        exact ⟨⟨_, rfl⟩, x5.trans (x6.trans (ext_upd hp2))⟩
    · rintro σ H' ⟨⟨v, rfl⟩, xx⟩
      obtain ⟨dx, ex⟩ := (hx3.ext xx).at_
      refine ⟨_, rfl, x, dx, _, rfl, ex, x, n, a, rfl, hx3.ext xx, fun z H7 x7 hz => ?_⟩
      obtain ⟨dz, ez⟩ := hz.at_
      refine ⟨_, rfl, _, _, _, _, _, rfl, .own _, ty_num T hz, kit_num T, _, rfl, iteF ?_⟩
      refine ⟨_, rfl, z, dz, _, rfl, ez, z, dz, _, _, rfl, ez, nf_size n (-a % n), _, rfl, z, dz, _, rfl, ez, z, dz, _, _, rfl, ez, nf_worth n (-a % n), by show 2 ≤ sizeLine; decide, fun p hp => ?_⟩
      have m0 : 0 ≤ -a % n := Int.emod_nonneg _ (by omega)
      have m1 : -a % n < n := Int.emod_lt_of_pos _ (by omega)
      have sm := ints2_sm (a := n) (b := -a % n) (by omega) (by omega)
      refine ⟨_, _, rfl, .lst (SqL.of upd_same) (.cons (.int _) (.cons (.int _) .nil)), sm.shw, sm.d40, sm.len, ?_⟩
      refine ⟨_, rfl, _, rfl, _, rfl, .inl ⟨_, rfl, _, rfl, _, _, rfl, rfl, (by show n ≠ 0; omega), by show 2 ≤ sizeLine; decide, fun p2 hp2 => ?_⟩⟩
      have em : (-a).fmod n = -a % n := Int.fmod_eq_emod_of_nonneg _ (by omega)
      refine ⟨_, .list [.int n, .int (-a % n)], rfl, .lst (SqL.of (em ▸ upd_same)) (.cons (.int _) (.cons (.int _) .nil)), sm.shw, sm.d40, sm.len, rfl, _, rfl, ?_⟩
      refine (if_neg (show ¬ (!decide (V.str _ = V.str _)) = true by rw [str_eq]; decide)).mpr ?_
      have xz : Ext H3 (upd (upd H7 p (.lst [.int n, .int (-a % n)])) p2 (.lst [.int n, .int ((-a).fmod n)])) := xx.trans (x7.trans ((ext_upd hp).trans (ext_upd hp2)))
      obtain ⟨dx, ex⟩ := (hx3.ext xz).at_
      obtain ⟨dy, ey⟩ := (hy3.ext xz).at_
      refine ⟨_, rfl, x, dx, _, rfl, ex, x, dx, _, _, rfl, ex, nf_size n a, _, rfl, x, dx, _, rfl, ex, x, dx, _, _, rfl, ex, nf_worth n a, _, rfl, y, dy, _, rfl, ey, y, dy, _, _, rfl, ey, nf_size n b, _, rfl, y, dy, _, rfl, ey, y, dy, _, _, rfl, ey, nf_worth n b, by show 4 ≤ sizeLine; decide, fun p3 hp3 => ?_⟩
      have sm4 := ints4_sm (a := n) (b := a) (c := n) (d := b) (by omega) (by omega) (by omega) (by omega)
      refine ⟨_, _, rfl, .lst (SqL.of upd_same) (.cons (.int _) (.cons (.int _) (.cons (.int _) (.cons (.int _) .nil)))), sm4.shw, sm4.d40, sm4.len, ?_⟩
      refine ⟨_, rfl, _, rfl, _, rfl, _, rfl, by show 4 ≤ sizeLine; decide, fun p4 hp4 => ?_⟩
      refine ⟨_, _, rfl, .lst (SqL.of upd_same) (.cons (.int _) (.cons (.int _) (.cons (.int _) (.cons (.int _) .nil)))), sm4.shw, sm4.d40, sm4.len, rfl, ?_⟩
      show Q (.bl (decide (V.str _ = V.str _))) _
      rw [str_eq]
      exact k _ (x1.trans (x2.trans (xl.trans (xz.trans ((ext_upd hp3).trans (ext_upd hp4))))))
end
end K00

namespace K00
open PySem PySem.Spec PyProof.Rows L2 L2.TP
theorem passX0 {P : Program} {w : World} {X : Cx} : Passes (L2.CX P w) X E0 := fun _ _ _ _ _ _ _ h => by
  obtain ⟨_, _, _, _, _, _, _, _, _, _, _, _, z⟩ := h
  exact z.elim
theorem WP.keep {C : Addr} {G H : Hp} {p x : Addr} {m : Nat} {n a : Int} (w : WP G p m H) (h : NumAt C H x n a) : ∃ G', Ext G G' ∧ WP G' p m H ∧ NumAt C G' x n a := by
  obtain ⟨w2, e2⟩ := w.all
  obtain ⟨⟨dx, ex⟩, h1, h2, h3, h4⟩ := h
  obtain ⟨_, _, _, q, _⟩ := w.pot.at_
  have ne : x ≠ p := fun z => by
    rw [z, q] at ex
    cases ex
  exact ⟨_, e2, w2, ⟨⟨dx, (if_neg ne).trans ex⟩, h1, h2, h3, h4⟩⟩
theorem way_of {y : Int} (h0 : 0 ≤ y) (h5 : y < 5) (h4 : y ≠ 4) : y = 0 ∨ y = 1 ∨ y = 2 ∨ y = 3 := by omega
section
variable {P : Program} {w : World} {K : PySem.W.Frag} {mg : Str → Option Value} {base : Heap}
def spCR : Sp := fun vs H Q _ => ∃ (G : Hp) (p : Addr) (m : Nat) (n : Int), vs = [.ref p, .int n] ∧ WP G p m H ∧ m ≤ 90000 ∧ 2 ≤ n ∧ n ≤ 4 ∧ ∀ H', WP G p (m + 40) H' → Q (.bl true) H'
theorem ok__law_chain_right (T : Tx P K mg) : FnG P w K mg base CX0 10 T.F__law_chain_right T.fd__law_chain_right ["_law_pot_here", "_law_size"] spCR := by
  refine okG T._law_chain_right_ok sc__law_chain_right (fun vs H Q E h => ?_) (fun cdv A outer s H vs Q E gA hr h => ?_)
  · obtain ⟨G, p, m, n, rfl, _⟩ := h
    rfl
  · obtain ⟨G, p, m, n, rfl, wp, hm, n2, n4, k⟩ := h
    have nd := sc__law_chain_right.nd
    refine ⟨_, (pss_cons (ps_set (i := 2) nd rfl (Or.inl rfl) (pe_call (ok__law_take T) (hr.mono (by decide)) rfl T._law_take_mg T._law_take_ok.kp T.b__law_take .nil pass0 (pa_cons (pv 0) (pa_cons (pv 1) pa_nil)))) (pss_cons (ps_set (i := 3) nd rfl (Or.inl rfl) (pe_make T.Number_mk (ok_Number__init__ T) (hr.mono (by decide)) (by rfl) T.Number_mg T.b_Number___init__ .nil pass0 (pa_cons (pv 1) (pa_cons (pv 2) pa_nil)))) (pss_cons (ps_for PassesOwn.never rfl (pi_range1 (by rfl) T.b_range (pa_cons (pe_call (ok__law_take T) (hr.mono (by decide)) rfl T._law_take_mg T._law_take_ok.kp T.b__law_take .nil pass0 (pa_cons (pv 0) (pa_cons pe_int pa_nil))) pa_nil)) (pg_name (i := 4) nd rfl (Or.inl rfl)) (pss_cons (ps_par (i := 5) (j := 6) (by rfl) nd rfl rfl (by decide) rfl rfl (pa_cons (pe_call (ok__law_take T) (hr.mono (by decide)) rfl T._law_take_mg T._law_take_ok.kp T.b__law_take .nil pass0 (pa_cons (pv 0) (pa_cons (pv 1) pa_nil))) (pa_cons (pe_call (ok__law_take T) (hr.mono (by decide)) rfl T._law_take_mg T._law_take_ok.kp T.b__law_take .nil pass0 (pa_cons (pv 0) (pa_cons pe_int pa_nil))) pa_nil)) (by rfl)) (pss_cons (ps_if (pt_cmpR op_eq (pv 6) pe_int (nomark _)) (pss_cons (ps_par (i := 3) (j := 2) (by rfl) nd rfl rfl (by decide) rfl rfl (pa_cons (pe_un (un_ownN T.Number___neg___sl (ok_Number___neg__ T) (hr.mono (by decide)) T.b_Number___neg__ pass0) (pv 3)) (pa_cons (pe_op op_modN (pe_callTy call_int1 (by rfl) T.b_int (by decide +kernel) (pa_cons (pe_un un_neg (pv 2)) pa_nil)) (pv 1)) pa_nil)) (by rfl)) (pss_one ps_continue)) pss_nil) (pss_cons (ps_set (i := 7) nd rfl (Or.inl rfl) (pe_call (ok__law_of T) (hr.mono (by decide)) rfl T._law_of_mg T._law_of_ok.kp T.b__law_of .nil pass0 (pa_cons (pv 0) (pa_cons (pe_lst (pa_cons pe_str (pa_cons pe_str (pa_cons pe_str (pa_cons pe_str pa_nil))))) pa_nil)))) (pss_cons (ps_asg (pe_ix ix_list (pe_lst (pa_cons (pe_tup (pa_cons (pe_make T.Number_mk (ok_Number__init__ T) (hr.mono (by decide)) (by rfl) T.Number_mg T.b_Number___init__ .nil pass0 (pa_cons (pv 1) (pa_cons (pv 5) pa_nil))) (pa_cons (pv 5) pa_nil))) (pa_cons (pe_tup (pa_cons (pv 5) (pa_cons (pv 5) pa_nil))) (pa_cons (pe_tup (pa_cons (pv 3) (pa_cons (pv 2) pa_nil))) (pa_cons (pe_tup (pa_cons (pv 5) (pa_cons (pv 5) pa_nil))) pa_nil))))) (pv 6) (fun _ _ => rfl)) (pg_tup rfl (pgs_cons (pg_name (i := 8) nd rfl (Or.inl rfl)) (pgs_cons (pg_name (i := 5) nd rfl (Or.inl rfl)) pgs_nil)))) (Evl.pss_cut (ps_asg (pe_ifExp (pt_cmpR op_lt (pv 6) pe_int (nomark _)) (pe_tup (pa_cons (pe_tup (pa_cons (pv 3) (pa_cons (pv 8) pa_nil))) (pa_cons (pe_tup (pa_cons (pv 2) (pa_cons (pv 5) pa_nil))) pa_nil))) (pe_tup (pa_cons (pe_tup (pa_cons (pv 8) (pa_cons (pv 3) pa_nil))) (pa_cons (pe_tup (pa_cons (pv 5) (pa_cons (pv 2) pa_nil))) pa_nil)))) (pg_tup rfl (pgs_cons (pg_name (i := 9) nd rfl (Or.inl rfl)) (pgs_cons (pg_name (i := 10) nd rfl (Or.inl rfl)) pgs_nil)))) (pss_cons (ps_set (i := 11) nd rfl (Or.inl rfl) (pe_call (ok__law_due T) (hr.mono (by decide)) rfl T._law_due_mg T._law_due_ok.kp T.b__law_due .nil pass0 (pa_cons (pv 7) (pa_cons (pv 1) (pa_cons (pe_ix ix_tup (pv 10) pe_int (fun _ _ => rfl)) (pa_cons (pe_ix ix_tup (pv 10) pe_int (fun _ _ => rfl)) pa_nil)))))) (pss_cons (ps_if (pt_not (pt_val (pe_callG (ok__law_sign_right T) gA (hr.mono (by decide)) rfl T._law_sign_right_mg T._law_sign_right_ok.kp T.b__law_sign_right .nil pass0 (pa_cons (pv 7) (pa_cons (pv 1) (pa_cons (pe_ix ix_tup (pv 10) pe_int (fun _ _ => rfl)) (pa_cons (pe_ix ix_tup (pv 10) pe_int (fun _ _ => rfl)) (pa_cons (pv 9) pa_nil)))))))) (pss_one (ps_ret pe_bl)) pss_nil) (pss_one (ps_if (pt_cmpR op_notN (pv 11) pe_non (nomark _)) (pss_one (ps_par (i := 3) (j := 2) (by rfl) nd rfl rfl (by decide) rfl rfl (pa_cons (pe_call (ok__law_signed T) (hr.mono (by decide)) rfl T._law_signed_mg T._law_signed_ok.kp T.b__law_signed .nil passX0 (pa_cons (pv 7) (pa_cons (pe_ix ix_tup (pv 9) pe_int (fun _ _ => rfl)) (pa_cons (pe_ix ix_tup (pv 9) pe_int (fun _ _ => rfl)) pa_nil)))) (pa_cons (pv 11) pa_nil)) (by rfl))) pss_nil)))))))))) (pss_one (ps_ret (pe_cmpR op_eq (pe_callB (call_repr gA hr) (by rfl) T.b_repr (by decide +kernel) (pa_cons (pe_lst (pa_cons (pe_prop (pv 3) T.Number_cl T.Number_size_pr (ok_Number_size T) (hr.mono (by decide)) T.b_Number_size .nil pass0 rfl) (pa_cons (pe_prop (pv 3) T.Number_cl T.Number_worth_pr (ok_Number_worth T) (hr.mono (by decide)) T.b_Number_worth .nil pass0 rfl) pa_nil))) pa_nil)) (pe_callB (call_repr gA hr) (by rfl) T.b_repr (by decide +kernel) (pa_cons (pe_lst (pa_cons (pv 1) (pa_cons (pv 2) pa_nil))) pa_nil)) (nomark _))))))), ?_⟩
    refine ⟨_, rfl, _, rfl, G, p, m, n, rfl, wp, by omega, by omega, by omega, fun a H1 a0 an w1 => ?_⟩
    refine ⟨_, rfl, _, rfl, ?_⟩
    intro x dx h1 h2 _
    refine ⟨x, dx, n, a, rfl, upd_same, n2, n4, a0, an, rfl, ?_⟩
    have F := newN (C := T.C_Number) h1 h2 n2 n4 a0 an
    generalize (upd (upd (upd H1 dx (.own x)) x (.ins T.C_Number dx [])) x (.ins T.C_Number dx (nf n a))) = H2 at F ⊢
    obtain ⟨x2, hx⟩ := F
    obtain ⟨G1, g1, w2, hx1⟩ := WP.keep (w1.grow x2) hx
    refine ⟨_, rfl, G1, p, _, 13, rfl, w2, by omega, by decide, by decide, fun r H3 r0 r1 w3 => ?_⟩
    refine ⟨r, rfl, by omega, by omega, ?_⟩
    refine for_range (n := r.toNat) (lo := 0) (fun i σ H' => ∃ (G' : Hp) (x : Addr) (a : Int) (v4 v5 v6 v7 v8 v9 v10 v11 : Option V), σ = [some (.ref p), some (.int n), some (.int a), some (.ref x), v4, v5, v6, v7, v8, v9, v10, v11] ∧ Ext G G' ∧ WP G' p (m + 2 + 3 * i) H' ∧ NumAt T.C_Number G' x n a)
      ⟨G1, x, a, _, _, _, _, _, _, _, _, rfl, g1, w3, hx1⟩ ?_ ?_
    · rintro i σ H' hi ⟨G', x, a, v4, v5, v6, v7, v8, v9, v10, v11, rfl, gg, w, hx⟩
      have i13 : i < 13 := by omega
      refine ⟨_, rfl, _, rfl, G', p, _, n, rfl, w, by omega, by omega, by omega, fun b H4 b0 bn w4 => ?_⟩
      refine ⟨_, rfl, G', p, _, 5, rfl, w4, by omega, by decide, by decide, fun y H5 y0 y5 w5 => ⟨_, _, rfl, ?_⟩⟩
      refine ⟨_, rfl, rfl, _, rfl, ?_⟩
      by_cases c : y = 4
      · subst c
        refine (if_pos (show decide (V.int 4 = V.int 4) = true from decide_eq_true rfl)).mpr ?_
        have hx5 := hx.ext w5.ext
        obtain ⟨dx, ex⟩ := hx5.at_
        refine ⟨_, rfl, x, dx, _, rfl, ex, x, n, a, rfl, hx5, fun z H7 x7 hz => ?_⟩
        refine ⟨_, rfl, _, rfl, .inl ⟨_, rfl, _, rfl, _, _, rfl, rfl, (by show n ≠ 0; omega), _, _, rfl, ?_⟩⟩
        have em : (-a).fmod n = -a % n := Int.fmod_eq_emod_of_nonneg _ (by omega)
        obtain ⟨G7, g7, w7, hz7⟩ := WP.keep (w5.grow x7) hz
        refine ⟨G7, z, (-a).fmod n, _, _, _, _, _, _, _, _, rfl, gg.trans g7, w7.mono (by omega), ?_⟩
        rw [em]
        exact hz7
      · refine (if_neg (show ¬ decide (V.int y = V.int 4) = true from fun z => c (by injection of_decide_eq_true z))).mpr ?_
        refine ⟨_, rfl, by show 4 ≤ sizeLine; decide, fun l hl => ?_⟩
        refine ⟨_, p, l, _, sgs, rfl, w5.new hl, by omega, SqL.of upd_same, by decide, by decide, fun j v H6 hj w6 => ?_⟩
        obtain ⟨g, rfl⟩ := sgs_at hj
        have hx6 : NumAt T.C_Number H6 x n a := (hx.ext (ext_upd (ext_none w5.ext hl))).ext w6.ext
        have gw : Ext G' (upd G' l (.lst sgs)) := ext_upd (ext_none w5.ext hl)
        have a0 := hx.p0
        have an := hx.pn
        refine ⟨_, rfl, _, rfl, ?_⟩
        intro o do_ h1 h2 _
        refine ⟨o, do_, n, b, rfl, upd_same, n2, n4, b0, bn, rfl, ?_⟩
        have F := newN (C := T.C_Number) h1 h2 n2 n4 b0 bn
        generalize (upd (upd (upd H6 do_ (.own o)) o (.ins T.C_Number do_ [])) o (.ins T.C_Number do_ (nf n b))) = H7 at F ⊢
        obtain ⟨x7, ho⟩ := F
        refine ⟨_, rfl, by show 2 ≤ sizeLine; decide, fun t0 ht0 => ?_⟩
        refine ⟨_, rfl, _, rfl, by show 2 ≤ sizeLine; decide, fun t1 ht1 => ?_⟩
        refine ⟨_, rfl, _, rfl, by show 2 ≤ sizeLine; decide, fun t2 ht2 => ?_⟩
        refine ⟨_, rfl, _, rfl, by show 2 ≤ sizeLine; decide, fun t3 ht3 => ?_⟩
        refine ⟨by show 4 ≤ sizeLine; decide, fun l2 hl2 => ?_⟩
        generalize hH8 : upd (upd (upd (upd (upd H7 t0 (.tup [.ref o, .int b])) t1 (.tup [.int b, .int b])) t2 (.tup [.ref x, .int a])) t3 (.tup [.int b, .int b])) l2 (.lst [.ref t0, .ref t1, .ref t2, .ref t3]) = H8
        have x8 : Ext H7 H8 := by
          rw [← hH8]
          exact (ext_upd ht0).trans ((ext_upd ht1).trans ((ext_upd ht2).trans ((ext_upd ht3).trans (ext_upd hl2))))
        have e0 : H8 t0 = some (.tup [.ref o, .int b]) := by
          rw [← hH8]
          exact ((ext_upd ht1).trans ((ext_upd ht2).trans ((ext_upd ht3).trans (ext_upd hl2)))) _ _ upd_same
        have e1 : H8 t1 = some (.tup [.int b, .int b]) := by
          rw [← hH8]
          exact ((ext_upd ht2).trans ((ext_upd ht3).trans (ext_upd hl2))) _ _ upd_same
        have e2 : H8 t2 = some (.tup [.ref x, .int a]) := by
          rw [← hH8]
          exact ((ext_upd ht3).trans (ext_upd hl2)) _ _ upd_same
        have e3 : H8 t3 = some (.tup [.int b, .int b]) := by
          rw [← hH8]
          exact (ext_upd hl2) _ _ upd_same
        have el : H8 l2 = some (.lst [.ref t0, .ref t1, .ref t2, .ref t3]) := by
          rw [← hH8]
          exact upd_same
        have hx8 := (hx6.ext x7).ext x8
        have ho8 := ho.ext x8
        obtain ⟨t, u, b', hat, et, hu, h3⟩ : ∃ (t : Addr) (u : V) (b' : Int), atI [V.ref t0, V.ref t1, V.ref t2, V.ref t3] y = some (.ref t) ∧ H8 t = some (.tup [u, .int b']) ∧ IsN T.C_Number H8 u n b' ∧ (y = 3 → u = .int b') := by
          rcases way_of y0 y5 c with rfl | rfl | rfl | rfl
          · exact ⟨t0, _, _, rfl, e0, .inl ⟨o, rfl, ho8⟩, fun z => by omega⟩
          · exact ⟨t1, _, _, rfl, e1, .inr ⟨rfl, b0, bn⟩, fun z => by omega⟩
          · exact ⟨t2, _, _, rfl, e2, .inl ⟨x, rfl, hx8⟩, fun z => by omega⟩
          · exact ⟨t3, _, _, rfl, e3, .inr ⟨rfl, b0, bn⟩, fun z => rfl⟩
        refine ⟨_, rfl, l2, _, _, _, rfl, rfl, SqL.of el, hat, ?_⟩
        refine ⟨t, _, rfl, SqT.of et, rfl, _, _, rfl, _, _, rfl, rfl, ?_⟩
        refine ⟨fun σ' H' => ∃ (t t' : Addr) (u u' : V) (c d : Int) (v4 v5 v6 v8 v11 : Option V), σ' = [some (.ref p), some (.int n), some (.int a), some (.ref x), v4, v5, v6, some (.str g.str), v8, some (.ref t), some (.ref t'), v11] ∧ Ext H8 H' ∧ H' t = some (.tup [u, u']) ∧ H' t' = some (.tup [.int c, .int d]) ∧ PairIs T.C_Number H' u u' n c d, ?_, ?_⟩
        · refine ⟨_, rfl, _, _, rfl, rfl, _, rfl, ?_⟩
          refine ite2 (fun h => ?_) (fun h => ?_)
          · refine ⟨_, rfl, _, rfl, by show 2 ≤ sizeLine; decide, fun q1 hq1 => ⟨_, rfl, _, rfl, by show 2 ≤ sizeLine; decide, fun q2 hq2 => ⟨by show 2 ≤ sizeLine; decide, fun q3 hq3 => ?_⟩⟩⟩
            refine ⟨q3, _, rfl, SqT.of upd_same, rfl, _, _, rfl, _, _, rfl, rfl, ?_⟩
            have xq := (ext_upd (o := .tup [.ref x, u]) hq1).trans ((ext_upd (o := .tup [.int a, .int b']) hq2).trans (ext_upd (o := .tup [.ref q1, .ref q2]) hq3))
            exact ⟨q1, q2, _, _, _, _, _, _, _, _, _, rfl, xq, ((ext_upd hq2).trans (ext_upd hq3)) _ _ upd_same, (ext_upd hq3) _ _ upd_same, .inl ⟨x, rfl, hx8.ext xq, hu.ext xq⟩⟩
          · have y3 : y = 3 := by
              have := of_decide_eq_false (Bool.eq_false_iff.mpr h)
              omega
            have hu2 := h3 y3
            subst hu2
            obtain ⟨c0, c1⟩ := hu.bounds
            refine ⟨_, rfl, _, rfl, by show 2 ≤ sizeLine; decide, fun q1 hq1 => ⟨_, rfl, _, rfl, by show 2 ≤ sizeLine; decide, fun q2 hq2 => ⟨by show 2 ≤ sizeLine; decide, fun q3 hq3 => ?_⟩⟩⟩
            refine ⟨q3, _, rfl, SqT.of upd_same, rfl, _, _, rfl, _, _, rfl, rfl, ?_⟩
            have xq := (ext_upd (o := .tup [.int b', .ref x]) hq1).trans ((ext_upd (o := .tup [.int b', .int a]) hq2).trans (ext_upd (o := .tup [.ref q1, .ref q2]) hq3))
            exact ⟨q1, q2, _, _, _, _, _, _, _, _, _, rfl, xq, ((ext_upd hq2).trans (ext_upd hq3)) _ _ upd_same, (ext_upd hq3) _ _ upd_same, .inr ⟨rfl, c0, c1, x, rfl, hx8.ext xq⟩⟩
        · rintro σ' H9 ⟨t, t', u, u', c, d, v4, v5, v6, v8, v11, rfl, x9, et, et', hp⟩
          refine ⟨_, rfl, _, rfl, _, rfl, t', _, _, _, rfl, rfl, SqT.of et', rfl, _, rfl, t', _, _, _, rfl, rfl, SqT.of et', rfl, g, n, c, d, rfl, hp.bnd, fun H10 x10 => ?_⟩
          refine ⟨_, rfl, _, rfl, _, rfl, t', _, _, _, rfl, rfl, SqT.of (x10 _ _ et'), rfl, _, rfl, t', _, _, _, rfl, rfl, SqT.of (x10 _ _ et'), rfl, _, rfl, g, t, u, u', n, c, d, rfl, SqT.of (x10 _ _ et), hp.ext x10, fun H11 x11 => ?_⟩
          refine ⟨_, rfl, iteF ?_⟩
          have xx := x10.trans x11
          have w11 := w6.grow (x7.trans (x8.trans (x9.trans xx)))
          refine ⟨_, rfl, rfl, _, rfl, ?_⟩
          cases e : g.due n c d with
          | none =>
            refine iteF ?_
            obtain ⟨G7, g7, w7, hz7⟩ := WP.keep w11 (hx8.ext (x9.trans xx))
            exact ⟨G7, x, a, _, _, _, _, _, _, _, _, rfl, gg.trans (gw.trans g7), w7.mono (by omega), hz7⟩
          | some e' =>
            refine iteT ?_
            refine ⟨_, rfl, _, rfl, t, _, _, _, rfl, rfl, SqT.of (xx _ _ et), rfl, _, rfl, t, _, _, _, rfl, rfl, SqT.of (xx _ _ et), rfl, g, u, u', n, c, d, rfl, hp.ext xx, (fun z => by rw [e] at z; cases z), fun f hf z H12 x12 hz => ?_⟩
            rw [e] at hf
            cases hf
            refine ⟨_, rfl, _, _, rfl, ?_⟩
            obtain ⟨G7, g7, w7, hz7⟩ := WP.keep (w11.grow x12) hz
            exact ⟨G7, z, _, _, _, _, _, _, _, _, _, rfl, gg.trans (gw.trans g7), w7.mono (by omega), hz7⟩
    · rintro σ H' ⟨G', x, a, v4, v5, v6, v7, v8, v9, v10, v11, rfl, gg, w, hx⟩
      have hx' := hx.ext w.ext
      have a0 := hx.p0
      have an := hx.pn
      obtain ⟨dx, ex⟩ := hx'.at_
      refine ⟨_, rfl, x, dx, _, rfl, ex, x, dx, _, _, rfl, ex, nf_size n a, _, rfl, x, dx, _, rfl, ex, x, dx, _, _, rfl, ex, nf_worth n a, by show 2 ≤ sizeLine; decide, fun p1 hp1 => ?_⟩
      have sm := ints2_sm (a := n) (b := a) (by omega) (by omega)
      refine ⟨_, _, rfl, .lst (SqL.of upd_same) (.cons (.int _) (.cons (.int _) .nil)), sm.shw, sm.d40, sm.len, ?_⟩
      refine ⟨_, rfl, _, rfl, by show 2 ≤ sizeLine; decide, fun p2 hp2 => ?_⟩
      refine ⟨_, _, rfl, .lst (SqL.of upd_same) (.cons (.int _) (.cons (.int _) .nil)), sm.shw, sm.d40, sm.len, rfl, ?_⟩
      show Q (.bl (decide (V.str _ = V.str _))) _
      rw [str_eq]
      have wz := (w.grow (ext_upd hp1)).grow (ext_upd (o := .lst [.int n, .int a]) hp2)
      exact k _ ⟨gg.trans wz.ext, wp.no, (wz.mono (by omega)).pot⟩
end
end K00

namespace K00
open PySem PySem.Spec PyProof.Rows L2 L2.TP
theorem WP.over {G H : Hp} {p D : Addr} {o o' : HO} {m : Nat} (w : WP (upd G D o) p m H) (h : G D = none) : WP (upd G D o') p m (upd H D o') := by
  have ne : p ≠ D := fun z => by
    have := w.no
    rw [z, upd_same] at this
    cases this
  obtain ⟨a, b, c, q, h2⟩ := w.pot.at_
  have n1 := w.no
  rw [upd_ne ne] at n1
  exact ⟨ext_both ((ext_upd h).trans w.ext), by rw [upd_ne ne]; exact n1, ⟨a, b, c, by rw [upd_ne ne]; exact q, h2⟩⟩
theorem all_true (n : Nat) : (List.replicate n true).all id = true := by
  induction n with
  | zero => rfl
  | succ n ih => rw [List.replicate_succ, List.all_cons, ih]; rfl
theorem map_true (n : Nat) : (List.replicate n true).map V.bl = List.replicate n (.bl true) := List.map_replicate
section
variable {P : Program} {w : World} {K : PySem.W.Frag} {mg : Str → Option Value} {base : Heap}
def spR : Sp := fun vs H Q _ => ∃ (G : Hp) (p : Addr) (m : Nat), vs = [.ref p] ∧ WP G p m H ∧ m ≤ 80000 ∧ ∀ H', WP G p (m + 300) H' → Q (.bl true) H'
theorem ok__law_right (T : Tx P K mg) : FnG P w K mg base CX0 11 T.F__law_right T.fd__law_right ["_law_pot_here"] spR := by
  refine okG T._law_right_ok sc__law_right (fun vs H Q E h => ?_) (fun cdv A outer s H vs Q E gA hr h => ?_)
  · obtain ⟨G, p, m, rfl, _⟩ := h
    rfl
  · obtain ⟨G, p, m, rfl, wp, hm, k⟩ := h
    have nd := sc__law_right.nd
    refine ⟨_, (pss_cons (ps_set (i := 1) nd rfl (Or.inr rfl) (pe_op op_add pe_int (pe_call (ok__law_take T) (hr.mono (by decide)) rfl T._law_take_mg T._law_take_ok.kp T.b__law_take .nil pass0 (pa_cons (pv 0) (pa_cons pe_int pa_nil))))) (pss_cons (ps_for PassesOwn.never rfl (pi_range1 (by rfl) T.b_range (pa_cons (pv 1) pa_nil)) (pg_name (i := 2) nd rfl (Or.inr rfl)) (pss_one (ps_if (pt_not (pt_val (pe_callB (cr_all rfl) (by rfl) T.b_all (by decide +kernel) (pa_cons (pe_lc (own := [("_law_b", 4)]) (g := gName 4) (by rfl) nd (pi_range1 (by rfl) T.b_range (pa_cons (pv 1) pa_nil)) (blkOk_by (own := [("_law_b", 4)]) (N := N__law_right) (sc := defScope s__law_right) (by decide +kernel)) (fun _ _ _ _ _ => (pg_name (i := 4) nd rfl (Or.inl rfl))) (fun _ _ _ _ _ => pts_nil) (fun _ _ _ _ _ => (pe_callG (ok__law_pair_right T) gA (hr.mono (by decide)) rfl T._law_pair_right_mg T._law_pair_right_ok.kp T.b__law_pair_right .nil pass0 (pa_cons (pv 1) (pa_cons (pv 2) (pa_cons (pv 4) pa_nil)))))) pa_nil)))) (pss_one (ps_ret pe_bl)) pss_nil))) (pss_one (ps_ret (pe_callB (cr_all rfl) (by rfl) T.b_all (by decide +kernel) (pa_cons (pe_lc (own := [("_law_turn", 3)]) (g := gName 3) (by rfl) nd (pi_range1 (by rfl) T.b_range (pa_cons pe_int pa_nil)) (blkOk_by (own := [("_law_turn", 3)]) (N := N__law_right) (sc := defScope s__law_right) (by decide +kernel)) (fun _ _ _ _ _ => (pg_name (i := 3) nd rfl (Or.inl rfl))) (fun _ _ _ _ _ => pts_nil) (fun _ _ _ _ _ => (pe_callG (ok__law_chain_right T) gA (hr.mono (by decide)) rfl T._law_chain_right_mg T._law_chain_right_ok.kp T.b__law_chain_right .nil pass0 (pa_cons (pv 0) (pa_cons (pv 1) pa_nil))))) pa_nil)))))), ?_⟩
    refine ⟨_, rfl, G, p, m, 3, rfl, wp, by omega, by decide, by decide, fun r H1 r0 r3 w1 => ?_⟩
    refine ⟨_, _, rfl, rfl, ?_⟩
    have n2 : 2 ≤ 2 + r := by omega
    have n4 : 2 + r ≤ 4 := by omega
    refine ⟨_, rfl, 2 + r, rfl, by omega, by omega, ?_⟩
    refine for_range (n := (2 + r).toNat) (lo := 0) (fun i σ H' => ∃ (v2 : Option V), σ = [some (.ref p), some (.int (2 + r)), v2, none, none] ∧ WP G p (m + 1) H') ⟨_, rfl, w1⟩ ?_ ?_
    · rintro i σ H' hi ⟨v2, rfl, wi⟩
      refine ⟨_, rfl, 2 + r, rfl, by omega, by omega, fun D hD => ?_⟩
      refine lc_range (n := (2 + r).toNat) (lo := 0) (fun j H'' => Ext H' H'' ∧ H'' D = some (.lst (List.replicate j (.bl true)))) ⟨ext_upd hD, upd_same⟩ (fun j H'' hj h => ?_) (fun H'' h => ?_)
      · refine ⟨rfl, ?_⟩
        refine ⟨_, rfl, _, rfl, _, rfl, 2 + r, 0 + i, 0 + j, rfl, ⟨n2, n4, by omega, by omega, by omega, by omega⟩, fun H4 x4 => ?_⟩
        refine ⟨_, x4 _ _ h.2, by rw [List.length_replicate]; exact Nat.lt_trans (by omega : j < 4) (by decide), ?_⟩
        refine ⟨ext_over (h.1.trans x4) hD, ?_⟩
        rw [upd_same, List.replicate_succ']
      · refine ⟨D, List.replicate (2 + r).toNat true, rfl, (map_true _).symm ▸ SqL.of h.2, _, rfl, ?_⟩
        refine (if_neg (show ¬ (!(List.replicate (2 + r).toNat true).all id) = true by rw [all_true]; decide)).mpr ?_
        exact ⟨_, rfl, wi.grow h.1⟩
    · rintro σ H' ⟨v2, rfl, wi⟩
      refine ⟨6, rfl, by decide, by decide, fun D hD => ?_⟩
      have gD := ext_none wi.ext hD
      refine lc_range (n := 6) (lo := 0) (fun j H'' => WP (upd G D (.lst (List.replicate j (.bl true)))) p (m + 1 + 40 * j) H'') (wi.new hD) (fun j H'' hj h => ?_) (fun H'' h => ?_)
      · refine ⟨rfl, ?_⟩
        refine ⟨_, rfl, _, rfl, _, p, _, 2 + r, rfl, h, by omega, n2, n4, fun H4 w4 => ?_⟩
        refine ⟨_, w4.ext _ _ upd_same, by rw [List.length_replicate]; exact Nat.lt_trans hj (by decide), ?_⟩
        rw [← List.replicate_succ']
        exact (WP.over w4 gD).mono (by omega)
      · refine ⟨D, List.replicate 6 true, rfl, SqL.of (h.ext _ _ upd_same), ?_⟩
        exact k H'' ⟨(ext_upd gD).trans h.ext, wp.no, (h.mono (by omega)).pot⟩

def spLaw (K : PySem.W.Frag) : Sp := fun vs H Q _ => ∃ (a : Addr) (ns : List Int), vs = [.ref a] ∧ SqL K H a (ns.map V.int) ∧ ns.length ≤ 10000 ∧ ∀ H', Q (.bl true) H'
theorem ok_law (T : Tx P K mg) : FnG P w K mg base CX0 12 T.F_law T.fd_law ["_law_script"] (spLaw K) := by
  refine okG T.law_ok sc_law (fun vs H Q E h => ?_) (fun cdv A outer s H vs Q E gA hr h => ?_)
  · obtain ⟨a, ns, rfl, _⟩ := h
    rfl
  · obtain ⟨a, ns, rfl, hS, hl, k⟩ := h
    have nd := sc_law.nd
    refine ⟨_, (pss_one (ps_ret (pe_callB (cr_all rfl) (by rfl) T.b_all (by decide +kernel) (pa_cons (pe_lc (own := [("_law_k", 1)]) (g := gName 1) (by rfl) nd (pi_range1 (by rfl) T.b_range (pa_cons (pe_op op_add (pe_op op_add pe_int (pe_callTy call_int1 (by rfl) T.b_int (by decide +kernel) (pa_cons (pe_cmpR op_gt (pe_callB call_len_seq (by rfl) T.b_len (by decide +kernel) (pa_cons (pv 0) pa_nil)) pe_int (nomark _)) pa_nil))) (pe_callTy call_int1 (by rfl) T.b_int (by decide +kernel) (pa_cons (pe_cmpR op_gt (pe_callB call_len_seq (by rfl) T.b_len (by decide +kernel) (pa_cons (pv 0) pa_nil)) pe_int (nomark _)) pa_nil))) pa_nil)) (blkOk_by (own := [("_law_k", 1)]) (N := N_law) (sc := defScope s_law) (by decide +kernel)) (fun _ _ _ _ _ => (pg_name (i := 1) nd rfl (Or.inl rfl))) (fun _ _ _ _ _ => pts_nil) (fun _ _ _ _ _ => (pe_callG (ok__law_right T) gA (hr.mono (by decide)) rfl T._law_right_mg T._law_right_ok.kp T.b__law_right .nil pass0 (pa_cons (pe_call (ok__law_pot T) (hr.mono (by decide)) rfl T._law_pot_mg T._law_pot_ok.kp T.b__law_pot .nil pass0 (pa_cons (pv 0) (pa_cons (pv 1) pa_nil))) pa_nil)))) pa_nil)))), ?_⟩
    refine ⟨_, rfl, a, _, rfl, .inl hS, _, _, rfl, rfl, .inr ⟨_, rfl, _, _, rfl, rfl, _, rfl, a, _, rfl, .inl hS, _, _, rfl, rfl, .inr ⟨_, rfl, _, _, rfl, rfl, ?_⟩⟩⟩
    obtain ⟨j, hj⟩ : ∃ j : Int, 1 + (if decide (1 < ((ns.map V.int).length : Int)) = true then (1 : Int) else 0) + (if decide (2 < ((ns.map V.int).length : Int)) = true then (1 : Int) else 0) = j := ⟨_, rfl⟩
    have j0 : 0 ≤ j ∧ j ≤ 3 := by
      rw [← hj]
      constructor <;> (split <;> split <;> omega)
    refine ⟨j, by rw [← hj], by omega, by omega, fun D hD => ?_⟩
    refine lc_range (n := j.toNat) (lo := 0) (fun i H'' => Ext H H'' ∧ H'' D = some (.lst (List.replicate i (.bl true)))) ⟨ext_upd hD, upd_same⟩ (fun i H'' hi h => ?_) (fun H'' h => ?_)
    · refine ⟨rfl, ?_⟩
      refine ⟨_, rfl, _, rfl, a, ns, 0 + i, rfl, hS.ext h.1, by omega, by omega, fun p x y hp x0 y0 y1 => ?_⟩
      refine ⟨H'', p, 0, rfl, ⟨ext_upd hp, hp, ⟨x, y, 0, upd_same, x0, y0, y1, by decide, by decide⟩⟩, by decide, fun H4 w4 => ?_⟩
      refine ⟨_, w4.ext _ _ h.2, by rw [List.length_replicate]; exact Nat.lt_trans (by omega : i < 4) (by decide), ?_⟩
      refine ⟨ext_over (h.1.trans w4.ext) hD, ?_⟩
      rw [upd_same, List.replicate_succ']
    · refine ⟨D, List.replicate j.toNat true, rfl, (map_true _).symm ▸ SqL.of h.2, ?_⟩
      rw [all_true]
      exact k _
end
end K00

namespace K00
open PySem PySem.Spec PyProof.Rows L2 L2.TP
theorem walk0 {l : PySem.W.OpenLaw} {n : Nat} {q : Program} {loose : List Str} {XP : (Str → Option Value) → Heap → Prop} {YP : World → Heap → Prop} {d : DefRec} {K : Params → PySem.W.Frag}
    (hn : l.most = some n) (hn2 : n ≤ 10000) (hdf : d.params.defaults = []) (hr : Room 12 callerA) (hdn : d.name = "law") (hY : ∀ (w : World) (h : Heap), YP w h → (K w.params).In h)
    (F : ∀ (w : World) (mg : Str → Option Value) (fa : Addr) (h : Heap), (K w.params).In h → h.Ns mainGlobals mg → mg d.name = some (.ref fa) → Nonempty (Tx l.prog (K w.params) mg)) :
    PySem.W.WalkO q loose XP YP l.row.toRowW d [] (fun f vs => PySem.call f vs) := by
  refine walkG (k := 12) (sp := spLaw) (CX := CX0) (x := "_law_script") hn (Nat.le_trans hn2 (by decide)) hdf hr hY (fun w mg fa h KX G hmg => ?_) (fun K H a ns hl hb hO hS => ⟨a, ns, rfl, hS, Nat.le_trans hl hn2, fun _ => rfl⟩) (fun _ _ _ _ z => z)
  obtain ⟨T⟩ := F w mg fa h KX G hmg
  rw [hdn] at hmg
  have e := T.law_mg
  rw [hmg] at e
  injection e with e
  injection e with e
  subst e
  refine ⟨T.fd_law, fun s u => ?_, fun base _ _ => ok_law T⟩
  obtain ⟨_, _, _, _, _, _, _, _, _, e, _⟩ := T.law_ok.ex
  rw [e]
  exact .of_eq rfl
end K00

namespace K00
open PySem PySem.W PyProof.Rows
set_option maxRecDepth 100000 in
set_option maxHeartbeats 0 in
open_top hd for PySem.Challenge.rw_tapedonce_k00_signs_and_comparisons_of_n
end K00
open PySem PySem.W PyProof.Rows in
set_option maxRecDepth 100000 in
set_option maxHeartbeats 0 in
theorem PySem.Challenge.cw_tapedonce_k00_signs_and_comparisons_of_n_holds : PySem.Challenge.rw_tapedonce_k00_signs_and_comparisons_of_n.Holds :=
  K00.hd (by
  k_fill
  refine K00.walk0 (l := PySem.Challenge.rw_tapedonce_k00_signs_and_comparisons_of_n) rfl (by decide) rfl ⟨by decide, by decide, by decide⟩ rfl (fun w h Y => PySem.W.kIn_of Y) ?F
  case F =>
    intro w mg fa h KX G hmg
    constructor
    refine' K00.tx_mk KX G ⟨rfl, trivial⟩ ?a_Number ?a_Fault ?pg_Number ?hd_Number ?po_Number ?sa_Number ?kc_Number ?tc_Number ?mk_Number ?g_is_integer ?l_is_integer ?c_is_integer ?k_is_integer ?g_is_from ?l_is_from ?c_is_from ?k_is_from ?g_worth_of ?l_worth_of ?c_worth_of ?k_worth_of ?g_is_plain ?l_is_plain ?c_is_plain ?k_is_plain ?g_quotient ?l_quotient ?c_quotient ?k_quotient ?dV1_quotient ?dV2_quotient ?dV3_quotient ?dV4_quotient ?g_Number___init__ ?i_Number___init__ ?l_Number___init__ ?c_Number___init__ ?k_Number___init__ ?g_Number_size ?gg_Number_size ?gt_Number_size ?gr_Number_size ?l_Number_size ?c_Number_size ?k_Number_size ?g_Number_worth ?gg_Number_worth ?gt_Number_worth ?gr_Number_worth ?l_Number_worth ?c_Number_worth ?k_Number_worth ?g_Number_rounded ?i_Number_rounded ?l_Number_rounded ?c_Number_rounded ?k_Number_rounded ?g_Number___add__ ?i_Number___add__ ?l_Number___add__ ?c_Number___add__ ?k_Number___add__ ?g_Number___sub__ ?i_Number___sub__ ?l_Number___sub__ ?c_Number___sub__ ?k_Number___sub__ ?g_Number___mul__ ?i_Number___mul__ ?l_Number___mul__ ?c_Number___mul__ ?k_Number___mul__ ?g_Number___floordiv__ ?i_Number___floordiv__ ?l_Number___floordiv__ ?c_Number___floordiv__ ?k_Number___floordiv__ ?g_Number___radd__ ?i_Number___radd__ ?l_Number___radd__ ?c_Number___radd__ ?k_Number___radd__ ?g_Number___rsub__ ?i_Number___rsub__ ?l_Number___rsub__ ?c_Number___rsub__ ?k_Number___rsub__ ?g_Number___rmul__ ?i_Number___rmul__ ?l_Number___rmul__ ?c_Number___rmul__ ?k_Number___rmul__ ?g_Number___rfloordiv__ ?i_Number___rfloordiv__ ?l_Number___rfloordiv__ ?c_Number___rfloordiv__ ?k_Number___rfloordiv__ ?g_Number___neg__ ?i_Number___neg__ ?l_Number___neg__ ?c_Number___neg__ ?k_Number___neg__ ?g_Number___eq__ ?i_Number___eq__ ?l_Number___eq__ ?c_Number___eq__ ?k_Number___eq__ ?g_Number___ne__ ?i_Number___ne__ ?l_Number___ne__ ?c_Number___ne__ ?k_Number___ne__ ?g_Number___lt__ ?i_Number___lt__ ?l_Number___lt__ ?c_Number___lt__ ?k_Number___lt__ ?g_Number___le__ ?i_Number___le__ ?l_Number___le__ ?c_Number___le__ ?k_Number___le__ ?g_Number___gt__ ?i_Number___gt__ ?l_Number___gt__ ?c_Number___gt__ ?k_Number___gt__ ?g_Number___ge__ ?i_Number___ge__ ?l_Number___ge__ ?c_Number___ge__ ?k_Number___ge__ ?g__law_pot ?l__law_pot ?c__law_pot ?k__law_pot ?g__law_take ?l__law_take ?c__law_take ?k__law_take ?g__law_of ?l__law_of ?c__law_of ?k__law_of ?g__law_due ?l__law_due ?c__law_due ?k__law_due ?g__law_signed ?l__law_signed ?c__law_signed ?k__law_signed ?g__law_heard ?l__law_heard ?c__law_heard ?k__law_heard ?g__law_sign_right ?l__law_sign_right ?c__law_sign_right ?k__law_sign_right ?g__law_compared ?l__law_compared ?c__law_compared ?k__law_compared ?g__law_pair_right ?l__law_pair_right ?c__law_pair_right ?k__law_pair_right ?g__law_chain_right ?l__law_chain_right ?c__law_chain_right ?k__law_chain_right ?g__law_right ?l__law_right ?c__law_right ?k__law_right ?g_law ?l_law ?c_law ?k_law ?e1_Fault ?e2_Fault ?e3_Fault ?e4_Fault ?e5_Fault ?e6_Fault ?e7_Fault ?e8_Fault ?ef0_Fault ?ef1_Fault ?e9_Fault ?ea_Fault ?eb_Fault ?ec_Fault ?ed_Fault ?ee_Fault ?ek_Fault ?ex_Fault ?et_Fault ?eh_Fault ?eg_Fault ?ei_Fault ?dV1_Fault ?dV2_Fault ?dV3_Fault ?dV4_Fault ?z_super ?z_tp ?z_int ?z_bool ?z_abs ?z_len ?z_isinstance ?z_repr ?z_all ?z_range ?q_LEAST_SIZE ?q_MOST_SIZE ?q_ZERO ?x_slf ?x_s1 ?x_s2 ?x_s3 ?x_nS ?x_nW ?x_iadd ?x_iradd ?x_isub ?x_irsub ?x_imul ?x_irmul ?x_ifloordiv ?x_irfloordiv ?x_cc ?x_cg ?x_ct ?x_cm
    (case a_Number => k_is)
    (case a_Fault => k_is)
    (case pg_Number => k_is)
    (case hd_Number => k_is)
    (case po_Number => k_is)
    (case sa_Number => k_is)
    (case kc_Number => k_is)
    (case tc_Number => k_is)
    (case mk_Number => k_is)
    (case g_is_integer => k_is)
    (case l_is_integer => k_is)
    (case c_is_integer => k_is)
    (case k_is_integer => k_is)
    (case g_is_from => k_is)
    (case l_is_from => k_is)
    (case c_is_from => k_is)
    (case k_is_from => k_is)
    (case g_worth_of => k_is)
    (case l_worth_of => k_is)
    (case c_worth_of => k_is)
    (case k_worth_of => k_is)
    (case g_is_plain => k_is)
    (case l_is_plain => k_is)
    (case c_is_plain => k_is)
    (case k_is_plain => k_is)
    (case g_quotient => k_is)
    (case l_quotient => k_is)
    (case c_quotient => k_is)
    (case k_quotient => k_is)
    (case dV1_quotient => exact rfl)
    (case dV2_quotient => k_is)
    (case dV3_quotient => exact rfl)
    (case dV4_quotient => exact (.cons rfl .nil))
    (case g_Number___init__ => k_is)
    (case i_Number___init__ => k_is)
    (case l_Number___init__ => k_is)
    (case c_Number___init__ => k_is)
    (case k_Number___init__ => k_is)
    (case g_Number_size => k_is)
    (case gg_Number_size => k_is)
    (case gt_Number_size => k_is)
    (case gr_Number_size => k_is)
    (case l_Number_size => k_is)
    (case c_Number_size => k_is)
    (case k_Number_size => k_is)
    (case g_Number_worth => k_is)
    (case gg_Number_worth => k_is)
    (case gt_Number_worth => k_is)
    (case gr_Number_worth => k_is)
    (case l_Number_worth => k_is)
    (case c_Number_worth => k_is)
    (case k_Number_worth => k_is)
    (case g_Number_rounded => k_is)
    (case i_Number_rounded => k_is)
    (case l_Number_rounded => k_is)
    (case c_Number_rounded => k_is)
    (case k_Number_rounded => k_is)
    (case g_Number___add__ => k_is)
    (case i_Number___add__ => k_is)
    (case l_Number___add__ => k_is)
    (case c_Number___add__ => k_is)
    (case k_Number___add__ => k_is)
    (case g_Number___sub__ => k_is)
    (case i_Number___sub__ => k_is)
    (case l_Number___sub__ => k_is)
    (case c_Number___sub__ => k_is)
    (case k_Number___sub__ => k_is)
    (case g_Number___mul__ => k_is)
    (case i_Number___mul__ => k_is)
    (case l_Number___mul__ => k_is)
    (case c_Number___mul__ => k_is)
    (case k_Number___mul__ => k_is)
    (case g_Number___floordiv__ => k_is)
    (case i_Number___floordiv__ => k_is)
    (case l_Number___floordiv__ => k_is)
    (case c_Number___floordiv__ => k_is)
    (case k_Number___floordiv__ => k_is)
    (case g_Number___radd__ => k_is)
    (case i_Number___radd__ => k_is)
    (case l_Number___radd__ => k_is)
    (case c_Number___radd__ => k_is)
    (case k_Number___radd__ => k_is)
    (case g_Number___rsub__ => k_is)
    (case i_Number___rsub__ => k_is)
    (case l_Number___rsub__ => k_is)
    (case c_Number___rsub__ => k_is)
    (case k_Number___rsub__ => k_is)
    (case g_Number___rmul__ => k_is)
    (case i_Number___rmul__ => k_is)
    (case l_Number___rmul__ => k_is)
    (case c_Number___rmul__ => k_is)
    (case k_Number___rmul__ => k_is)
    (case g_Number___rfloordiv__ => k_is)
    (case i_Number___rfloordiv__ => k_is)
    (case l_Number___rfloordiv__ => k_is)
    (case c_Number___rfloordiv__ => k_is)
    (case k_Number___rfloordiv__ => k_is)
    (case g_Number___neg__ => k_is)
    (case i_Number___neg__ => k_is)
    (case l_Number___neg__ => k_is)
    (case c_Number___neg__ => k_is)
    (case k_Number___neg__ => k_is)
    (case g_Number___eq__ => k_is)
    (case i_Number___eq__ => k_is)
    (case l_Number___eq__ => k_is)
    (case c_Number___eq__ => k_is)
    (case k_Number___eq__ => k_is)
    (case g_Number___ne__ => k_is)
    (case i_Number___ne__ => k_is)
    (case l_Number___ne__ => k_is)
    (case c_Number___ne__ => k_is)
    (case k_Number___ne__ => k_is)
    (case g_Number___lt__ => k_is)
    (case i_Number___lt__ => k_is)
    (case l_Number___lt__ => k_is)
    (case c_Number___lt__ => k_is)
    (case k_Number___lt__ => k_is)
    (case g_Number___le__ => k_is)
    (case i_Number___le__ => k_is)
    (case l_Number___le__ => k_is)
    (case c_Number___le__ => k_is)
    (case k_Number___le__ => k_is)
    (case g_Number___gt__ => k_is)
    (case i_Number___gt__ => k_is)
    (case l_Number___gt__ => k_is)
    (case c_Number___gt__ => k_is)
    (case k_Number___gt__ => k_is)
    (case g_Number___ge__ => k_is)
    (case i_Number___ge__ => k_is)
    (case l_Number___ge__ => k_is)
    (case c_Number___ge__ => k_is)
    (case k_Number___ge__ => k_is)
    (case g__law_pot => k_is)
    (case l__law_pot => k_is)
    (case c__law_pot => k_is)
    (case k__law_pot => k_is)
    (case g__law_take => k_is)
    (case l__law_take => k_is)
    (case c__law_take => k_is)
    (case k__law_take => k_is)
    (case g__law_of => k_is)
    (case l__law_of => k_is)
    (case c__law_of => k_is)
    (case k__law_of => k_is)
    (case g__law_due => k_is)
    (case l__law_due => k_is)
    (case c__law_due => k_is)
    (case k__law_due => k_is)
    (case g__law_signed => k_is)
    (case l__law_signed => k_is)
    (case c__law_signed => k_is)
    (case k__law_signed => k_is)
    (case g__law_heard => k_is)
    (case l__law_heard => k_is)
    (case c__law_heard => k_is)
    (case k__law_heard => k_is)
    (case g__law_sign_right => k_is)
    (case l__law_sign_right => k_is)
    (case c__law_sign_right => k_is)
    (case k__law_sign_right => k_is)
    (case g__law_compared => k_is)
    (case l__law_compared => k_is)
    (case c__law_compared => k_is)
    (case k__law_compared => k_is)
    (case g__law_pair_right => k_is)
    (case l__law_pair_right => k_is)
    (case c__law_pair_right => k_is)
    (case k__law_pair_right => k_is)
    (case g__law_chain_right => k_is)
    (case l__law_chain_right => k_is)
    (case c__law_chain_right => k_is)
    (case k__law_chain_right => k_is)
    (case g__law_right => k_is)
    (case l__law_right => k_is)
    (case c__law_right => k_is)
    (case k__law_right => k_is)
    (case g_law => k_is)
    (case l_law => k_is)
    (case c_law => k_is)
    (case k_law => k_is)
    (case e1_Fault => k_is)
    (case e2_Fault => kernel_rfl)
    (case e3_Fault => k_is)
    (case e4_Fault => k_is)
    (case e5_Fault => k_is)
    (case e6_Fault => ks_is)
    (case e7_Fault => k_is)
    (case e8_Fault => k_is)
    (case ef0_Fault => k_is)
    (case ef1_Fault => k_is)
    (case e9_Fault => k_is)
    (case ea_Fault => k_is)
    (case eb_Fault => k_is)
    (case ec_Fault => exact rfl)
    (case ed_Fault => exact rfl)
    (case ee_Fault => k_is)
    (case ek_Fault => k_is)
    (case ex_Fault => k_is)
    (case et_Fault => k_is)
    (case eh_Fault => k_is)
    (case eg_Fault => k_is)
    (case ei_Fault => k_is)
    (case dV1_Fault => exact rfl)
    (case dV2_Fault => k_is)
    (case dV3_Fault => exact rfl)
    (case dV4_Fault => exact (.cons rfl .nil))
    (case z_super => k_is)
    (case z_tp => k_is)
    (case z_int => k_is)
    (case z_bool => k_is)
    (case z_abs => k_is)
    (case z_len => k_is)
    (case z_isinstance => k_is)
    (case z_repr => k_is)
    (case z_all => k_is)
    (case z_range => k_is)
    (case q_LEAST_SIZE => k_is)
    (case q_MOST_SIZE => k_is)
    (case q_ZERO => k_is)
    (case x_slf => k_is)
    (case x_s1 => k_is)
    (case x_s2 => k_is)
    (case x_s3 => k_is)
    (case x_nS => k_is)
    (case x_nW => k_is)
    (case x_iadd => k_is)
    (case x_iradd => k_is)
    (case x_isub => k_is)
    (case x_irsub => k_is)
    (case x_imul => k_is)
    (case x_irmul => k_is)
    (case x_ifloordiv => k_is)
    (case x_irfloordiv => k_is)
    (case x_cc => k_is)
    (case x_cg => k_is)
    (case x_ct => k_is)
    (case x_cm => k_is)
    )

