import PyProof.Rows.All
import Wide.All
import OpenK.AllK
import Wide.FinOn
import HandS.ForMost
import HandS.ForExc
import HandS.ExcInit
import HandS.IsInst
import HandS.Evl
import PyProof.ReprRoads
import HandS.ClsMeth
import HandS.ExcField
import HandS.ExcIs
import PyProof.Rows.StrSplitJoin
import HandS.Comp
import HandS.Iter
import PyProof.ReprLen
import PySem.Challenge.RW_interruptruns_k87_choice_texts_refused
set_option Elab.async false
set_option linter.all false
set_option maxRecDepth 100000
set_option maxHeartbeats 4000000
/-! Defs that run where no repr is under way (guards known to be empty): promises, calls, the end of a law row, repr and str of data. -/
namespace GL
open PySem PySem.Spec PyProof.Rows L2

/-- a def that keeps its promise wherever no repr is under way -/
structure FnG (P : Program) (w : World) (K : PySem.W.Frag) (mg : Str → Option Value) (base : Heap) (CX : CXT) (k : Nat) (f : Addr) (fd : FuncData) (ps : List Str) (sp : Sp) : Prop where
  len : ∀ vs H Q E, sp vs H Q E → vs.length = ps.length
  run : ∀ (A : Around) (outer : List Env) (s : Shared) (H : Hp) (args : Args) (us : List Value) (vs : List V) (Q : VK) (E : XK), A.guards = some [] → Room k A → Env0 P w K mg base A outer s H → BindsTo s fd args (ps.zip us) → Vals vs us → sp vs H Q E →
    codeAny (model P w) A (.call (.ref f) args) (CR CX outer P w H s Q E) s

section
variable {P : Program} {w : World} {K : PySem.W.Frag} {mg : Str → Option Value} {base : Heap} {CX : CXT}
theorem FnG.of {k : Nat} {f : Addr} {fd : FuncData} {ps : List Str} {sp : Sp} (F : FnOk P w K mg base CX k f fd ps sp) : FnG P w K mg base CX k f fd ps sp :=
  { len := F.len, run := fun A o s H as us vs Q E _ hr e b v h => F.run A o s H as us vs Q E hr e b v h }

theorem fnG_of {k : Nat} {f : Addr} {name qual : Str} {params : Arguments} {body : List Stmt} {scope : Scope} {dV kV doc pm cdv ct oc : Value} {an od : Option Addr}
    {osl : Array (Option Value)} {N ps : List Str} {sp : Sp} (lk : K.lookup f = some ⟨oc, od, .func (PySem.W.fnOf name qual params body scope dV kV doc pm an cdv ct), osl⟩) (hcd : PySem.W.codeIn K cdv qual = true) (S : FnScope N ps scope)
    (len : ∀ vs H Q E, sp vs H Q E → vs.length = ps.length)
    (hbody : ∀ (A : Around) (outer : List Env) (s : Shared) (H : Hp) (vs : List V) (Q : VK) (E : XK), A.guards = some [] → Room k (A.deeper (envOfC qual scope s.heap.objs.size f cdv)) → sp vs H Q E →
      ∃ t, PSs (cxOf CX P w K mg base N qual scope f cdv A outer s H E) body t ∧ t { nx := fun _ H' => Q .non H', rt := Q } (start N vs) H) :
    FnG P w K mg base CX (k + 1) f (PySem.W.fnOf name qual params body scope dV kV doc pm an cdv ct) ps sp := by
  refine ⟨len, fun A outer s H args us vs Q E hgd hr e0 hb r hsp => ?_⟩
  have kin : K.In s.heap := e0.mod.kin.keeps fun b o e => And.left (e0.bs b o e)
  have lim : s.heap.NoLimit := e0.mod.nolimit.keeps fun b o e => And.left (e0.bs b o e)
  have kinds : ∀ y ∈ ps.zip us, scope.names.lookup y.1 = some .local ∨ (scope.names.lookup y.1 = some .cell ∧ ((cellsFrom (s.heap.objs.size + 1) scope.names []).lookup y.1).isSome = true) := by
    rintro ⟨n, v⟩ hy
    cases S.par n (List.of_mem_zip hy).1 with
    | inl q => exact Or.inl q
    | inr q => exact Or.inr ⟨q, PySem.W.cellsFrom_some _ _ _ (Or.inl q)⟩
  refine codeAny_call_function hr.depth (kin _ _ lk) rfl S.co S.gen rfl (PySem.W.codeRec_of kin hcd) (hb _ _ _ _ ?_)
  refine wpAny_newFunctionEnv_cells S.kind kinds fun env he s1 x => ?_
  subst he
  refine ⟨lim.keeps x.toInCall.keep, codeAny_func ?_⟩
  obtain ⟨t, ht, hq⟩ := hbody A outer s H vs Q E hgd (hr.deeper _) hsp
  have I := inv_start (CX := CX) (E := E) S hr.hd e0 (len _ _ _ _ hsp) r x
  refine wpAny_mono (ht.run [] s1 (start N vs) H _ I hq) (fun fl s' hs => ?_) fun e s' hs => hs
  have fin : ∀ {σ' : L2.St} {H' : Hp} {v : V} {u : Value}, Inv (cxOf CX P w K mg base N qual scope f cdv A outer s H E) [] σ' H' s' → RelV v u → Q v H' → CE outer P w H s Q u s' :=
    fun {_ H' v _} J rv q => ⟨v, H', J.os, J.bare, J.base, J.hok, rv, q⟩
  cases fl with
  | ret u =>
    obtain ⟨v, _, _, J, rv, q⟩ := hs
    exact fin J rv q
  | next =>
    obtain ⟨_, _, J, q⟩ := hs
    exact fin (v := V.non) (u := Value.none) J rfl q
  | brk => exact hs.elim fun _ ⟨_, _, q⟩ => False.elim q
  | cont => exact hs.elim fun _ ⟨_, _, q⟩ => False.elim q

/-- a def's body, no exception leaving it -/
theorem okG {x qual : Str} {st : Stmt} {f : Addr} {fd : FuncData} {N ps : List Str} {k : Nat} {sp : Sp} (F : Fun K x qual st f fd) (S : FnScope N ps (defScope st)) (len : ∀ vs H Q E, sp vs H Q E → vs.length = ps.length)
    (hbody : ∀ (cdv : Value) (A : Around) (outer : List Env) (s : Shared) (H : Hp) (vs : List V) (Q : VK) (E : XK), A.guards = some [] → Room k (A.deeper (envOfC qual (defScope st) s.heap.objs.size f cdv)) → sp vs H Q E →
      ∃ t, PSs (cxOf CX0 P w K mg base N qual (defScope st) f cdv A outer s H E).nox (defBody st) t ∧ t { nx := fun _ H' => Q .non H', rt := Q } (start N vs) H) : FnG P w K mg base CX0 (k + 1) f fd ps sp := by
  obtain ⟨oc, od, kV, doc, pm, an, cdv, ct, osl, rfl, lk, hcd⟩ := F.ex
  refine fnG_of lk hcd S len fun A outer s H vs Q E g hr hsp => ?_
  obtain ⟨t, h, q⟩ := hbody cdv A outer s H vs Q E g hr hsp
  exact ⟨t, h.nox, q⟩
end
section
variable {X : Cx} {CX : CXT} {k : Nat} {f C : Addr} {fd : FuncData} {ps : List Str} {sp : Sp} {dvs : List V} {ds : List Value} {E : XK} {x m : Str} {p pos apos : Pos} {e o : Expr} {es : List Expr} {ta : TE} {t : TA}
theorem run_fnG {pins : List (Addr × Obj)} {σ : L2.St} {H : Hp} {s : Shared} {Q : VK} {us : List Value} {vs : List V} (F : FnG X.prog X.w X.K X.mg X.base CX k f fd ps sp) (gd : X.A.guards = some []) (hr : Room k X.A) (hb : Binds X.K fd ps ds) (hd : Vals dvs ds) (hx : Passes CX X E)
    (I : Inv X pins σ H s) (r : Vals vs us) (h : sp (vs ++ dvs) H Q E) : wpAny (model X.prog X.w) X.A (call (.ref f) us) (EP X pins σ Q) X.xe s := by
  have r2 : Vals (vs ++ dvs) (us ++ ds) := r.append hd
  have hl : (us ++ ds).length = ps.length := (Eq.symm r2.length).trans (F.len _ _ _ _ h)
  refine wpAny_call (codeAny_mono (F.run X.A X.stack s H ⟨us, []⟩ (us ++ ds) (vs ++ dvs) Q E gd hr I.env0 (hb s us I.kIn hl) r2 h) fun r s' hq => ?_)
  match r, hq with
  | .error e, hq => exact hx pins σ H s e s' I hq
  | .ok (.ret u), hq => exact I.after hq
theorem pe_callG (F : FnG X.prog X.w X.K X.mg X.base CX k f fd ps sp) (gd : X.A.guards = some []) (hr : Room k X.A) (hg : Gl X x) (hm : X.mg x = some (.ref f)) (hk : PySem.W.keepIn X.K (.ref f) = true) (hb : Binds X.K fd ps ds) (hd : Vals dvs ds) (hx : Passes CX X E)
    (ha : PA X (e :: es) t) (hdb : (x == ("__debug__" : Str)) = false := by decide) (he : starEach (e :: es) X.env = (false, eval e X.env) :: starEach es X.env := by rfl) (hpl : (backTo pos (starEach es X.env)).any (·.1) = false := by rfl) :
    PE X (.Call (.Name x p) (e :: es) [] pos) (tCall sp dvs E t) := by
  refine ⟨fun pins s σ H Q I h => wpAny_Call_Name_kw (ld_glob I hg hm ?_ hdb)⟩
  refine PySem.W.callWith_K (h₀ := X.base) I.ok.mod.kin hk (thn (ha.run pos pins s σ H _ I h) fun us s1 hh => ?_) he hpl
  obtain ⟨vs, H1, I1, r, q⟩ := hh
  exact ⟨I1.kIn, run_fnG F gd hr hb hd hx I1 r q⟩
end

/-! ### the end of a law row -/
section
variable {P : Program} {w : World} {K : PySem.W.Frag} {mg mb : Str → Option Value} {CX : CXT} {k : Nat} {fa a : Addr} {fd : FuncData} {x : Str} {sp : Sp} {s₁ : Shared} {vs : List Value} {ns : List Int}
theorem core_callG (KX : K.In s₁.heap) (hns : s₁.heap.Ns mainGlobals mg) (hb : s₁.heap.Ns builtinsNs mb) (hbb : ∀ x : Str, x ≠ "__name__" → mb x = bootBuiltins x) (hlim : s₁.heap.NoLimit) (hg : s₁.gens = #[])
    (ha : s₁.heap.get? a = some { cls := .type "list", data := .seq vs.toArray }) (hr : Room k callerA)
    (F : ∀ base : Heap, K.In base → base.Ns mainGlobals mg → FnG P w K mg base CX k fa fd [x] sp) (hbind : ∀ (s : Shared) (u : Value), BindsTo s fd ⟨[u], []⟩ [(x, u)])
    (hCX : ∀ H e s', CX [] H s₁ (fun _ _ _ => False) e s' → False)
    (H : Hp) (hO : Only H) (hsp : sp [.ref a] H (fun v _ => v = .bl true) fun _ _ _ => False) (hok : HOk P w H s₁.heap) (hA : ∀ b, H b ≠ none → b = a) (hK : H a ≠ none → K.lookup a = none) :
    codeAny (model P w) callerA (.call (.ref fa) ⟨[.ref a], []⟩) (fun r s' => r = .ok (.ret (.bool true)) ∧ OldK s₁.heap s'.heap ∧ s'.os = s₁.os ∧ AllBare s'.gens) s₁ := by
  have only : ∀ {b : Addr} {u : HO}, H b = some u → b = a := fun {b u} q => hA b (by rw [q]; exact fun z => nomatch z)
  have dictFree : ∀ {b : Addr} {o : Obj} {es : Array DictEntry} {ep : Nat}, s₁.heap.get? b = some o → o.data = .dict es ep → H b = none := by
    intro b o es ep e d
    match q : H b with
    | none => rfl
    | some u =>
      have eb := only q
      rw [eb, ha] at e
      have e2 := Option.some.inj e
      rw [← e2] at d
      exact nomatch d
  have nsK : ∀ {b : Addr} {m : Str → Option Value}, s₁.heap.Ns b m → (hidT s₁.heap H).Ns b m := by
    rintro b m ⟨o, es, ep, e, d, r⟩
    exact ⟨o, es, ep, hidT_get e (dictFree e d), d, r⟩
  have kinB : K.In (hidT s₁.heap H) := by
    intro b o e
    refine hidT_get (KX b o e) ?_
    match q : H b with
    | none => rfl
    | some u =>
      have eb := only q
      have nk := hK (by rw [← eb, q]; exact fun z => nomatch z)
      rw [eb, nk] at e
      exact nomatch e
  obtain ⟨mc, l1, l2⟩ := hlim
  have md : Mod K mg (hidT s₁.heap H) := { kin := kinB, glob := nsK hns, blt := ⟨mb, nsK hb, hbb⟩, nolimit := ⟨mc, nsK l1, l2⟩ }
  have e0 : Env0 P w K mg (hidT s₁.heap H) callerA [] s₁ H :=
    { frames := rfl, mod := md, bs := fun b o e => of_hidT e, bsz := Nat.le_of_eq (hidT_size _ _), funs := trivial, frf := (fun b hb => nomatch hb), hok := hok, bare := .of_eq hg }
  refine codeAny_mono ((F _ kinB (nsK hns)).run callerA [] s₁ H ⟨[.ref a], []⟩ [.ref a] [.ref a] _ _ rfl hr e0 (hbind s₁ (.ref a)) (.cons rfl .nil) hsp) fun r s' h => ?_
  match r, h with
  | .error e, h => exact (hCX H e s' h).elim
  | .ok (.ret u), h =>
    obtain ⟨v, H', os, bare, un, hok', r', q⟩ := h
    have q1 : v = .bl true := q
    rw [q1] at r'
    have q2 : u = Value.bool true := r'
    rw [q2]
    refine ⟨rfl, OldK.of_keep fun b o e => ?_, os, bare⟩
    match q3 : H b with
    | none => exact un.keep b o e q3 (fun z => nomatch z) (fun z => nomatch z)
    | some u =>
      rcases hO b with z | ⟨ob, xs, z⟩
      · rw [q3] at z
        exact nomatch z
      · have z1 := And.left (show ObjOk P w H s₁.heap b (.frz ob _) from hok b _ z)
        have z2 := And.left (show ObjOk P w H' s'.heap b (.frz ob _) from hok' b _ (un.frzs b ob _ z))
        rw [e] at z1
        rw [Option.some.inj z1]
        exact z2
theorem law_callG (KX : K.In s₁.heap) (hns : s₁.heap.Ns mainGlobals mg) (hb : s₁.heap.Ns builtinsNs mb) (hbb : ∀ x : Str, x ≠ "__name__" → mb x = bootBuiltins x) (hlim : s₁.heap.NoLimit) (hg : s₁.gens = #[])
    (ha : s₁.heap.get? a = some { cls := .type "list", data := .seq vs.toArray }) (hi : IntsAre vs ns) (hl : ns.length ≤ sizeLine) (hr : Room k callerA)
    (F : ∀ base : Heap, K.In base → base.Ns mainGlobals mg → FnG P w K mg base CX k fa fd [x] sp) (hbind : ∀ (s : Shared) (u : Value), BindsTo s fd ⟨[u], []⟩ [(x, u)])
    (hsp : ∀ H : Hp, Only H → SqL K H a (ns.map V.int) → sp [.ref a] H (fun v _ => v = .bl true) fun _ _ _ => False)
    (hCX : ∀ H e s', CX [] H s₁ (fun _ _ _ => False) e s' → False) :
    codeAny (model P w) callerA (.call (.ref fa) ⟨[.ref a], []⟩) (fun r s' => r = .ok (.ret (.bool true)) ∧ OldK s₁.heap s'.heap ∧ s'.os = s₁.os ∧ AllBare s'.gens) s₁ := by
  have rv := vals_ints hi
  match hk : K.lookup a with
  | some o =>
    have e : o = { cls := .type "list", data := .seq vs.toArray } := Option.some.inj ((KX a o hk).symm.trans ha)
    have hn : Only (fun _ => none) := fun _ => Or.inl rfl
    have sq : SqL K (fun _ => none) a (ns.map V.int) := by
      refine Or.inr ⟨_, vs.toArray, _, (by rw [hk, e]), rfl, rfl, rfl, ?_, by simpa using rv⟩
      rw [List.size_toArray, hi.length]
      exact hl
    exact core_callG KX hns hb hbb hlim hg ha hr F hbind hCX (fun _ => none) hn (hsp _ hn sq) (fun b u z => nomatch z) (fun b z => absurd rfl z) (fun z => absurd rfl z)
  | none =>
    have he : ∀ {b : Addr} {u : HO}, upd (fun _ => none) a (.frz { cls := .type "list", data := .seq vs.toArray } (.lst (ns.map V.int))) b = some u → b = a := by
      intro b u z
      by_cases q : b = a
      · exact q
      · rw [upd_ne q] at z
        exact nomatch z
    have hn : Only (upd (fun _ => none) a (.frz { cls := .type "list", data := .seq vs.toArray } (.lst (ns.map V.int)))) := by
      intro b
      by_cases q : b = a
      · rw [q]
        exact Or.inr ⟨_, _, upd_same⟩
      · exact Or.inl (upd_ne q)
    refine core_callG KX hns hb hbb hlim hg ha hr F hbind hCX _ hn (hsp _ hn (Or.inl (Or.inr ⟨_, upd_same⟩))) (fun b u z => ?_) (fun b z => ?_) fun _ => hk
    · have eb := he z
      rw [eb, upd_same] at z
      rw [← Option.some.inj z, eb]
      refine ⟨ha, ?_, vs, _, rv, ha⟩
      rw [List.length_map]
      exact hl
    · match q : upd (fun _ => none) a (.frz { cls := .type "list", data := .seq vs.toArray } (.lst (ns.map V.int))) b with
      | none => exact absurd q z
      | some u => exact he q
end
theorem walk_ofG {l : PySem.W.OpenLaw} {n k : Nat} {q : Program} {loose : List Str} {XP : (Str → Option Value) → Heap → Prop} {YP : World → Heap → Prop} {d : DefRec} {K : Params → PySem.W.Frag} {sp : PySem.W.Frag → Sp} {x : Str}
    (hn : l.most = some n) (hn2 : n ≤ sizeLine) (hdf : d.params.defaults = []) (hr : Room k callerA)
    (hY : ∀ (w : World) (h : Heap), YP w h → (K w.params).In h)
    (F : ∀ (w : World) (mg : Str → Option Value) (fa : Addr) (h : Heap), (K w.params).In h → h.Ns mainGlobals mg → mg d.name = some (.ref fa) →
      ∃ fd : FuncData, (∀ (s : Shared) (u : Value), BindsTo s fd ⟨[u], []⟩ [(x, u)]) ∧
        ∀ base : Heap, (K w.params).In base → base.Ns mainGlobals mg → FnG l.prog w (K w.params) mg base CX0 k fa fd [x] (sp (K w.params)))
    (hsp : ∀ (K : PySem.W.Frag) (H : Hp) (a : Addr) (ns : List Int), ns.length ≤ n → SqL K H a (ns.map V.int) → sp K [.ref a] H (fun v _ => v = .bl true) fun _ _ _ => False) :
    PySem.W.WalkO q loose XP YP l.row.toRowW d [] (fun f vs => PySem.call f vs) := by
  refine Att.attach_call hn hdf fun w s₀ s₁ mg mb fa o pm cd doc a vs ns G Y ho hd hcd hmg hobj hints hlen hg => ?_
  have KX := hY w _ Y
  obtain ⟨fd, hb, hF⟩ := F w mg fa _ KX G.T.g hmg
  exact law_callG KX G.T.g G.T.b G.T.builtins G.T.nolimit hg hobj hints (Nat.le_trans hlen hn2) hr hF hb (fun H _ hS => hsp _ H a ns hlen hS) fun _ _ _ z => z

/-! ### repr and str of data -/
section
variable {X : Cx}
def rShow (K : PySem.W.Frag) : List V → Hp → VK → Prop := fun xs H Q => ∃ v d, xs = [v] ∧ Dp K H v d ∧ d.showable = true ∧ d.depth ≤ 60 ∧ d.shown.length ≤ sizeLine ∧ Q (.str d.shown) H
mutual
theorem noDict : ∀ {K : PySem.W.Frag} {H : Hp} {v : V} {d : PyData}, Dp K H v d → d.hasDict = false
  | _, _, _, _, .non => rfl
  | _, _, _, _, .bl _ => rfl
  | _, _, _, _, .int _ => rfl
  | _, _, _, _, .str _ => rfl
  | K, H, _, _, .lst (ds := ds) _ h => by
    show PyData.hasDictAll ds = false
    exact noDicts h
  | K, H, _, _, .tup (ds := ds) _ h => by
    show PyData.hasDictAll ds = false
    exact noDicts h
theorem noDicts : ∀ {K : PySem.W.Frag} {H : Hp} {vs : List V} {ds : List PyData}, DpAll K H vs ds → PyData.hasDictAll ds = false
  | _, _, _, _, .nil => rfl
  | _, _, _, _, .cons h1 h2 => by
    simp only [PyData.hasDictAll, noDict h1, noDicts h2, Bool.or_self]
end
theorem call_reprD (gd : X.A.guards = some []) (hu : X.A.units + 64 < cLine) : CallR X (.builtin "repr") (rShow X.K) := by
  intro pins s σ H xs us Q I r h
  obtain ⟨v, d, rfl, hd, hs, hdep, hz, q⟩ := h
  obtain ⟨u, rfl, rv⟩ := vals1 r
  have keep : ∀ (h' : Heap) (tk : Nat), (∀ b o, s.heap.get? b = some o → h'.get? b = some o) → Inv X pins σ H { s with heap := h', toks := tk } :=
    fun h' tk k => I.un (h' := h') (t' := tk) (Un.kept k) (I.hok.kept k)
  have fin : ∀ (h' : Heap) (t : Tok) (tk : Nat), (∀ b o, s.heap.get? b = some o → h'.get? b = some o) → EP X pins σ Q (.str d.shown t) { s with heap := h', toks := tk } :=
    fun h' t tk k => ⟨.str d.shown, H, keep h' tk k, ⟨t, rfl⟩, q⟩
  have viaRef : ∀ a : Addr, v = .ref a → wpAny (model X.prog X.w) X.A (call (.builtin "repr") [u]) (EP X pins σ Q) X.xe s := by
    intro a ev
    rw [ev] at rv hd
    have eu : u = Value.ref a := rv
    obtain ⟨as, rd⟩ := Dp.reads I d _ _ hd rv
    rw [eu] at rd ⊢
    exact repr_of_reads' rd hs (fun z => absurd ((noDict hd).symm.trans z) (fun c => nomatch c)) gd (by omega) (fun _ _ e => e) (fun h' t tk k => fin h' t tk k) hz
  cases hd with
  | non =>
    cases (show u = Value.none from rv)
    exact PySem.P.repr_of_none (fin s.heap _ _ fun _ _ e => e)
  | bl b =>
    cases (show u = Value.bool b from rv)
    exact PySem.P.repr_of_bool (fin s.heap _ _ fun _ _ e => e)
  | int i =>
    obtain ⟨t, eu⟩ := (show ∃ t, u = Value.int i t from rv)
    rw [eu]
    exact PySem.P.repr_of_int (by simpa [PyData.showable] using hs) (fin s.heap _ _ fun _ _ e => e)
  | str x =>
    obtain ⟨t, eu⟩ := (show ∃ t, u = Value.str x t from rv)
    rw [eu]
    exact PySem.P.repr_of_str (fin s.heap _ _ fun _ _ e => e) (by simpa only [PyData.shown] using hz)
  | @lst a _ _ _ _ => exact viaRef a rfl
  | @tup a _ _ _ _ => exact viaRef a rfl
end
end GL
set_option Elab.async false
set_option linter.all false
set_option maxRecDepth 100000
set_option maxHeartbeats 4000000
/-! Own errors below RunError: made by an __init__ that calls RunError.__init__ and keeps one field; raised, caught, asked. -/
namespace GL
open PySem PySem.Spec PyProof.Rows L2

/-- the base class of the package's errors: what RunError.__init__ is -/
structure BaseC (K : PySem.W.Frag) (mg : Str → Option Value) (R : Addr) : Prop where
  gR : mg "RunError" = some (.ref R)
  rd : ClX.CRead K R (.type "type")
  at_ : PySem.W.findCls K (.ref R) (.type "type") "__init__" = some (.val (.builtin "ValueError.__init__"))

section
variable {X : Cx} {e : Expr} {es : List Expr} {ta : TA} {p1 p2 pos : Pos}
theorem pe_rinit {pl : Sem Bool} {R : Addr} (B : BaseC X.K X.mg R) (hg : Gl X "RunError") (ha : PA X (e :: es) ta)
    (hc : eval (.Call (.Attribute (.Name "RunError" p1) "__init__" p2) (e :: es) [] pos) X.env = (do
      let ov ← eval (.Name "RunError" p1) X.env
      standAt p2.atName
      let (f, first) ← holding [ov] (getMethod ov "__init__" pl)
      callWith pos f first (backTo pos (starEach (e :: es) X.env)) (backToKw pos (keywordEach [] X.env))) := by rfl)
    (he : starEach (e :: es) X.env = (false, eval e X.env) :: starEach es X.env := by rfl) (hpl : (backTo pos (starEach es X.env)).any (·.1) = false := by rfl) :
    PE X (.Call (.Attribute (.Name "RunError" p1) "__init__" p2) (e :: es) [] pos) (tVeI X.K ta) := by
  refine ⟨fun pins s σ H Q I h => ?_⟩
  refine PySem.W.methodCall_KW (ld_glob I hg B.gR ?_ (by decide)) hc
  refine PySem.W.method_cls I.kIn B.rd.ga (PySem.W.cls_value I.kIn B.rd.rd B.at_ (by decide +kernel) ?_)
  show wpAny _ _ (callWith pos (Value.builtin "ValueError.__init__") [] (backTo pos (starEach (e :: es) X.env)) []) _ _ _
  refine PyProof.Rows.callWith_method1 (thn (ha.run pos pins _ σ H _ (I.tok _) h) fun us s1 hh => ?_) he hpl
  obtain ⟨vs, H1, I1, r1, a, C, ws, ev, hl, T, ea, q⟩ := hh
  rw [ev] at r1
  match us, r1 with
  | u0 :: ur, .cons ra rr =>
    have eu : u0 = Value.ref a := ra
    rw [eu]
    refine oinit_ok T I1 ea ?_ fun s' J => ⟨.non, H1, J, rfl, q⟩
    rw [← Paired.length rr, sizeLine_eq]
    omega
end

/-- what __init__(self, v) leaves: the error at a has its dict, with the field f -/
def spErr (C : Addr) (f : Str) : Sp := fun vs H Q _ => ∃ (a : Addr) (v : V), vs = [.ref a, v] ∧ H a = some (exo a C none) ∧
  ∀ dx, H dx = none → dx ≠ a → Q .non (upd (upd H dx (exd dx [(f, v)])) a (exo a C (some dx)))

/-- C(v), an error of the class at C with the field f -/
def tMkE (C : Addr) (f : Str) (ta : TA) : L2.St → Hp → XK → Prop := fun σ H Q => ta σ H fun vs H1 => ∃ v, vs = [v] ∧ ∀ d, H1 d = none → Q (.ref C) (some d) (upd H1 d (.xd [(f, v)]))

/-- the facts of one error class x with the field f: its place C, its __init__ -/
structure ErrC (P : Program) (w : World) (K : PySem.W.Frag) (mg : Str → Option Value) (base : Heap) (x f : Str) (C : Addr) : Prop where
  gC : mg x = some (.ref C)
  oex : OexC K C
  xf : XfC K C
  noF : PySem.W.findIn K (.ref C) f = some none
  te : PySem.W.exmOne K (.ref C) (.ref C) = some true
  ini : ∃ (fI : Addr) (fd : FuncData) (k : Nat) (p : Str), k = 1 ∧ PySem.W.findIn K (.ref C) "__init__" = some (some (.ref fI)) ∧ PySem.W.typeIn K (.ref fI) = some (.type "function") ∧ FnOk P w K mg base CX0 k fI fd ["self", p] (spErr C f) ∧ Binds K fd ["self", p] []


section
variable {X : Cx}
theorem heap_back {H1 : Hp} {a dx C : Addr} {f : Str} {v : V} (ha : H1 a = none) (hd : dx ≠ a) :
    upd (del (upd (upd (upd H1 a (exo a C none)) dx (exd dx [(f, v)])) a (exo a C (some dx))) a) dx (.xd [(f, v)]) = upd H1 dx (.xd [(f, v)]) := by
  funext b
  by_cases h1 : b = dx
  · rw [h1, upd_same, upd_same]
  · rw [upd_ne h1, upd_ne h1]
    by_cases h2 : b = a
    · rw [h2, del_same, ha]
    · rw [del_ne h2, upd_ne h2, upd_ne h1, upd_ne h2]
/-- a reading of arguments may be weakened -/
def MonoA (ta : TA) : Prop := ∀ σ H (Q Q' : List V → Hp → Prop), (∀ vs H', Q vs H' → Q' vs H') → ta σ H Q → ta σ H Q'
def MonoE (te : TE) : Prop := ∀ σ H (Q Q' : VK), (∀ v H', Q v H' → Q' v H') → te σ H Q → te σ H Q'
theorem mono1 {te : TE} (m : MonoE te) : MonoA (tCons te tNil) := fun σ H Q Q' h z => m σ H _ _ (fun v H' q => h _ _ q) z
theorem mono_var (i : Nat) : MonoE (tVar i) := fun _ _ _ _ h ⟨v, e, q⟩ => ⟨v, e, h _ _ q⟩
theorem mono_c (v : V) : MonoE (tC v) := fun _ _ _ _ h q => h _ _ q
theorem pmk_err {x f : Str} {C : Addr} {e : Expr} {ta : TA} {p pos : Pos} (T : ErrC X.prog X.w X.K X.mg X.base x f C) (hr : Room 2 X.A) (hg : Gl X x) (m : MonoA ta) (ha : PA X [e] ta) (hdb : (x == ("__debug__" : Str)) = false := by decide)
    (he : starEach [e] X.env = (false, eval e X.env) :: starEach [] X.env := by rfl) (hpl : (backTo pos (starEach [] X.env)).any (·.1) = false := by rfl) :
    PMk X (.Call (.Name x p) [e] [] pos) (tMkE C f ta) := by
  obtain ⟨fI, fd, k, pn, hk, iC, tI, F, hb⟩ := T.ini
  subst hk
  intro pins s σ H Q I h
  refine pmk_oex (dvs := []) (ds := []) T.oex iC tI F hr hb .nil pass0 hg T.gC ha hdb he hpl pins s σ H Q I ?_
  refine m σ H _ _ (fun vs H1 hh => ?_) h
  obtain ⟨v, ev, q⟩ := hh
  rw [ev]
  refine ⟨by show 1 ≤ 1000; decide, fun a hn => ⟨a, v, rfl, upd_same, fun dx hd hda => ⟨rfl, dx, [(f, v)], upd_same, ?_, ?_, ?_⟩⟩⟩
  · rw [upd_ne hda, upd_same]
  · rw [upd_ne hda] at hd
    exact hd
  · rw [heap_back hn hda]
    rw [upd_ne hda] at hd
    exact q dx hd
def tRaiseE (C : Addr) (f : Str) (W : WX) (ta : TA) : TS := fun _ σ H => tMkE C f ta σ H fun cls d H' => W cls d σ H'
/-- raise C(e) -/
theorem ps_raiseE {x f : Str} {C : Addr} {e : Expr} {ta : TA} {W : WX} {p pos pos2 : Pos} (hc : X.calm = true) (T : ErrC X.prog X.w X.K X.mg X.base x f C) (hr : Room 2 X.A) (tk : Takes X W) (hg : Gl X x) (m : MonoA ta) (ha : PA X [e] ta) (hdb : (x == ("__debug__" : Str)) = false := by decide)
    (he : starEach [e] X.env = (false, eval e X.env) :: starEach [] X.env := by rfl) (hpl : (backTo pos (starEach [] X.env)).any (·.1) = false := by rfl) :
    PS X (.Raise (some (.Call (.Name x p) [e] [] pos)) none pos2) (tRaiseE C f W ta) := ps_raise hc tk (pmk_err T hr hg m ha hdb he hpl)
end

/-! ### isinstance of a caught error that has fields -/
section
open PySem.W
variable {prog : Program} {w : World} {A : Around} {E : Value → Shared → Prop} {s : Shared} {K : Frag} {x D : Addr} {ox : Obj} {od : Option Obj}
theorem findObj_dsc {C : Addr} {name : Str} {a g : Value} (hc : (clsIn K C).isSome = true) (ha : findIn K (.ref C) name = some (some a)) (hg : specialIn K a "__get__" = some (some g)) (ht : takesIn K a = some true) : findObj K C od name = some (.bind g a) := by
  obtain ⟨cd, hc⟩ := Option.isSome_iff_exists.mp hc
  unfold findObj; rw [hc, Option.bind_some, ha, Option.bind_some]; simp [hg, ht]
theorem class_look {Q : Option Value → Shared → Prop} (T : L2.ExcC K D) (X : K.In s.heap) (I : InstAt s.heap x ox D od) (h : Q (some (.ref D)) { s with toks := s.toks + 1 }) : wpAny (model prog w) A (getAttr? (.ref x) "__class__") Q E s := by
  have hf : findObj K D od "__class__" = some (.bind (.builtin "getset_descriptor.__get__") (.builtin "object.__class__")) := by
    refine findObj_dsc ?_ T.ha T.hn T.ht
    obtain ⟨cd, hc, _⟩ := any_some T.hd; rw [hc]; rfl
  obtain ⟨hp, g, d, t, os⟩ := s
  have l0 := I.type (M := model prog w)
  have l1 := looks_findIn (M := model prog w) X T.hg
  have l2 := looks_findIn (M := model prog w) X T.hk
  have l3 := looks_find (M := model prog w) X I hf
  have sub : Looks (model prog w) hp (isInstance (.ref x) (.type "BaseException")) true := l0.andThen (looks_subIn X T.hs)
  have hx2 : (Value.builtin "BaseException.__getattribute__" == Value.builtin "object.__getattribute__") = false := by decide +kernel
  have hx1 : (onTheHeap (Value.ref D) && Value.builtin "BaseException.__getattribute__" == Value.builtin "object.__getattribute__") = false := (congrArg (onTheHeap (Value.ref D) && ·) hx2).trans rfl
  unfold getAttr? getAttrBy? getAttrBy; refine wpAny_bind (wpAny_mkText (wpAny_bind (wpAny_attempt (wpAny_holding (wpAny_bind (l0.at (wpAny_bind (l1.at ?_))))))))
  show wpAny _ _ (if (onTheHeap (Value.ref D) && Value.builtin "BaseException.__getattribute__" == Value.builtin "object.__getattribute__") = true then _ else _) _ _ _; rw [hx1, if_neg Bool.false_ne_true]
  unfold getAttrByItsOwn hookBefore; refine wpAny_bind ?_; rw [if_pos (show onTheHeap (Value.ref D) = true from rfl)]; refine l2.at ?_; refine wpAny_bind (wpAny_attempt (wpAny_holding ?_))
  unfold callGetattribute; rw [show (false && onTheHeap (Value.builtin "BaseException.__getattribute__")) = false from rfl, if_neg Bool.false_ne_true]
  unfold boundAndCalled; rw [PySem.F.excAttr_ValueError.ga.bind (.ref x)]; refine wpAny_bind (wpAny_pure ?_)
  show wpAny _ _ (call (.builtin "BaseException.__getattribute__") [.ref x, .str "__class__" t]) _ _ _; refine wpAny_call (codeAny_call_builtin PySem.F.excAttr_ValueError.ga.plain PySem.F.entry_bexc_ga ?_)
  refine @check_slot (model prog w) _ _ ⟨hp, g, d, t + 1, os⟩ "BaseException.__getattribute__" "BaseException" "__getattribute__" (.ref x) [.str "__class__" t] [] _ (by decide +kernel) (by decide +kernel) sub (PySem.F.args_bexc_ga (.ref x) (.str "__class__" t)) (?_)
  unfold Builtin.«object.__getattribute__»; refine wpAny_bind (wpAny_of_eq (a := ((Value.ref x : Value), [Value.str "__class__" t])) (by first | rfl | (simp only [slotArgs]; rfl)) ?_)
  refine wpAny_bind (wpAny_pure (wpAny_bind (l0.at (wpAny_bind (l3.at ?_)))))
  show wpAny _ _ (holding [Value.builtin "object.__class__"] (call (.builtin "getset_descriptor.__get__") [.builtin "object.__class__", .ref x, .ref D]) >>= ret) _ _ _; refine wpAny_bind (wpAny_holding (wpAny_call (class_get (s := ⟨hp, g, d, t + 1, os⟩) (ox := ox) (od := od) X I T.hm ?_)))
  refine wpAny_pure ?_; show wpAny _ _ (handedOut (.ref D)) _ _ _; rw [handedOut_of (v := .ref D) rfl]
  first | exact wpAny_pure (wpAny_pure h) | exact wpAny_pure h | exact wpAny_pure (wpAny_bind (wpAny_pure (wpAny_pure h)))
theorem kitx_err (T : L2.ExcC K D) : KitX K (.ref x) (.ref D) (fun h => ∃ ox od, InstAt h x ox D od) where
  ty := fun _ _ _ ⟨_, _, I⟩ => I.type
  it := fun _ _ X _ => by
    obtain ⟨cdD, hcD, _⟩ := any_some T.hd
    unfold clsIn at hcD
    split at hcD
    · rename_i c' d' cd' sl' ho
      intro A' Q' E' s' k q
      unfold isType loadHead; exact wpAny_bind (wpAny_loadPart (k _ _ (X _ _ ho)) (wpAny_pure q))
    · cases hcD
  ne := fun h tp dd its n sl X htp => by
    obtain ⟨cdD, hcD, _⟩ := any_some T.hd
    refine Bool.eq_false_iff.mpr fun q => ?_
    have e : D = tp := Value.ref.inj (beq_iff_eq.mp q)
    subst e
    unfold clsIn at hcD
    split at hcD
    · rename_i c' d' cd' sl' ho
      exact nomatch (X _ _ ho).symm.trans htp
    · cases hcD
  ca := fun X ⟨_, _, I⟩ k => class_look T X I k
end
/-- isinstance(e, c), e the caught error of the class at D, its dict at d if it has one -/
def rIsX (K : PySem.W.Frag) (D a : Addr) (cls : Value) (d : Option Addr) : List V → Hp → VK → Prop := fun xs H Q => cls = .ref D ∧ ∃ (c : V) (cv : Value) (b : Bool), xs = [.ref a, c] ∧ (∀ u, RelV c u → u = cv) ∧ (∀ dd, d = some dd → ∃ fs, H dd = some (.xd fs)) ∧ PySem.W.kitOne K (.ref D) cv = some b ∧ Q (.bl b) H
theorem call_isX {X : Cx} {a D : Addr} {oe : Obj} {cls : Value} {d : Option Addr} {pn : List (Addr × Obj)} (T : L2.ExcC X.K D) (hz : Zc cls d oe) (hf : ∃ vs, oe.data = .fields vs) : CallR (X.suite a ((a, oe) :: pn)) (.builtin "isinstance") (rIsX X.K D a cls d) := by
  intro pins s σ H xs us Q I r h
  obtain ⟨ec, c, cv, b, rfl, hcv, hdd, e, q⟩ := h
  subst ec
  match us, r with
  | [_, u2], .cons rx (.cons rt .nil) =>
    have e1 := hcv _ rt
    have e2 := rx
    subst e1
    cases e2
    have hget := (I.pin (a, oe) (List.mem_append.mpr (.inl List.mem_cons_self))).1
    obtain ⟨vs, hv⟩ := hf
    have J : ∃ ox od, PySem.W.InstAt s.heap a ox D od := by
      match d, hz, hdd with
      | none, hz, _ => exact ⟨oe, none, hget, hz.1, (by unfold PySem.W.notCls; rw [hv] <;> rfl), by rw [hz.2]; trivial⟩
      | some dd, hz, hdd =>
        obtain ⟨fs, hx⟩ := hdd dd rfl
        obtain ⟨mA, ⟨o, _, _, ho, _⟩, _⟩ := (show ObjOk X.prog X.w H s.heap dd (.xd fs) from I.hok dd _ hx)
        exact ⟨oe, some o, hget, hz.1, (by unfold PySem.W.notCls; rw [hv] <;> rfl), by rw [hz.2]; exact ho⟩
    exact PySem.W.kia_one (kitx_err T) I.kIn J e (fun z => nomatch z) fun tk => ⟨.bl b, H, I.kept (t' := tk) fun _ _ z => z, rfl, q⟩
end GL
namespace GL
open PySem PySem.Spec PyProof.Rows L2
/-! ### a def by its name: where it stands, what it promises -/
def Fx (P : Program) (w : World) (K : PySem.W.Frag) (mg : Str → Option Value) (base : Heap) (CX : CXT) (k : Nat) (x : Str) (ps : List Str) (sp : Sp) : Prop :=
  ∃ (f : Addr) (fd : FuncData), FnOk P w K mg base CX k f fd ps sp ∧ mg x = some (.ref f) ∧ PySem.W.keepIn K (.ref f) = true ∧ Binds K fd ps []
def FxG (P : Program) (w : World) (K : PySem.W.Frag) (mg : Str → Option Value) (base : Heap) (CX : CXT) (k : Nat) (x : Str) (ps : List Str) (sp : Sp) : Prop :=
  ∃ (f : Addr) (fd : FuncData), FnG P w K mg base CX k f fd ps sp ∧ mg x = some (.ref f) ∧ PySem.W.keepIn K (.ref f) = true ∧ Binds K fd ps []
section
variable {X : Cx} {CX : CXT} {k : Nat} {ps : List Str} {sp : Sp} {E : XK} {x : Str} {p pos : Pos} {e : Expr} {es : List Expr} {t : TA}
theorem pe_callF (F : Fx X.prog X.w X.K X.mg X.base CX k x ps sp) (hr : Room k X.A) (hg : Gl X x) (hx : Passes CX X E) (ha : PA X (e :: es) t) (hdb : (x == ("__debug__" : Str)) = false := by decide)
    (he : starEach (e :: es) X.env = (false, eval e X.env) :: starEach es X.env := by rfl) (hpl : (backTo pos (starEach es X.env)).any (·.1) = false := by rfl) :
    PE X (.Call (.Name x p) (e :: es) [] pos) (tCall sp [] E t) := by
  obtain ⟨f, fd, G, gm, kp, b⟩ := F
  exact pe_call G hr hg gm kp b .nil hx ha hdb he hpl
theorem pe_callF0 (F : Fx X.prog X.w X.K X.mg X.base CX k x ps sp) (hr : Room k X.A) (hg : Gl X x) (hx : Passes CX X E) (hdb : (x == ("__debug__" : Str)) = false := by decide) : PE X (.Call (.Name x p) [] [] pos) (tCall sp [] E tNil) := by
  obtain ⟨f, fd, G, gm, kp, b⟩ := F
  exact pe_call0 G hr hg gm kp b .nil hx hdb
theorem pe_callFG (F : FxG X.prog X.w X.K X.mg X.base CX k x ps sp) (gd : X.A.guards = some []) (hr : Room k X.A) (hg : Gl X x) (hx : Passes CX X E) (ha : PA X (e :: es) t) (hdb : (x == ("__debug__" : Str)) = false := by decide)
    (he : starEach (e :: es) X.env = (false, eval e X.env) :: starEach es X.env := by rfl) (hpl : (backTo pos (starEach es X.env)).any (·.1) = false := by rfl) :
    PE X (.Call (.Name x p) (e :: es) [] pos) (tCall sp [] E t) := by
  obtain ⟨f, fd, G, gm, kp, b⟩ := F
  exact pe_callG G gd hr hg gm kp b .nil hx ha hdb he hpl
theorem pe_callFS {E : L2.St → XK} (F : Fx X.prog X.w X.K X.mg X.base CX k x ps sp) (hr : Room k X.A) (hg : Gl X x) (hx : ∀ σ, PassesAt CX X σ (E σ)) (ha : PA X (e :: es) t) (hdb : (x == ("__debug__" : Str)) = false := by decide)
    (he : starEach (e :: es) X.env = (false, eval e X.env) :: starEach es X.env := by rfl) (hpl : (backTo pos (starEach es X.env)).any (·.1) = false := by rfl) :
    PE X (.Call (.Name x p) (e :: es) [] pos) (tCallS sp E t) := by
  obtain ⟨f, fd, G, gm, kp, b⟩ := F
  exact pe_callS G hr hg gm kp b hx ha hdb he hpl
end
end GL
set_option Elab.async false
set_option linter.all false
set_option maxRecDepth 100000
set_option maxHeartbeats 4000000
/-! Data: what a value stands for, kept where the heap grows; types of data. -/
namespace GL
open PySem PySem.Spec L2
theorem same_t {K : PySem.W.Frag} {H H' : Hp} {a : Addr} {xs : List V} (e : Same H H') (h : SqT K H a xs) : SqT K H' a xs := by
  rcases h with (h | ⟨o, h⟩) | h
  · exact Or.inl (Or.inl (e _ _ h))
  · exact Or.inl (Or.inr ⟨o, e _ _ h⟩)
  · exact Or.inr h
theorem same_new {H : Hp} {p : Addr} {o : HO} (h : H p = none) : Same H (upd H p o) := fun b u e => by
  rw [upd_ne (ne_of_none e h)]; exact e
mutual
theorem dp_mono {K : PySem.W.Frag} {H H' : Hp} (s : Same H H') : ∀ {v : V} {d : PyData}, Dp K H v d → Dp K H' v d
  | _, _, .non => .non
  | _, _, .bl b => .bl b
  | _, _, .int i => .int i
  | _, _, .str x => .str x
  | _, _, .lst h a => .lst (s.seq h) (dps_mono s a)
  | _, _, .tup h a => .tup (same_t s h) (dps_mono s a)
theorem dps_mono {K : PySem.W.Frag} {H H' : Hp} (s : Same H H') : ∀ {vs : List V} {ds : List PyData}, DpAll K H vs ds → DpAll K H' vs ds
  | _, _, .nil => .nil
  | _, _, .cons h a => .cons (dp_mono s h) (dps_mono s a)
end
theorem dps_strs {K : PySem.W.Frag} {H : Hp} : ∀ xs : List Str, DpAll K H (xs.map V.str) (xs.map PyData.str)
  | [] => .nil
  | x :: r => .cons (.str x) (dps_strs r)
theorem dps_bools {K : PySem.W.Frag} {H : Hp} : ∀ xs : List Bool, DpAll K H (xs.map V.bl) (xs.map PyData.bool)
  | [] => .nil
  | x :: r => .cons (.bl x) (dps_bools r)
theorem dps_ints {K : PySem.W.Frag} {H : Hp} : ∀ xs : List Int, DpAll K H (xs.map V.int) (xs.map PyData.int)
  | [] => .nil
  | x :: r => .cons (.int x) (dps_ints r)
theorem dp_tup {K : PySem.W.Frag} {H : Hp} {a : Addr} {xs : List V} {ds : List PyData} (h : H a = some (.tup xs)) (k : DpAll K H xs ds) : Dp K H (.ref a) (.tuple ds) := .tup (.inl (.inl h)) k
theorem dp_lst {K : PySem.W.Frag} {H : Hp} {a : Addr} {xs : List V} {ds : List PyData} (h : H a = some (.lst xs)) (k : DpAll K H xs ds) : Dp K H (.ref a) (.list ds) := .lst (.inl (.inl h)) k
def isN : PyData → Bool
  | .none => true
  | _ => false
theorem dp_non {K : PySem.W.Frag} {H : Hp} {v : V} {d : PyData} (h : Dp K H v d) : decide (v = .non) = isN d := by
  cases h <;> simp [isN]
/-- the built-in class of a datum -/
def tyD : PyData → String
  | .none => "NoneType" | .bool _ => "bool" | .int _ => "int" | .str _ => "str" | .list _ => "list" | .tuple _ => "tuple" | .dict _ => "dict"
theorem ty_dp {K : PySem.W.Frag} {H : Hp} {v : V} {d : PyData} : Dp K H v d → TyX K H v (.type (tyD d))
  | .non => .base .non
  | .bl b => .base (.bl b)
  | .int i => .base (.int i)
  | .str x => .base (.str x)
  | .lst (.inl (.inl h)) _ => .base (.lst h)
  | .lst (.inl (.inr ⟨_, h⟩)) _ => .base (.frz h)
  | .lst (.inr ⟨_, _, _, h, c, _⟩) _ => .kList h c
  | .tup (.inl (.inl h)) _ => .base (.tup h)
  | .tup (.inl (.inr ⟨_, h⟩)) _ => .fTuple h
  | .tup (.inr ⟨_, _, _, h, c, _⟩) _ => .kTuple h c
/-- isinstance of a datum against a built-in class -/
theorem kit_d {K : PySem.W.Frag} {d : PyData} {n : String} {b : Bool} (h : kitB (tyD d) n = some b) : PySem.W.kitOne K (.type (tyD d)) (.type n) = some b := kit_ty h
def isStr : PyData → Bool
  | .str _ => true
  | _ => false
theorem kit_str {K : PySem.W.Frag} (d : PyData) : PySem.W.kitOne K (.type (tyD d)) (.type "str") = some (isStr d) := by
  refine kit_ty ?_
  cases d with
  | none => show kitB "NoneType" "str" = some false; decide +kernel
  | bool b => show kitB "bool" "str" = some false; decide +kernel
  | int i => show kitB "int" "str" = some false; decide +kernel
  | str x => show kitB "str" "str" = some true; decide +kernel
  | list xs => show kitB "list" "str" = some false; decide +kernel
  | tuple xs => show kitB "tuple" "str" = some false; decide +kernel
  | dict xs => show kitB "dict" "str" = some false; decide +kernel
/-- a datum is handed back -/
def RetD (K : PySem.W.Frag) (H : Hp) (d : PyData) (Q : VK) : Prop := ∀ (H' : Hp) (v : V), Same H H' → Dp K H' v d → Q v H'
/-! ### comprehensions whose turns make nothing -/
theorem in_strs (x : Str) : ∀ xs : List Str, inV (.str x) (xs.map V.str) = xs.contains x
  | [] => rfl
  | y :: r => by
    have h := in_strs x r
    show (eqV (.str y) (.str x) || inV (.str x) (r.map V.str)) = (y :: r).contains x
    rw [h, List.contains_cons]
    show ((y == x) || _) = ((x == y) || _)
    congr 1
    by_cases e : y = x
    · subst e; rfl
    · rw [beq_eq_false_iff_ne.mpr e, beq_eq_false_iff_ne.mpr (Ne.symm e)]
theorem flat_strs : ∀ xs : List Str, (xs.map V.str).all flatV = true
  | [] => rfl
  | _ :: r => by
    show (true && (r.map V.str).all flatV) = true
    rw [flat_strs r]; rfl
theorem take_map_succ {α β : Type} (v : α → β) {xs : List α} {i : Nat} {c : α} (h : xs[i]? = some c) : (xs.take (i + 1)).map v = (xs.take i).map v ++ [v c] := by
  rw [List.take_add_one, h, List.map_append]; rfl
/-- [e for c in x], x a text -/
theorem lc_str {te te2 : TE} {j : Nat} {σ : L2.St} {H : Hp} {Q : VK} {x : Str} (v : Nat → V) (hz : x.length < sizeLine) (hx : ∀ R : VK, R (.str x) H → te σ H R)
    (hw : ∀ y, wipe ((wipe σ [j]).set j (some y)) [j] = wipe σ [j]) (he : ∀ (c : Nat) (H' : Hp) (R : VK), R (v c) H' → te2 ((wipe σ [j]).set j (some (.str ⟨#[c]⟩))) H' R)
    (q : ∀ D, H D = none → Q (.ref D) (upd H D (.lst (x.cps.toList.map v)))) : tLc (iStr te) (gName j) tYes te2 [j] σ H Q := by
  refine hx _ ⟨x, rfl, fun D hD => ⟨fun i m H' => i + m = x.cps.toList.length ∧ H' = upd H D (.lst ((x.cps.toList.take i).map v)), ⟨_, Nat.zero_add _, rfl⟩, fun i m H' hW => ?_⟩⟩
  obtain ⟨him, rfl⟩ := hW
  have el : x.cps.toList.length = x.cps.size := Array.length_toList
  by_cases hi : i < x.cps.toList.length
  · refine .inr ⟨by show i < x.cps.size; omega, fun H' => H' = upd H D (.lst ((x.cps.toList.take (i + 1)).map v)), fun H' e => ⟨m - 1, by omega, by omega, e⟩, fun y H' hy => ?_⟩
    obtain ⟨rfl, c, hc, rfl⟩ := hy
    refine ⟨hw _, ?_⟩
    show te2 _ _ _
    refine he c _ _ ⟨_, upd_same, ?_, ?_⟩
    · rw [List.length_map, List.length_take]
      have h1 : x.cps.toList.length = x.length := el
      omega
    · have hc' : x.cps.toList[i]? = some c := by rw [Array.getElem?_toList]; exact hc
      show upd _ _ _ = _
      rw [upd_upd, take_map_succ v hc']
  · refine .inl ⟨by show x.cps.size ≤ i; omega, ?_⟩
    rw [List.take_of_length_le (by omega)]
    exact q D hD
/-- for c in x, x a text -/
theorem for_str {x : Str} {g : TG} {tb : TS} {D : Ends} {σ : L2.St} {H : Hp} (Pv : Nat → L2.St → Hp → Prop) (h0 : Pv 0 σ H)
    (hs : ∀ i c σ H, x.cps.toList[i]? = some c → Pv i σ H → g (.str ⟨#[c]⟩) σ H fun σ2 H2 => tb { D with nx := Pv (i + 1), ct := Pv (i + 1), bk := D.nx } σ2 H2) (hd : ∀ σ H, Pv x.cps.toList.length σ H → D.nx σ H) :
    ∃ W : Nat → Nat → L2.St → Hp → Prop, (∃ m, W 0 m σ H) ∧ ∀ i m σ H, W i m σ H →
      ((Its x).stop i H ∧ D.nx σ H) ∨ ((Its x).go i H ∧ ∃ N : L2.St → Hp → Prop, (∀ σ' H', N σ' H' → ∃ m', m' < m ∧ W (i + 1) m' σ' H') ∧ ∀ y H', (Its x).yld i H y H' → g y σ H' fun σ2 H2 => tb { D with nx := N, ct := N, bk := D.nx } σ2 H2) := by
  have el : x.cps.toList.length = x.cps.size := Array.length_toList
  refine ⟨fun i m σ H => i + m = x.cps.toList.length ∧ Pv i σ H, ⟨_, Nat.zero_add _, h0⟩, ?_⟩
  rintro i m σ H ⟨him, p⟩
  by_cases hi : i < x.cps.toList.length
  · refine .inr ⟨by show i < x.cps.size; omega, Pv (i + 1), fun σ' H' p' => ⟨m - 1, by omega, by omega, p'⟩, fun y H' hy => ?_⟩
    obtain ⟨rfl, c, hc, rfl⟩ := hy
    exact hs i c σ _ (by rw [Array.getElem?_toList]; exact hc) p
  · refine .inl ⟨by show x.cps.size ≤ i; omega, hd σ H ?_⟩
    have e : i = x.cps.toList.length := by omega
    rw [← e]
    exact p
theorem atI0 {α : Type} {x : α} {r : List α} : atI (x :: r) 0 = some x := atI_nat (j := 0) rfl
theorem atI1 {α : Type} {x y : α} {r : List α} : atI (x :: y :: r) 1 = some y := atI_nat (j := 1) rfl
theorem atI2 {α : Type} {x y z : α} {r : List α} : atI (x :: y :: z :: r) 2 = some z := atI_nat (j := 2) rfl
theorem decS (x y : Str) : decide (V.str x = V.str y) = decide (x = y) := by
  by_cases z : x = y
  · rw [decide_eq_true z, decide_eq_true (congrArg V.str z)]
  · rw [decide_eq_false z, decide_eq_false fun h => z (V.str.inj h)]
theorem decI (x y : Int) : decide (V.int x = V.int y) = decide (x = y) := by
  by_cases z : x = y
  · rw [decide_eq_true z, decide_eq_true (congrArg V.int z)]
  · rw [decide_eq_false z, decide_eq_false fun h => z (V.int.inj h)]
/-- isinstance of an instance of C against an own class R above it -/
theorem kit_sub {K : PySem.W.Frag} {C R : Addr} (h1 : PySem.W.isClsIn K R = true) (h2 : PySem.W.typeIn K (.ref R) = some (.type "type")) (h3 : PySem.W.subIn K (.ref C) (.ref R) = some true) : PySem.W.kitOne K (.ref C) (.ref R) = some true := by
  have e : ((PySem.W.clsIn K R).isSome && PySem.W.typeIn K (.ref R) == some (.type "type")) = true := by
    rw [show (PySem.W.clsIn K R).isSome = true from h1, h2]; rfl
  unfold PySem.W.kitOne
  split
  · rfl
  · show (if ((PySem.W.clsIn K R).isSome && PySem.W.typeIn K (.ref R) == some (.type "type")) = true then PySem.W.subIn K (.ref C) (.ref R) else none) = some true
    rw [if_pos e, h3]
end GL
set_option Elab.async false
set_option linter.all false
set_option maxRecDepth 100000
set_option maxHeartbeats 4000000
namespace Lw
open PySem L2 GL
def topS (i : Nat) : Stmt := PySem.Challenge.pw_interruptruns_k87_choice_texts_refused.main.body.getD i (.Pass ⟨0, 0, 0, 0⟩)
abbrev s_law_pull : Stmt := topS 8
theorem sc_law_pull : FnScope ["_law_pool", "_law_many", "_law_cells", "_law_at", "_law_cell", "_law_seed"] ["_law_pool", "_law_many"] (defScope s_law_pull) := ⟨rfl, rfl, rfl, by decide +kernel, rfl, by decide +kernel, by decide +kernel⟩
/-- all but the pool and its cells stays -/
def Keep (p c : Addr) (H H' : Hp) : Prop := ∀ b o, b ≠ p → b ≠ c → H b = some o → H' b = some o
theorem Keep.refl (p c : Addr) (H : Hp) : Keep p c H H := fun _ _ _ _ e => e
theorem Keep.trans {p c : Addr} {H H1 H2 : Hp} (a : Keep p c H H1) (b : Keep p c H1 H2) : Keep p c H H2 := fun x o h1 h2 e => b x o h1 h2 (a x o h1 h2 e)
/-- a pool at p with its cells at c -/
def PoolAt (H : Hp) (p c : Addr) : Prop := ∃ (n : Nat) (seed : Int) (ns : List Int), H p = some (.lst [.ref c, .int n, .int seed]) ∧ H c = some (.lst (ns.map V.int)) ∧ ns.length ≤ 63
theorem PoolAt.ne {H : Hp} {p c : Addr} (h : PoolAt H p c) : p ≠ c := by
  obtain ⟨n, sd, ns, h1, h2, _⟩ := h
  refine ne_of h1 h2 fun e => ?_
  have e1 : [V.ref c, .int n, .int sd] = ns.map V.int := HO.lst.inj e
  cases ns with
  | nil => cases e1
  | cons x r => cases e1
def spPull : Sp := fun vs H Q _ => ∃ (p c : Addr) (m : Int), vs = [.ref p, .int m] ∧ PoolAt H p c ∧ 1 ≤ m ∧ m < 1000000 ∧
  ∀ (H' : Hp) (v : Int), Keep p c H H' → PoolAt H' p c → 0 ≤ v → v < m → Q (.int v) H'
structure TxP (mg : Str → Option Value) : Prop where
  len : mg "len" = none
  int : mg "int" = none
section
variable {P : Program} {w : World} {K : PySem.W.Frag} {mg : Str → Option Value} {base : Heap}
theorem mod_bd {a m : Int} (h : 1 ≤ m) : 0 ≤ a % m ∧ a % m < m := ⟨Int.emod_nonneg _ (by omega), Int.emod_lt_of_pos _ (by omega)⟩
theorem ok_pull {f : Addr} {fd : FuncData} (F : Fun K "_law_pull" "_law_pull" s_law_pull f fd) (T : TxP mg) : FnOk P w K mg base CX0 1 f fd ["_law_pool", "_law_many"] spPull := by
  refine F.ok sc_law_pull (fun vs H Q E h => ?_) (fun cdv A outer s H vs Q E hr h => ?_)
  · obtain ⟨p, c, m, rfl, _⟩ := h
    rfl
  · obtain ⟨p, c, m, rfl, hP, hm1, hm2, q⟩ := h
    have npc := hP.ne
    obtain ⟨n, sd, ns, hp, hc, hlen⟩ := hP
    refine ⟨_, (pss_cons (ps_set (i := 2) sc_law_pull.nd rfl (.inl rfl) (pe_ix ix_list (pv 0) pe_int (fun _ _ => rfl)))
      (pss_cons (ps_set (i := 3) sc_law_pull.nd rfl (.inl rfl) (pe_ix ix_list (pv 0) pe_int (fun _ _ => rfl)))
      (Evl.pss_cut (ps_if (PW.pt (pw_and (pt_cmpR op_lt (pv 3) (pe_callB call_len_seq (by rfl) T.len PySem.boot_len (pa_cons (pv 2) pa_nil)) (nomark _)) (pw_and1 (pt_cmpR op_ge (pe_ix ix_list (pv 2) (pv 3) (fun _ _ => rfl)) (pe_op op_pow pe_int pe_int) (nomark _)))))
      (pss_cons (ps_set (i := 4) sc_law_pull.nd rfl (.inl rfl) (pe_ix ix_list (pv 2) (pv 3) (fun _ _ => rfl)))
        (pss_cons (ps_asg (pe_op op_fdivN (pv 4) (pv 1)) (pg_sub (pv 2) (pv 3) set_list))
        (pss_one (ps_ret (pe_op op_mod (pe_callTy call_int1 (by rfl) T.int (by decide +kernel) (pa_cons (pv 4) pa_nil)) (pv 1))))))
      pss_nil)
      (pss_cons (ps_asg (pe_op op_add (pv 3) pe_int) (pg_sub (pv 0) pe_int set_list))
      (pss_cons (ps_set (i := 4) sc_law_pull.nd rfl (.inl rfl) pe_int)
      (Evl.pss_cut (ps_if (pt_cmpR op_gt (pe_callB call_len_seq (by rfl) T.len PySem.boot_len (pa_cons (pv 2) pa_nil)) pe_int (nomark _))
      (pss_one (ps_set (i := 4) sc_law_pull.nd rfl (.inl rfl) (pe_ix ix_list (pv 2) (pe_op op_mod (pe_callTy call_int1 (by rfl) T.int (by decide +kernel) (pa_cons (pv 3) pa_nil)) (pe_callB call_len_seq (by rfl) T.len PySem.boot_len (pa_cons (pv 2) pa_nil))) (fun _ _ => rfl))))
      pss_nil)
      (pss_cons (ps_set (i := 5) sc_law_pull.nd rfl (.inl rfl) (pe_op op_mod (pe_callTy call_int1 (by rfl) T.int (by decide +kernel) (pa_cons (pe_op op_add (pe_op op_add (pe_op op_add (pe_op op_mul (pv 4) pe_int) (pe_op op_mul (pe_ix ix_list (pv 0) pe_int (fun _ _ => rfl)) pe_int)) (pe_op op_mul (pv 3) pe_int)) pe_int) pa_nil)) pe_int))
      (pss_cons (ps_set (i := 5) sc_law_pull.nd rfl (.inl rfl) (pe_op op_mod (pe_callTy call_int1 (by rfl) T.int (by decide +kernel) (pa_cons (pe_op op_add (pe_op op_add (pe_op op_mul (pv 5) pe_int) (pe_op op_mul (pv 3) pe_int)) pe_int) pa_nil)) pe_int))
      (pss_cons (ps_asg (pv 5) (pg_sub (pv 0) pe_int set_list))
      (pss_one (ps_ret (pe_op op_mod (pe_callTy call_int1 (by rfl) T.int (by decide +kernel) (pa_cons (pe_op op_fdivN (pv 5) pe_int) pa_nil)) (pv 1))))))))))))), ?_⟩
    -- cells, at
    refine ⟨_, rfl, p, _, 0, .ref c, rfl, rfl, SqL.of hp, atI_nat (j := 0) rfl, _, rfl, p, _, 1, .int n, rfl, rfl, SqL.of hp, atI_nat (j := 1) rfl, ?_⟩
    have hlm : (ns.map V.int).length = ns.length := List.length_map ..
    have itm : ∀ j : Nat, j < ns.length → ∃ z, (ns.map V.int)[j]? = some (.int z) := fun j hj => ⟨ns[j], by rw [List.getElem?_map, List.getElem?_eq_getElem hj]; rfl⟩
    -- the first if: either it returns, or nothing has changed
    refine ⟨fun σ' H' => σ' = [some (.ref p), some (.int m), some (.ref c), some (.int n), none, none] ∧ H' = H, ?_, ?_⟩
    · refine ⟨_, rfl, _, rfl, c, _, rfl, .inl (SqL.of hc), _, _, rfl, rfl, _, rfl, ite2 (fun h1 => ?_) (fun h1 => ?_)⟩
      · have hn : n < ns.length := by
          have h2 := of_decide_eq_true h1
          rw [hlm] at h2
          omega
        obtain ⟨z, hz⟩ := itm n hn
        refine ⟨_, rfl, _, rfl, c, _, n, .int z, rfl, rfl, SqL.of hc, atI_nat hz, _, _, rfl, rfl, ⟨by decide, by decide, by decide⟩, _, _, rfl, rfl, _, rfl, ite2 (fun h3 => ?_) (fun h3 => ?_)⟩
        · refine ⟨_, rfl, _, rfl, c, _, n, .int z, rfl, rfl, SqL.of hc, atI_nat hz, ?_⟩
          refine ⟨_, rfl, _, rfl, _, _, rfl, rfl, ⟨by omega, by omega⟩, _, rfl, _, rfl, c, _, n, n, rfl, rfl, hc, ?_, ?_⟩
          · rw [hlm]
            exact Evl.ixN_nat hn
          · refine ⟨_, rfl, .inl ⟨_, rfl, _, rfl, _, _, rfl, rfl, ?_, ?_⟩⟩
            · omega
            · refine q _ _ (fun b o h1 h2 e => ?_) ⟨n, sd, ns.set n (z.fdiv m), ?_, ?_, ?_⟩ (mod_bd hm1).1 (mod_bd hm1).2
              · rw [upd_ne h2]
                exact e
              · rw [upd_ne npc]
                exact hp
              · rw [upd_same, List.map_set]
              · rw [List.length_set]
                exact hlen
        · exact ⟨rfl, rfl⟩
      · exact ⟨rfl, rfl⟩
    · rintro σ' H' ⟨rfl, rfl⟩
      -- pool[1] = at + 1; cell = 0
      refine ⟨_, rfl, _, _, rfl, rfl, _, rfl, p, _, 1, 1, rfl, rfl, hp, rfl, ?_⟩
      have hp1 : (upd H' p (.lst ([V.ref c, .int n, .int sd].set 1 (.int ((n : Int) + 1))))) p = some (.lst [.ref c, .int ((n + 1 : Nat) : Int), .int sd]) := by
        rw [upd_same]
        rfl
      have hc1 : (upd H' p (.lst ([V.ref c, .int n, .int sd].set 1 (.int ((n : Int) + 1))))) c = some (.lst (ns.map V.int)) := by
        rw [upd_ne npc.symm]
        exact hc
      -- if len(cells) > 0: cell = cells[..]
      refine ⟨fun σ' H1 => (∃ z : Int, σ' = [some (.ref p), some (.int m), some (.ref c), some (.int n), some (.int z), none]) ∧ H1 = upd H' p (.lst ([V.ref c, .int n, .int sd].set 1 (.int ((n : Int) + 1)))), ?_, ?_⟩
      · refine ⟨_, rfl, c, _, rfl, .inl (SqL.of hc1), _, _, rfl, rfl, _, rfl, ite2 (fun h1 => ?_) (fun h1 => ?_)⟩
        · have hpos : 0 < ns.length := by
            have h2 := of_decide_eq_true h1
            rw [hlm] at h2
            omega
          have hj : n % ns.length < ns.length := Nat.mod_lt _ hpos
          obtain ⟨z, hz⟩ := itm _ hj
          refine ⟨_, rfl, _, rfl, .inl ⟨_, rfl, _, rfl, c, _, rfl, .inl (SqL.of hc1), _, _, rfl, rfl, ?_, c, _, _, .int z, rfl, rfl, SqL.of hc1, ?_, ?_⟩⟩
          · show (0 : Int) < ((ns.map V.int).length : Int)
            rw [hlm]
            omega
          · have e : (n : Int) % ((ns.map V.int).length : Int) = ((n % ns.length : Nat) : Int) := by
              rw [hlm]
              rfl
            rw [e]
            exact atI_nat hz
          · exact ⟨⟨z, rfl⟩, rfl⟩
        · exact ⟨⟨0, rfl⟩, rfl⟩
      · rintro σ1 H1 ⟨⟨z, rfl⟩, rfl⟩
        -- seed, seed, pool[2] = seed
        refine ⟨_, rfl, _, _, rfl, rfl, .inr ⟨by decide, by decide⟩, _, rfl, p, _, 2, .int sd, rfl, rfl, SqL.of hp1, atI_nat (j := 2) rfl, _, _, rfl, rfl, .inr ⟨by decide, by decide⟩, _, _, rfl, rfl, _, rfl, _, _, rfl, rfl, .inr ⟨by decide, by decide⟩, _, _, rfl, rfl, _, _, rfl, rfl, .inl ⟨_, rfl, _, _, rfl, rfl, (by show (0 : Int) < 2147483647; decide), ?_⟩⟩
        refine ⟨_, rfl, _, _, rfl, rfl, .inr ⟨by decide, by decide⟩, _, rfl, _, _, rfl, rfl, .inr ⟨by decide, by decide⟩, _, _, rfl, rfl, _, _, rfl, rfl, .inl ⟨_, rfl, _, _, rfl, rfl, (by show (0 : Int) < 2147483629; decide), ?_⟩⟩
        refine ⟨_, rfl, _, rfl, p, _, 2, 2, rfl, rfl, hp1, rfl, ?_⟩
        -- return
        refine ⟨_, rfl, _, _, rfl, rfl, ⟨by decide, by decide⟩, .inl ⟨_, rfl, _, rfl, _, _, rfl, rfl, ?_, ?_⟩⟩
        · omega
        · refine q _ _ (fun b o h1 h2 e => ?_) ⟨n + 1, _, ns, upd_same, ?_, hlen⟩ (mod_bd hm1).1 (mod_bd hm1).2
          · rw [upd_ne h1, upd_ne h1]
            exact e
          · rw [upd_ne npc.symm]
            exact hc1
end
end Lw
set_option Elab.async false
set_option linter.all false
set_option maxRecDepth 100000
set_option maxHeartbeats 4000000
namespace Lw
open PySem L2 GL
/-! ### the error -/
abbrev s_ParseError___init__ : Stmt := inClass (topS 2) 0
theorem sc_ParseError___init__ : FnScope ["self", "line"] ["self", "line"] (defScope s_ParseError___init__) := ⟨rfl, rfl, rfl, by decide +kernel, rfl, by decide +kernel, by decide +kernel⟩
section
variable {P : Program} {w : World} {K : PySem.W.Frag} {mg : Str → Option Value} {base : Heap}
theorem ok_errInit {f C R : Addr} {fd : FuncData} (F : Fun K "__init__" "ParseError.__init__" s_ParseError___init__ f fd) (B : BaseC K mg R) (O : OexC K C) (no : PySem.W.findIn K (.ref C) "line" = some none) : FnOk P w K mg base CX0 1 f fd ["self", "line"] (spErr C "line") := by
  refine F.ok sc_ParseError___init__ (fun vs H Q E h => ?_) (fun cdv A outer s H vs Q E hr h => ?_)
  · obtain ⟨a, v, rfl, _⟩ := h
    rfl
  · obtain ⟨a, v, rfl, ha, q⟩ := h
    refine ⟨_, pss_cons (ps_expr (pe_rinit B (by rfl) (pa_cons (pv 0) (pa_cons pe_str pa_nil)))) (pss_one (ps_ost (pv 0) (pv 1))), ?_⟩
    exact ⟨_, rfl, a, C, _, rfl, (by show 1 ≤ 1000; decide), O, ha, _, rfl, _, rfl, a, C, rfl, O, no, .inl ⟨ha, fun dx hd hda => q dx hd hda⟩⟩
end
/-! ### what the texts say -/
/-- three words as a choice -/
def names (a : Str) : List Str := if a = "-" then [] else Txt.split a ","
def ways (t : Str) : Str := if t = "-" then "" else t
def bits (z : Str) : List Bool := z.cps.toList.map fun c => decide ((⟨#[c]⟩ : Str) = "1")
def res3 (a o t : Str) : Option (List Str × Bool × List Bool) :=
  if (names a).contains "" || !(decide (o = "0") || decide (o = "1")) || decide (t = "") || !((ways t).cps.toList.all fun c => decide (c ∈ ("01" : Str).cps.toList)) then none
  else some (names a, decide (o = "1"), bits (ways t))
def dat : Option (List Str × Bool × List Bool) → PyData
  | none => .none
  | some (ns, b, ws) => .tuple [.tuple (ns.map PyData.str), .bool b, .tuple (ws.map PyData.bool)]
/-- a text as a choice -/
def res (z : Str) : Option (List Str × Bool × List Bool) := match Txt.split z " " with
  | [a, o, t] => if ([a, o, t] : List Str).contains "" then none else res3 a o t
  | _ => none
structure TxC (mg : Str → Option Value) : Prop where
  all : mg "all" = none
  tuple : mg "tuple" = none
  bool : mg "bool" = none
  len : mg "len" = none
  isinstance : mg "isinstance" = none
  str : mg "str" = none
abbrev s_choice_of : Stmt := topS 4
theorem sc_choice_of : FnScope ["words", "asked", "over", "taken", "names", "ways", "way"] ["words"] (defScope s_choice_of) := ⟨rfl, rfl, rfl, by decide +kernel, rfl, by decide +kernel, by decide +kernel⟩
def spChoice (K : PySem.W.Frag) : Sp := fun vs H Q _ => ∃ (l : Addr) (a o t : Str), vs = [.ref l] ∧ SqL K H l [.str a, .str o, .str t] ∧ a.length ≤ 1000 ∧ t.length ≤ 1000 ∧ RetD K H (dat (res3 a o t)) Q
section
variable {P : Program} {w : World} {K : PySem.W.Frag} {mg : Str → Option Value} {base : Heap}
theorem ok_choice {f : Addr} {fd : FuncData} (F : Fun K "choice_of" "choice_of" s_choice_of f fd) (T : TxC mg) : FnOk P w K mg base CX0 1 f fd ["words"] (spChoice K) := by
  refine F.ok sc_choice_of (fun vs H Q E h => ?_) (fun cdv A outer s H vs Q E hr h => ?_)
  · obtain ⟨l, a, o, t, rfl, _⟩ := h
    rfl
  · obtain ⟨l, a, o, t, rfl, hl, la, lt, q⟩ := h
    refine ⟨_, (pss_cons (ps_asg (pv 0) (pg_lst rfl (pgs_cons (pg_name (i := 1) sc_choice_of.nd rfl (.inl rfl)) (pgs_cons (pg_name (i := 2) sc_choice_of.nd rfl (.inl rfl)) (pgs_cons (pg_name (i := 3) sc_choice_of.nd rfl (.inl rfl)) pgs_nil)))))
      (Evl.pss_cut (ps_set (i := 4) sc_choice_of.nd rfl (.inl rfl) (pe_ifExp (pt_cmpR op_eq (pv 1) pe_str (nomark _)) (pe_lst pa_nil) (pe_split (pv 1) pe_str)))
      (Evl.pss_cut (ps_set (i := 5) sc_choice_of.nd rfl (.inl rfl) (pe_ifExp (pt_cmpR op_eq (pv 3) pe_str (nomark _)) pe_str (pv 3)))
      (Evl.pss_cut (ps_if (PW.pt (pw_or (pt_cmpR op_in_seq pe_str (pv 4) (by rfl)) (pw_or (pt_cmpR op_notIn_seq (pv 2) (pe_tup (pa_cons pe_str (pa_cons pe_str pa_nil))) (by rfl)) (pw_or (pt_cmpR op_eq (pv 3) pe_str (nomark _)) (pw_or1 (pt_not (pt_val (pe_callB (cr_all rfl) (by rfl) T.all (by decide +kernel) (pa_cons (pe_lc (own := [("way", 6)]) (g := gName 6) (tt := tYes) (by rfl) sc_choice_of.nd (pi_str (pv 5)) (blkOk_by (own := [("way", 6)]) (N := ["words", "asked", "over", "taken", "names", "ways", "way"]) (sc := defScope s_choice_of) (by decide +kernel)) (fun _ _ _ _ _ => (pg_name (i := 6) sc_choice_of.nd rfl (Or.inl rfl))) (fun _ _ _ _ _ => pts_nil) (fun _ _ _ _ _ => (pe_cmpR op_in_sign (pv 6) pe_str (by rfl)))) pa_nil)))))))))
      (pss_one (ps_ret pe_non))
      pss_nil)
      (pss_one (ps_ret (pe_tup (pa_cons (pe_callTy call_tuple_of (by rfl) T.tuple (by decide +kernel) (pa_cons (pv 4) pa_nil)) (pa_cons (pe_callTy call_bool1 (by rfl) T.bool (by decide +kernel) (pa_cons (pe_cmpR op_eq (pv 2) pe_str (nomark _)) pa_nil)) (pa_cons (pe_callTy call_tuple_of (by rfl) T.tuple (by decide +kernel) (pa_cons (pe_lc (own := [("way", 6)]) (g := gName 6) (tt := tYes) (by rfl) sc_choice_of.nd (pi_str (pv 5)) (blkOk_by (own := [("way", 6)]) (N := ["words", "asked", "over", "taken", "names", "ways", "way"]) (sc := defScope s_choice_of) (by decide +kernel)) (fun _ _ _ _ _ => (pg_name (i := 6) sc_choice_of.nd rfl (Or.inl rfl))) (fun _ _ _ _ _ => pts_nil) (fun _ _ _ _ _ => (pe_callTy call_bool1 (by rfl) T.bool (by decide +kernel) (pa_cons (pe_cmpR op_eq (pv 6) pe_str (nomark _)) pa_nil)))) pa_nil)) pa_nil)))))))))), ?_⟩
    -- asked, over, taken = words
    refine ⟨_, rfl, l, _, rfl, hl, rfl, _, _, rfl, _, _, rfl, _, _, rfl, rfl, ?_⟩
    -- names
    refine ⟨fun σ' H' => ∃ n, σ' = [some (.ref l), some (.str a), some (.str o), some (.str t), some (.ref n), none, none] ∧ Same H H' ∧ H' n = some (.lst ((names a).map V.str)), ?_, ?_⟩
    · refine ⟨_, rfl, rfl, _, rfl, ite2 (fun h1 => ?_) (fun h1 => ?_)⟩
      · have e : a = "-" := V.str.inj (of_decide_eq_true h1)
        refine ⟨Nat.zero_le _, fun n hn => ⟨n, rfl, same_new hn, ?_⟩⟩
        rw [upd_same, names, if_pos e]
        rfl
      · have e : ¬ a = "-" := fun z => h1 (decide_eq_true (congrArg V.str z))
        refine ⟨_, rfl, ⟨_, rfl⟩, _, _, rfl, rfl, by decide, ?_, fun n hn => ⟨n, rfl, same_new hn, ?_⟩⟩
        · rw [sizeLine_eq]
          omega
        · rw [upd_same, names, if_neg e]
    rintro σ1 H1 ⟨n, rfl, s1, hn⟩
    -- ways
    refine ⟨fun σ' H' => σ' = [some (.ref l), some (.str a), some (.str o), some (.str t), some (.ref n), some (.str (ways t)), none] ∧ H' = H1, ?_, ?_⟩
    · refine ⟨_, rfl, rfl, _, rfl, ite2 (fun h1 => ?_) (fun h1 => ?_)⟩
      · have e : t = "-" := V.str.inj (of_decide_eq_true h1)
        rw [ways, if_pos e]
        exact ⟨rfl, rfl⟩
      · have e : ¬ t = "-" := fun z => h1 (decide_eq_true (congrArg V.str z))
        refine ⟨_, rfl, ?_⟩
        rw [ways, if_neg e]
        exact ⟨rfl, rfl⟩
    rintro σ2 H2 ⟨rfl, rfl⟩
    have lw : (ways t).length ≤ 1000 := by
      unfold ways
      split
      · decide
      · exact lt
    have none_of : ((names a).contains "" || !(decide (o = "0") || decide (o = "1")) || decide (t = "") || !((ways t).cps.toList.all fun c => decide (c ∈ ("01" : Str).cps.toList))) = true → ∀ H', Same H H' → Q .non H' := by
      intro hc H' s'
      have e : res3 a o t = none := by
        unfold res3
        rw [if_pos hc]
      rw [e] at q
      exact q H' _ s' .non
    -- the if
    refine ⟨fun σ' H' => σ' = [some (.ref l), some (.str a), some (.str o), some (.str t), some (.ref n), some (.str (ways t)), none] ∧ Same H2 H' ∧
      ((names a).contains "" || !(decide (o = "0") || decide (o = "1")) || decide (t = "") || !((ways t).cps.toList.all fun c => decide (c ∈ ("01" : Str).cps.toList))) = false, ?_, ?_⟩
    · -- '' in names
      refine ⟨_, rfl, n, _, rfl, .inl (SqL.of hn), rfl, flat_strs _, _, rfl, ?_⟩
      show if inV (.str "") ((names a).map V.str) = true then _ else _
      rw [in_strs]
      refine ite2 (fun h1 => none_of (by rw [h1]; rfl) _ s1) (fun h1 => ?_)
      have e1 : (names a).contains "" = false := Bool.eq_false_iff.mpr h1
      -- over not in ('0', '1')
      refine ⟨_, rfl, (by show 2 ≤ sizeLine; decide), fun tp ht => ⟨tp, [.str "0", .str "1"], rfl, .inr (.inl (.inl upd_same)), rfl, rfl, _, rfl, ?_⟩⟩
      have s3 := s1.trans (same_new (o := .tup [.str "0", .str "1"]) ht)
      have hn3 := same_new (o := .tup [.str "0", .str "1"]) ht _ _ hn
      have ei : inV (.str o) [.str "0", .str "1"] = (decide (o = "0") || decide (o = "1")) := by
        refine (in_strs o ["0", "1"]).trans ?_
        rw [List.contains_cons, List.contains_cons, List.contains_nil, Bool.or_false]
        rfl
      show if (!inV (.str o) [.str "0", .str "1"]) = true then _ else _
      rw [ei]
      refine ite2 (fun h2 => none_of (by rw [h2, Bool.or_true]; rfl) _ s3) (fun h2 => ?_)
      have e2 : (!(decide (o = "0") || decide (o = "1"))) = false := Bool.eq_false_iff.mpr h2
      -- taken == ''
      refine ⟨_, rfl, rfl, _, rfl, ite2 (fun h3 => ?_) (fun h3 => ?_)⟩
      · have e3 : decide (t = "") = true := decide_eq_true (V.str.inj (of_decide_eq_true h3))
        exact none_of (by rw [e3, Bool.or_true]; rfl) _ s3
      have e3 : decide (t = "") = false := decide_eq_false fun z => h3 (decide_eq_true (congrArg V.str z))
      -- not all([..])
      delta tNot tB tCB tCons
      refine lc_str (x := ways t) (fun c => .bl (decide (c ∈ ("01" : Str).cps.toList))) (Nat.lt_of_le_of_lt lw (by decide)) ?_ ?_ ?_ ?_
      · exact fun R h => ⟨_, rfl, h⟩
      · exact fun y => rfl
      · exact fun c H' R h => ⟨_, rfl, c, _, rfl, rfl, h⟩
      intro D hD
      have em : (ways t).cps.toList.map (fun c => V.bl (decide (c ∈ ("01" : Str).cps.toList))) = ((ways t).cps.toList.map fun c => decide (c ∈ ("01" : Str).cps.toList)).map V.bl := by
        rw [List.map_map]
        rfl
      rw [em]
      refine ⟨D, (ways t).cps.toList.map fun c => decide (c ∈ ("01" : Str).cps.toList), rfl, SqL.of upd_same, _, rfl, ?_⟩
      have ea : (((ways t).cps.toList.map fun c => decide (c ∈ ("01" : Str).cps.toList)).all id) = ((ways t).cps.toList.all fun c => decide (c ∈ ("01" : Str).cps.toList)) := by
        rw [List.all_map]
        rfl
      show if (!((ways t).cps.toList.map fun c => decide (c ∈ ("01" : Str).cps.toList)).all id) = true then _ else _
      rw [ea]
      have s4 := s3.trans (same_new (o := .lst (((ways t).cps.toList.map fun c => decide (c ∈ ("01" : Str).cps.toList)).map V.bl)) hD)
      refine ite2 (fun h4 => none_of (by rw [h4, Bool.or_true]) _ s4) (fun h4 => ?_)
      have e4 := Bool.eq_false_iff.mpr h4
      refine ⟨rfl, (same_new ht).trans (same_new hD), ?_⟩
      rw [e1, e2, e3, e4]
      rfl
    rintro σ3 H3 ⟨rfl, s3, hc⟩
    have e : res3 a o t = some (names a, decide (o = "1"), bits (ways t)) := by
      unfold res3
      rw [if_neg (by rw [hc]; exact Bool.false_ne_true)]
    rw [e] at q
    have hn3 := s3 _ _ hn
    -- (tuple(names), bool(over == '1'), tuple([..]))
    refine ⟨_, rfl, n, _, rfl, .inl ⟨SqL.of hn3, fun p1 h1 => ?_⟩⟩
    refine ⟨_, rfl, rfl, .inr ⟨_, rfl, ?_⟩⟩
    delta tCons tCB tCons
    refine lc_str (x := ways t) (fun c => .bl (decide ((⟨#[c]⟩ : Str) = "1"))) (Nat.lt_of_le_of_lt lw (by decide)) ?_ ?_ ?_ ?_
    · exact fun R h => ⟨_, rfl, h⟩
    · exact fun y => rfl
    · refine fun c H' R h => ⟨_, rfl, rfl, .inr ⟨_, rfl, ?_⟩⟩
      have e5 : decide (V.str ⟨#[c]⟩ = V.str "1") = decide ((⟨#[c]⟩ : Str) = "1") := by
        by_cases z : (⟨#[c]⟩ : Str) = "1"
        · rw [decide_eq_true z, decide_eq_true (congrArg V.str z)]
        · rw [decide_eq_false z, decide_eq_false fun y => z (V.str.inj y)]
      show R (.bl (decide (V.str ⟨#[c]⟩ = V.str "1"))) H'
      rw [e5]
      exact h
    intro D hD
    have em : (ways t).cps.toList.map (fun c => V.bl (decide ((⟨#[c]⟩ : Str) = "1"))) = (bits (ways t)).map V.bl := by
      unfold bits
      rw [List.map_map]
      rfl
    rw [em]
    refine ⟨D, _, rfl, .inl ⟨SqL.of upd_same, fun p2 h2 => ⟨(by show 3 ≤ sizeLine; decide), fun p3 h3 => ?_⟩⟩⟩
    have t1 := same_new (o := .tup ((names a).map V.str)) h1
    have t2 := same_new (o := .lst ((bits (ways t)).map V.bl)) hD
    have t3 := same_new (o := .tup ((bits (ways t)).map V.bl)) h2
    have e6 : decide (V.str o = V.str "1") = decide (o = "1") := by
      by_cases z : o = "1"
      · rw [decide_eq_true z, decide_eq_true (congrArg V.str z)]
      · rw [decide_eq_false z, decide_eq_false fun y => z (V.str.inj y)]
    have t4 := same_new (o := .tup [V.ref p1, .bl (decide (V.str o = V.str "1")), .ref p2]) h3
    refine q _ _ (s1.trans (s3.trans (t1.trans (t2.trans (t3.trans t4))))) (dp_tup upd_same (.cons ?_ (.cons ?_ (.cons ?_ .nil))))
    · exact dp_tup (t4 _ _ (t3 _ _ (t2 _ _ upd_same))) (dps_strs _)
    · rw [e6]
      exact .bl _
    · exact dp_tup (t4 _ _ upd_same) (dps_bools _)
end
end Lw
set_option Elab.async false
set_option linter.all false
set_option maxRecDepth 100000
set_option maxHeartbeats 4000000
namespace Lw
open PySem L2 GL
abbrev s_read_choice : Stmt := topS 5
theorem sc_read_choice : FnScope ["text", "words"] ["text"] (defScope s_read_choice) := ⟨rfl, rfl, rfl, by decide +kernel, rfl, by decide +kernel, by decide +kernel⟩
abbrev s_parse_choice : Stmt := topS 6
theorem sc_parse_choice : FnScope ["text", "found"] ["text"] (defScope s_parse_choice) := ⟨rfl, rfl, rfl, by decide +kernel, rfl, by decide +kernel, by decide +kernel⟩
def spRead (K : PySem.W.Frag) : Sp := fun vs H Q _ => ∃ z : Str, vs = [.str z] ∧ z.length ≤ 900 ∧ RetD K H (dat (res z)) Q
def resD : PyData → Option (List Str × Bool × List Bool)
  | .str z => res z
  | _ => none
def spParse (K : PySem.W.Frag) (C : Addr) : Sp := fun vs H Q E => ∃ (v : V) (d : PyData), vs = [v] ∧ Dp K H v d ∧ (∀ z, d = .str z → z.length ≤ 900) ∧
  (resD d = none → ∀ (H' : Hp) (dd : Addr), Same H H' → H' dd = none → E (.ref C) (some dd) (upd H' dd (.xd [("line", v)]))) ∧ (∀ r, resD d = some r → RetD K H (dat (some r)) Q)
theorem le_sum_mem : ∀ {l : List Nat} {n : Nat}, n ∈ l → n ≤ l.sum
  | x :: r, n, h => by
    rw [List.sum_cons]
    rcases List.mem_cons.mp h with e | e
    · omega
    · have := le_sum_mem e
      omega
theorem part_len {z a : Str} {y : Str} (hy : 1 ≤ y.length) (h : a ∈ Txt.split z y) : a.length ≤ z.length + 1 := by
  have h1 := PyProof.Rows.split_weight z y hy
  have h2 : a.length ≤ ((Txt.split z y).map (·.length)).sum := le_sum_mem (List.mem_map_of_mem h)
  omega
theorem res_three {z a o t : Str} (h : Txt.split z " " = [a, o, t]) : res z = if ([a, o, t] : List Str).contains "" then none else res3 a o t := by
  unfold res
  rw [h]
theorem res_else {z : Str} (h : (Txt.split z " ").length ≠ 3) : res z = none := by
  unfold res
  split
  · rename_i e
    rw [e] at h
    exact absurd rfl h
  · rfl
section
variable {P : Program} {w : World} {K : PySem.W.Frag} {mg : Str → Option Value} {base : Heap}
theorem ok_read {f : Addr} {fd : FuncData} (F : Fun K "read_choice" "read_choice" s_read_choice f fd) (T : TxC mg) (G_choice_of : Fx P w K mg base CX0 1 "choice_of" ["words"] (spChoice K)) : FnOk P w K mg base CX0 2 f fd ["text"] (spRead K) := by
  refine F.ok sc_read_choice (fun vs H Q E h => ?_) (fun cdv A outer s H vs Q E hr h => ?_)
  · obtain ⟨z, rfl, _⟩ := h
    rfl
  · obtain ⟨z, rfl, lz, q⟩ := h
    refine ⟨_, (pss_cons (ps_set (i := 1) sc_read_choice.nd rfl (.inl rfl) (pe_split (pv 0) pe_str))
      (pss_one (ps_ret (pe_ifExp (PW.pt (pw_and (pt_cmpR op_eq (pe_callB call_len_seq (by rfl) T.len PySem.boot_len (pa_cons (pv 1) pa_nil)) pe_int (nomark _)) (pw_and1 (pt_cmpR op_notIn_seq pe_str (pv 1) (by rfl))))) (pe_callF G_choice_of (hr.mono (by decide)) (by rfl) pass0 (pa_cons (pv 1) pa_nil)) pe_non)))), ?_⟩
    refine ⟨_, rfl, ⟨_, rfl⟩, _, _, rfl, rfl, by decide, ?_, fun l hl => ?_⟩
    · rw [sizeLine_eq]
      omega
    have s1 := same_new (o := .lst ((Txt.split z " ").map V.str)) hl
    have eL : (((Txt.split z " ").map V.str).length : Int) = ((Txt.split z " ").length : Int) := by rw [List.length_map]
    refine ⟨_, rfl, l, _, rfl, .inl (SqL.of upd_same), rfl, _, rfl, ite2 (fun h1 => ?_) (fun h1 => ?_)⟩
    · have e3 : (Txt.split z " ").length = 3 := by
        have h2 := V.int.inj (of_decide_eq_true h1)
        rw [eL] at h2
        omega
      obtain ⟨a, o, t, e⟩ : ∃ a o t, Txt.split z " " = [a, o, t] := by
        match hw : Txt.split z " ", e3 with
        | [a, o, t], _ => exact ⟨a, o, t, rfl⟩
      have ha := part_len (z := z) (a := a) (y := " ") (by decide) (by rw [e]; simp)
      have ht := part_len (z := z) (a := t) (y := " ") (by decide) (by rw [e]; simp)
      refine ⟨_, rfl, l, _, rfl, .inl (SqL.of upd_same), rfl, flat_strs _, _, rfl, ?_⟩
      show if (!inV (.str "") ((Txt.split z " ").map V.str)) = true then _ else _
      rw [in_strs, e]
      have er := res_three e
      refine ite2 (fun h2 => ?_) (fun h2 => ?_)
      · have e2 : ([a, o, t] : List Str).contains "" = false := by
          cases hc : ([a, o, t] : List Str).contains "" with
          | false => rfl
          | true =>
            rw [hc] at h2
            exact absurd h2 (by decide)
        rw [er, if_neg (by rw [e2]; exact Bool.false_ne_true)] at q
        refine ⟨_, rfl, l, a, o, t, rfl, SqL.of upd_same, by omega, by omega, fun H' v s' hd => ?_⟩
        rw [← e] at s'
        exact q H' v (s1.trans s') hd
      · have e2 : ([a, o, t] : List Str).contains "" = true := by
          cases hc : ([a, o, t] : List Str).contains "" with
          | true => rfl
          | false =>
            rw [hc] at h2
            exact absurd rfl h2
        rw [er, if_pos e2] at q
        rw [← e]
        exact q _ _ s1 .non
    · have e3 : (Txt.split z " ").length ≠ 3 := fun e3 => h1 (decide_eq_true (congrArg V.int (by rw [eL, e3]; rfl)))
      rw [res_else e3] at q
      exact q _ _ s1 .non
structure TxE (P : Program) (w : World) (K : PySem.W.Frag) (mg : Str → Option Value) (base : Heap) (C : Addr) : Prop extends TxC mg where
  e_ParseError : ErrC P w K mg base "ParseError" "line" C
theorem ok_parse {f C : Addr} {fd : FuncData} (F : Fun K "parse_choice" "parse_choice" s_parse_choice f fd) (T : TxE P w K mg base C) (G_read_choice : Fx P w K mg base CX0 2 "read_choice" ["text"] (spRead K)) : FnOk P w K mg base (L2.CX P w) 3 f fd ["text"] (spParse K C) := by
  refine F.okX sc_parse_choice (fun vs H Q E h => ?_) (fun cdv A outer s H vs Q E hr h => ?_)
  · obtain ⟨v, d, rfl, _⟩ := h
    rfl
  · obtain ⟨v, d, rfl, hd, hz, qE, qR⟩ := h
    refine ⟨_, (Evl.pss_cut (ps_set (i := 1) sc_parse_choice.nd rfl (.inl rfl) (pe_ifExp (pt_val (pe_callB call_isi (by rfl) T.isinstance (by decide +kernel) (pa_cons (pv 0) (pa_cons (pe_bltn (v := .ty "str") (by rfl) T.str (by decide +kernel) rfl) pa_nil)))) (pe_callF G_read_choice (hr.mono (by decide)) (by rfl) pass0 (pa_cons (pv 0) pa_nil)) pe_non))
      (pss_cons (ps_if (pt_cmpR op_isN (pv 1) pe_non (nomark _))
      (pss_one (ps_raiseE rfl T.e_ParseError (hr.mono (by decide)) (takes_of rfl rfl rfl rfl) (by rfl) (mono1 (mono_var 0)) (pa_cons (pv 0) pa_nil)))
      pss_nil)
      (pss_one (ps_ret (pv 1))))), ?_⟩
    refine ⟨fun σ' H' => ∃ u, σ' = [some v, some u] ∧ Same H H' ∧ Dp K H' u (dat (resD d)), ?_, ?_⟩
    · refine ⟨_, rfl, v, .ty "str", _, _, _, rfl, .ty "str", ty_dp hd, kit_str d, _, rfl, ite2 (fun h1 => ?_) (fun h1 => ?_)⟩
      · cases hd with
        | str z => exact ⟨_, rfl, z, rfl, hz z rfl, fun H' u s' hu => ⟨u, rfl, s', hu⟩⟩
        | _ => exact absurd h1 Bool.false_ne_true
      · refine ⟨.non, rfl, Same.refl _, ?_⟩
        cases hd with
        | str z => exact absurd rfl h1
        | _ => exact .non
    rintro σ1 H1 ⟨u, rfl, s1, hu⟩
    refine ⟨_, rfl, rfl, _, rfl, ?_⟩
    show if decide (u = .non) = true then _ else _
    rw [dp_non hu]
    cases hr' : resD d with
    | none =>
      refine iteT ?_
      exact ⟨_, rfl, v, rfl, fun dd hdd => qE hr' H1 dd s1 hdd⟩
    | some r =>
      refine iteF ?_
      rw [hr'] at hu
      exact ⟨_, rfl, qR r hr' H1 u s1 hu⟩
end
end Lw
set_option Elab.async false
set_option linter.all false
set_option maxRecDepth 100000
set_option maxHeartbeats 4000000
namespace Lw
open PySem L2 GL
abbrev s_law_expected : Stmt := topS 9
theorem sc_law_expected : FnScope ["_law_text_here", "_law_words", "_law_names", "_law_ways", "_law_sign"] ["_law_text_here"] (defScope s_law_expected) := ⟨rfl, rfl, rfl, by decide +kernel, rfl, by decide +kernel, by decide +kernel⟩
def spExp (K : PySem.W.Frag) : Sp := fun vs H Q _ => ∃ (v : V) (d : PyData), vs = [v] ∧ Dp K H v d ∧ (∀ z, d = .str z → z.length ≤ 900) ∧ RetD K H (dat (resD d)) Q
section
variable {P : Program} {w : World} {K : PySem.W.Frag} {mg : Str → Option Value} {base : Heap}
theorem ok_exp {f : Addr} {fd : FuncData} (F : Fun K "_law_expected" "_law_expected" s_law_expected f fd) (T : TxC mg) : FnOk P w K mg base CX0 1 f fd ["_law_text_here"] (spExp K) := by
  refine F.ok sc_law_expected (fun vs H Q E h => ?_) (fun cdv A outer s H vs Q E hr h => ?_)
  · obtain ⟨v, d, rfl, _⟩ := h
    rfl
  · obtain ⟨v, d, rfl, hd, hz, q⟩ := h
    refine ⟨_, (pss_cons (ps_if (pt_not (pt_val (pe_callB call_isi (by rfl) T.isinstance (by decide +kernel) (pa_cons (pv 0) (pa_cons (pe_bltn (v := .ty "str") (by rfl) T.str (by decide +kernel) rfl) pa_nil)))))
      (pss_one (ps_ret pe_non))
      pss_nil)
      (pss_cons (ps_set (i := 1) sc_law_expected.nd rfl (.inl rfl) (pe_split (pv 0) pe_str))
      (Evl.pss_cut (ps_if (PW.pt (pw_or (pt_cmpR op_ne (pe_callB call_len_seq (by rfl) T.len PySem.boot_len (pa_cons (pv 1) pa_nil)) pe_int (nomark _)) (pw_or (pt_cmpR op_in_seq pe_str (pv 1) (by rfl)) (pw_or1 (pt_cmpR op_notIn_seq (pe_ix ix_list (pv 1) pe_int (fun _ _ => rfl)) (pe_lst (pa_cons pe_str (pa_cons pe_str pa_nil))) (by rfl))))))
      (pss_one (ps_ret pe_non))
      pss_nil)
      (pss_cons (ps_set (i := 2) sc_law_expected.nd rfl (.inl rfl) (pe_split (pe_ix ix_list (pv 1) pe_int (fun _ _ => rfl)) pe_str))
      (Evl.pss_cut (ps_if (pt_cmpR op_eq (pe_ix ix_list (pv 1) pe_int (fun _ _ => rfl)) pe_str (nomark _))
      (pss_one (ps_set (i := 2) sc_law_expected.nd rfl (.inl rfl) (pe_lst pa_nil)))
      pss_nil)
      (pss_cons (ps_if (pt_cmpR op_in_seq pe_str (pv 2) (by rfl))
      (pss_one (ps_ret pe_non))
      pss_nil)
      (pss_cons (ps_set (i := 3) sc_law_expected.nd rfl (.inl rfl) (pe_lst pa_nil))
      (Evl.pss_cut (ps_if (pt_cmpR op_ne (pe_ix ix_list (pv 1) pe_int (fun _ _ => rfl)) pe_str (nomark _))
      (pss_one (ps_for PassesOwn.never rfl (pi_str (pe_ix ix_list (pv 1) pe_int (fun _ _ => rfl))) (pg_name (i := 4) sc_law_expected.nd rfl (.inl rfl))
        (pss_cons (ps_if (pt_cmpR op_notIn_sign (pv 4) pe_str (by rfl))
          (pss_one (ps_ret pe_non))
          pss_nil)
          (pss_one (ps_expr (pe_bm PySem.F.plainAttrs_list PySem.F.slot_list_append PySem.F.type_list_append mt_append (pv 3) (pa_cons (pe_cmpR op_eq (pv 4) pe_str (nomark _)) pa_nil)))))))
      pss_nil)
      (pss_one (ps_ret (pe_tup (pa_cons (pe_callTy call_tuple_of (by rfl) T.tuple (by decide +kernel) (pa_cons (pv 2) pa_nil)) (pa_cons (pe_cmpR op_eq (pe_ix ix_list (pv 1) pe_int (fun _ _ => rfl)) pe_str (nomark _)) (pa_cons (pe_callTy call_tuple_of (by rfl) T.tuple (by decide +kernel) (pa_cons (pv 3) pa_nil)) pa_nil)))))))))))))), ?_⟩
    refine ⟨_, rfl, v, .ty "str", _, _, _, rfl, .ty "str", ty_dp hd, kit_str d, _, rfl, ?_⟩
    cases hd with
    | str z =>
      refine iteF ?_
      have lz := hz z rfl
      -- words
      refine ⟨_, rfl, ⟨_, rfl⟩, _, _, rfl, rfl, by decide, ?_, fun l hl => ?_⟩
      · rw [sizeLine_eq]
        omega
      have s1 := same_new (o := .lst ((Txt.split z " ").map V.str)) hl
      have eL : (((Txt.split z " ").map V.str).length : Int) = ((Txt.split z " ").length : Int) := by rw [List.length_map]
      refine ⟨fun σ' H' => ∃ a o t, Txt.split z " " = [a, o, t] ∧ σ' = [some (.str z), some (.ref l), none, none, none] ∧ Same H H' ∧ H' l = some (.lst [.str a, .str o, .str t]) ∧ ([a, o, t] : List Str).contains "" = false ∧ (decide (o = "0") || decide (o = "1")) = true, ?_, ?_⟩
      · refine ⟨_, rfl, l, _, rfl, .inl (SqL.of upd_same), rfl, _, rfl, ite2 (fun h1 => ?_) (fun h1 => ?_)⟩
        · have e3 : (Txt.split z " ").length ≠ 3 := fun e3 => by
            have h2 : (!decide (V.int (((Txt.split z " ").map V.str).length : Int) = V.int 3)) = true := h1
            rw [eL, e3] at h2
            exact absurd h2 (by decide)
          have er : resD (.str z) = none := res_else e3
          rw [er] at q
          exact q _ _ s1 .non
        · have e3 : (Txt.split z " ").length = 3 := by
            have h2 : ¬ (!decide (V.int (((Txt.split z " ").map V.str).length : Int) = V.int 3)) = true := h1
            rw [eL, decI] at h2
            by_cases h3 : ((Txt.split z " ").length : Int) = 3
            · omega
            · rw [decide_eq_false h3] at h2
              exact absurd rfl h2
          obtain ⟨a, o, t, e⟩ : ∃ a o t, Txt.split z " " = [a, o, t] := by
            match hw : Txt.split z " ", e3 with
            | [a, o, t], _ => exact ⟨a, o, t, rfl⟩
          have er := res_three e
          rw [e] at s1
          rw [e]
          have hm : upd H l (.lst (([a, o, t] : List Str).map V.str)) l = some (.lst [.str a, .str o, .str t]) := upd_same
          refine ⟨_, rfl, l, [.str a, .str o, .str t], rfl, .inl (SqL.of hm), rfl, rfl, _, rfl, ?_⟩
          show if inV (.str "") (([a, o, t] : List Str).map V.str) = true then _ else _
          rw [in_strs]
          refine ite2 (fun h2 => ?_) (fun h2 => ?_)
          · have er' : resD (.str z) = none := er.trans (if_pos h2)
            rw [er'] at q
            exact q _ _ s1 .non
          · have e2 := Bool.eq_false_iff.mpr h2
            refine ⟨_, rfl, l, _, 1, .str o, rfl, rfl, SqL.of hm, atI1, (by show 2 ≤ sizeLine; decide), fun l2 hl2 => ⟨l2, [.str "0", .str "1"], rfl, .inl (SqL.of upd_same), rfl, rfl, _, rfl, ?_⟩⟩
            have s2 := same_new (o := .lst [V.str "0", .str "1"]) hl2
            have ei : inV (.str o) [.str "0", .str "1"] = (decide (o = "0") || decide (o = "1")) := by
              refine (in_strs o ["0", "1"]).trans ?_
              rw [List.contains_cons, List.contains_cons, List.contains_nil, Bool.or_false]
              rfl
            show if (!inV (.str o) [.str "0", .str "1"]) = true then _ else _
            rw [ei]
            refine ite2 (fun h3 => ?_) (fun h3 => ?_)
            · have er' : resD (.str z) = none := by
                refine er.trans ((if_neg h2).trans ?_)
                unfold res3
                rw [if_pos]
                rw [h3, Bool.or_true]
                rfl
              rw [er'] at q
              exact q _ _ (s1.trans s2) .non
            · refine ⟨a, o, t, (by first | rfl | exact e), rfl, s1.trans s2, s2 _ _ hm, e2, ?_⟩
              cases ho : (decide (o = "0") || decide (o = "1")) with
              | true => rfl
              | false =>
                rw [ho] at h3
                exact absurd rfl h3
      rintro σ1 H1 ⟨a, o, t, e, rfl, s2, hm, e2, e3⟩
      have er : resD (.str z) = res3 a o t := (res_three e).trans (if_neg (by rw [e2]; exact Bool.false_ne_true))
      have la := part_len (z := z) (a := a) (y := " ") (by decide) (by rw [e]; simp)
      have lt := part_len (z := z) (a := t) (y := " ") (by decide) (by rw [e]; simp)
      have et : decide (t = "") = false := by
        refine decide_eq_false fun h => ?_
        rw [h] at e2
        simp at e2
      have none_of : ((names a).contains "" || !((ways t).cps.toList.all fun c => decide (c ∈ ("01" : Str).cps.toList))) = true → ∀ H', Same H H' → Q .non H' := by
        intro hc H' s'
        have e5 : res3 a o t = none := by
          unfold res3
          rw [if_pos]
          rw [e3, et]
          cases hx : (names a).contains "" with
          | true => rfl
          | false =>
            rw [hx] at hc
            exact hc
        rw [er, e5] at q
        exact q H' _ s' .non
      -- names = words[0].split(',')
      refine ⟨_, rfl, l, _, 0, .str a, rfl, rfl, SqL.of hm, atI0, ⟨_, rfl⟩, _, _, rfl, rfl, by decide, (by rw [sizeLine_eq]; omega), fun n1 hn1 => ?_⟩
      have s3 := same_new (o := .lst ((Txt.split a ",").map V.str)) hn1
      -- if words[0] == '-': names = []
      refine ⟨fun σ' H' => ∃ n, σ' = [some (.str z), some (.ref l), some (.ref n), none, none] ∧ Same H1 H' ∧ H' n = some (.lst ((names a).map V.str)), ?_, ?_⟩
      · refine ⟨_, rfl, l, _, 0, .str a, rfl, rfl, SqL.of (s3 _ _ hm), atI0, rfl, _, rfl, ?_⟩
        show if decide (V.str a = V.str "-") = true then _ else _
        rw [decS]
        refine ite2 (fun h1 => ?_) (fun h1 => ?_)
        · refine ⟨Nat.zero_le _, fun n hn => ⟨n, rfl, s3.trans (same_new hn), ?_⟩⟩
          rw [upd_same, names, if_pos (of_decide_eq_true h1)]
          rfl
        · refine ⟨n1, rfl, s3, ?_⟩
          rw [upd_same, names, if_neg fun h => h1 (decide_eq_true h)]
      rintro σ2 H2 ⟨n, rfl, s4, hn⟩
      -- if '' in names
      refine ⟨_, rfl, n, _, rfl, .inl (SqL.of hn), rfl, flat_strs _, _, rfl, ?_⟩
      show if inV (.str "") ((names a).map V.str) = true then _ else _
      rw [in_strs]
      refine ite2 (fun h1 => none_of (by rw [h1]; rfl) _ (s2.trans s4)) (fun h1 => ?_)
      have e4 := Bool.eq_false_iff.mpr h1
      -- ways = []
      refine ⟨Nat.zero_le _, fun y hy => ?_⟩
      have s5 := same_new (o := .lst []) hy
      have H1y : H1 y = none := s4.free hy
      have Hy : H y = none := s2.free H1y
      have fin : ∀ (H' : Hp) (sg : Option V), (∀ b u, b ≠ y → H2 b = some u → H' b = some u) → H' y = some (.lst ((bits (ways t)).map V.bl)) → ((ways t).cps.toList.all fun c => decide (c ∈ ("01" : Str).cps.toList)) = true →
          ∃ n', [some (V.str z), some (.ref l), some (.ref n), some (.ref y), sg] = [some (V.str z), some (.ref l), some (.ref n), some (.ref y), n'] ∧ (∀ b u, b ≠ y → H2 b = some u → H' b = some u) ∧ H' y = some (.lst ((bits (ways t)).map V.bl)) ∧ ((ways t).cps.toList.all fun c => decide (c ∈ ("01" : Str).cps.toList)) = true :=
        fun H' sg k hv ha => ⟨sg, rfl, k, hv, ha⟩
      have nly : l ≠ y := ne_of_none (s4 _ _ hm) hy
      refine ⟨fun σ' H' => ∃ n', σ' = [some (V.str z), some (.ref l), some (.ref n), some (.ref y), n'] ∧ (∀ b u, b ≠ y → H2 b = some u → H' b = some u) ∧ H' y = some (.lst ((bits (ways t)).map V.bl)) ∧ ((ways t).cps.toList.all fun c => decide (c ∈ ("01" : Str).cps.toList)) = true, ?_, ?_⟩
      · refine ⟨_, rfl, l, _, 2, .str t, rfl, rfl, SqL.of (s5 _ _ (s4 _ _ hm)), atI2, rfl, _, rfl, ?_⟩
        show if (!decide (V.str t = V.str "-")) = true then _ else _
        rw [decS]
        by_cases ht : t = "-"
        · rw [decide_eq_true ht]
          refine iteF ?_
          have ew : ways t = "" := if_pos ht
          rw [ew]
          exact ⟨none, rfl, fun b u hb hu => by rw [upd_ne hb]; exact hu, upd_same, rfl⟩
        · rw [decide_eq_false ht]
          refine iteT ?_
          have ew : ways t = t := if_neg ht
          refine ⟨_, rfl, l, _, 2, .str t, rfl, rfl, SqL.of (s5 _ _ (s4 _ _ hm)), atI2, t, rfl, for_str (x := t) (fun i σ' H' => ∃ n', σ' = [some (V.str z), some (.ref l), some (.ref n), some (.ref y), n'] ∧ (∀ b u, b ≠ y → H2 b = some u → H' b = some u) ∧
            H' y = some (.lst (((t.cps.toList.take i).map fun c => decide ((⟨#[c]⟩ : Str) = "1")).map V.bl)) ∧ ((t.cps.toList.take i).all fun c => decide (c ∈ ("01" : Str).cps.toList)) = true) ?_ ?_ ?_⟩
          · exact ⟨none, rfl, fun b u hb hu => by rw [upd_ne hb]; exact hu, upd_same, rfl⟩
          · rintro i c σ' H' hc ⟨n', rfl, k, hv, ha⟩
            refine ⟨_, rfl, c, _, rfl, rfl, _, rfl, ite2 (fun h2 => ?_) (fun h2 => ?_)⟩
            · refine none_of ?_ _ (fun b u hu => ?_)
              · rw [ew]
                have hcm : c ∈ t.cps.toList := List.mem_of_getElem? hc
                have hcf : decide (c ∈ ("01" : Str).cps.toList) = false := by
                  cases hq : decide (c ∈ ("01" : Str).cps.toList) with
                  | false => rfl
                  | true =>
                    have h3 : (!decide (c ∈ ("01" : Str).cps.toList)) = true := h2
                    rw [hq] at h3
                    exact absurd h3 Bool.false_ne_true
                have hall : (t.cps.toList.all fun c => decide (c ∈ ("01" : Str).cps.toList)) = false := by
                  refine Bool.eq_false_iff.mpr fun hx => ?_
                  have := List.all_eq_true.mp hx c hcm
                  rw [hcf] at this
                  exact absurd this Bool.false_ne_true
                rw [hall, Bool.not_false, Bool.or_true]
              · exact k b u (fun hb => by rw [hb, Hy] at hu; cases hu) (s4 _ _ (s2 _ _ hu))
            · have hct : decide (c ∈ ("01" : Str).cps.toList) = true := by
                cases hq : decide (c ∈ ("01" : Str).cps.toList) with
                | true => rfl
                | false =>
                  have h3 : ¬ (!decide (c ∈ ("01" : Str).cps.toList)) = true := h2
                  rw [hq] at h3
                  exact absurd rfl h3
              refine ⟨_, rfl, .inl ⟨rfl, _, SqL.of hv⟩, _, rfl, rfl, y, _, _, rfl, rfl, hv, ?_, ?_⟩
              · rw [List.length_map, List.length_map, List.length_take]
                have h1 : t.cps.toList.length = t.length := Array.length_toList
                have h2 : t.length < sizeLine := by
                  rw [sizeLine_eq]
                  omega
                omega
              · refine ⟨_, rfl, fun b u hb hu => ?_, ?_, ?_⟩
                · rw [upd_ne hb]
                  exact k b u hb hu
                · rw [upd_same, List.take_add_one, hc, List.map_append, List.map_append]
                  show some (HO.lst (_ ++ [V.bl (decide (V.str ⟨#[c]⟩ = V.str "1"))])) = some (HO.lst (_ ++ [V.bl (decide ((⟨#[c]⟩ : Str) = "1"))]))
                  rw [decS]
                · rw [List.take_add_one, hc, List.all_append, ha]
                  show (true && (decide (c ∈ ("01" : Str).cps.toList) && true)) = true
                  rw [hct]
                  rfl
          · rintro σ' H' ⟨n', rfl, k, hv, ha⟩
            rw [List.take_length] at hv ha
            refine ⟨n', rfl, k, ?_, ?_⟩
            · rw [ew]
              exact hv
            · rw [ew]
              exact ha
      rintro σ3 H3 ⟨n', rfl, k, hv, ha⟩
      have e6 : res3 a o t = some (names a, decide (o = "1"), bits (ways t)) := by
        unfold res3
        rw [if_neg]
        rw [e3, et, e4, ha]
        exact Bool.false_ne_true
      rw [er, e6] at q
      have hn3 := k _ _ (ne_of_none hn hy) hn
      have hm3 := k _ _ nly (s4 _ _ hm)
      have s6 : Same H H3 := fun b u hu => k b u (fun hb => by rw [hb, Hy] at hu; cases hu) (s4 _ _ (s2 _ _ hu))
      refine ⟨_, rfl, n, _, rfl, .inl ⟨SqL.of hn3, fun p1 h1 => ?_⟩⟩
      have t1 := same_new (o := .tup ((names a).map V.str)) h1
      refine ⟨_, rfl, l, _, 1, .str o, rfl, rfl, SqL.of (t1 _ _ hm3), atI1, rfl, _, rfl, y, _, rfl, .inl ⟨SqL.of (t1 _ _ hv), fun p2 h2 => ⟨(by show 3 ≤ sizeLine; decide), fun p3 h3 => ?_⟩⟩⟩
      have t2 := same_new (o := .tup ((bits (ways t)).map V.bl)) h2
      have t3 := same_new (o := .tup [V.ref p1, .bl (decide (V.str o = V.str "1")), .ref p2]) h3
      refine q _ _ (s6.trans (t1.trans (t2.trans t3))) (dp_tup upd_same (.cons ?_ (.cons ?_ (.cons ?_ .nil))))
      · exact dp_tup (t3 _ _ (t2 _ _ upd_same)) (dps_strs _)
      · rw [decS]
        exact .bl _
      · exact dp_tup (t3 _ _ upd_same) (dps_bools _)
    | non => exact iteT (q _ _ (Same.refl _) .non)
    | bl b => exact iteT (q _ _ (Same.refl _) .non)
    | int i => exact iteT (q _ _ (Same.refl _) .non)
    | lst h1 h2 => exact iteT (q _ _ (Same.refl _) .non)
    | tup h1 h2 => exact iteT (q _ _ (Same.refl _) .non)
end
end Lw
set_option Elab.async false
set_option linter.all false
set_option maxRecDepth 100000
set_option maxHeartbeats 4000000
namespace Lw
open PySem L2 GL
/-! ### pools and what stands beside them -/
theorem PoolAt.fresh {H : Hp} {p c l : Addr} {o : HO} (h : PoolAt H p c) (hl : H l = none) : PoolAt (upd H l o) p c := by
  obtain ⟨n, sd, ns, h1, h2, h3⟩ := h
  exact ⟨n, sd, ns, by rw [upd_ne (ne_of_none h1 hl)]; exact h1, by rw [upd_ne (ne_of_none h2 hl)]; exact h2, h3⟩
theorem PoolAt.put {H : Hp} {p c l : Addr} {o : HO} (h : PoolAt H p c) (h1 : l ≠ p) (h2 : l ≠ c) : PoolAt (upd H l o) p c := by
  obtain ⟨n, sd, ns, e1, e2, e3⟩ := h
  exact ⟨n, sd, ns, by rw [upd_ne h1.symm]; exact e1, by rw [upd_ne h2.symm]; exact e2, e3⟩
theorem PoolAt.np {H : Hp} {p c l : Addr} (h : PoolAt H p c) (hl : H l = none) : l ≠ p ∧ l ≠ c := by
  obtain ⟨n, sd, ns, h1, h2, h3⟩ := h
  exact ⟨(ne_of_none h1 hl).symm, (ne_of_none h2 hl).symm⟩
theorem Keep.fresh {p c l : Addr} {H H' : Hp} {o : HO} (k : Keep p c H H') (hl : H' l = none) : Keep p c H (upd H' l o) := fun b u h1 h2 e => by
  rw [upd_ne (ne_of_none (k b u h1 h2 e) hl)]
  exact k b u h1 h2 e
theorem Keep.put {p c l : Addr} {H H' : Hp} {o : HO} (k : Keep p c H H') (hl : H l = none) : Keep p c H (upd H' l o) := fun b u h1 h2 e => by
  rw [upd_ne (ne_of_none e hl)]
  exact k b u h1 h2 e
theorem atI_mem {α : Type} {xs : List α} {v : Int} (h0 : 0 ≤ v) (h1 : v < xs.length) : ∃ x, x ∈ xs ∧ atI xs v = some x := by
  obtain ⟨n, rfl⟩ := Int.eq_ofNat_of_zero_le h0
  have hn : n < xs.length := by omega
  exact ⟨xs[n], List.getElem_mem hn, atI_nat (List.getElem?_eq_getElem hn)⟩
/-- a short text of plain signs -/
def Small (n : Nat) (z : Str) : Prop := z.length ≤ n ∧ ∀ ch ∈ z.cps.toList, ch < 128
instance (n : Nat) (z : Str) : Decidable (Small n z) := inferInstanceAs (Decidable (_ ∧ _))
theorem Small.mono {n m : Nat} {z : Str} (h : Small n z) (e : n ≤ m) : Small m z := ⟨Nat.le_trans h.1 e, h.2⟩
theorem Small.append {n m : Nat} {x y : Str} (h : Small n x) (k : Small m y) : Small (n + m) (x ++ y) := by
  refine ⟨by rw [Str.length_append]; exact Nat.add_le_add h.1 k.1, fun c hc => ?_⟩
  rw [PyProof.Rows.cps_toList_append] at hc
  rcases List.mem_append.mp hc with z | z
  · exact h.2 c z
  · exact k.2 c z
theorem small_join {n : Nat} {sep : Str} (hs : Small 1 sep) : ∀ {xs : List Str}, (∀ x ∈ xs, Small n x) → Small (xs.length * (n + 1)) (Txt.join sep xs) := by
  intro xs h
  have e : Txt.join sep xs = Str.join sep xs := StrLaws.glued_eq_join sep xs
  rw [e]
  clear e
  induction xs with
  | nil => exact ⟨Nat.zero_le _, (by decide : ∀ ch ∈ Str.empty.cps.toList, ch < 128)⟩
  | cons x r ih =>
    cases r with
    | nil => exact (h x List.mem_cons_self).mono (by simp)
    | cons y r =>
      have h1 := h x List.mem_cons_self
      have h2 := ih fun z hz => h z (List.mem_cons_of_mem _ hz)
      refine ((h1.append hs).append h2).mono ?_
      simp only [List.length_cons, Nat.succ_mul]
      omega
abbrev s_law_text : Stmt := topS 10
theorem sc_law_text : FnScope ["_law_pool", "_law_firsts", "_law_seconds", "_law_thirds", "_law_words", "_law_kind", "_law_text_here"] ["_law_pool"] (defScope s_law_text) := ⟨rfl, rfl, rfl, by decide +kernel, rfl, by decide +kernel, by decide +kernel⟩
abbrev m1 : List V := [.str "-", .str "a", .str "ab,c", .str "a,,b", .str ",", .str "a,", .str "", .str "c,b,a", .str "z,z", .str ",a"]
abbrev m2 : List V := [.str "0", .str "1", .str "2", .str "", .str "01", .str "True", .str "-", .str "10"]
abbrev m3 : List V := [.str "-", .str "1", .str "0", .str "10", .str "0110", .str "2", .str "", .str "1-", .str "--", .str "01x"]
def spText : Sp := fun vs H Q _ => ∃ (p c : Addr), vs = [.ref p] ∧ PoolAt H p c ∧ ∀ (H' : Hp) (z : Str), Keep p c H H' → PoolAt H' p c → Small 60 z → Q (.str z) H'
structure TxT (mg : Str → Option Value) : Prop where
  str : mg "str" = none
section
variable {P : Program} {w : World} {K : PySem.W.Frag} {mg : Str → Option Value} {base : Heap}
theorem ok_text {f : Addr} {fd : FuncData} (F : Fun K "_law_text" "_law_text" s_law_text f fd) (T : TxT mg) (G_pull : Fx P w K mg base CX0 1 "_law_pull" ["_law_pool", "_law_many"] spPull) : FnOk P w K mg base CX0 2 f fd ["_law_pool"] spText := by
  refine F.ok sc_law_text (fun vs H Q E h => ?_) (fun cdv A outer s H vs Q E hr h => ?_)
  · obtain ⟨p, c, rfl, _⟩ := h
    rfl
  · obtain ⟨p, c, rfl, hP, q⟩ := h
    refine ⟨_, (pss_cons (ps_set (i := 1) sc_law_text.nd rfl (.inl rfl) (pe_lst (pa_cons pe_str (pa_cons pe_str (pa_cons pe_str (pa_cons pe_str (pa_cons pe_str (pa_cons pe_str (pa_cons pe_str (pa_cons pe_str (pa_cons pe_str (pa_cons pe_str pa_nil))))))))))))
      (pss_cons (ps_set (i := 2) sc_law_text.nd rfl (.inl rfl) (pe_lst (pa_cons pe_str (pa_cons pe_str (pa_cons pe_str (pa_cons pe_str (pa_cons pe_str (pa_cons pe_str (pa_cons pe_str (pa_cons pe_str pa_nil))))))))))
      (pss_cons (ps_set (i := 3) sc_law_text.nd rfl (.inl rfl) (pe_lst (pa_cons pe_str (pa_cons pe_str (pa_cons pe_str (pa_cons pe_str (pa_cons pe_str (pa_cons pe_str (pa_cons pe_str (pa_cons pe_str (pa_cons pe_str (pa_cons pe_str pa_nil))))))))))))
      (pss_cons (ps_set (i := 4) sc_law_text.nd rfl (.inl rfl) (pe_lst (pa_cons (pe_ix ix_list (pv 1) (pe_callF G_pull (hr.mono (by decide)) (by rfl) pass0 (pa_cons (pv 0) (pa_cons pe_int pa_nil))) (fun _ _ => rfl)) (pa_cons (pe_ix ix_list (pv 2) (pe_callF G_pull (hr.mono (by decide)) (by rfl) pass0 (pa_cons (pv 0) (pa_cons pe_int pa_nil))) (fun _ _ => rfl)) (pa_cons (pe_ix ix_list (pv 3) (pe_callF G_pull (hr.mono (by decide)) (by rfl) pass0 (pa_cons (pv 0) (pa_cons pe_int pa_nil))) (fun _ _ => rfl)) pa_nil)))))
      (Evl.pss_cut (ps_if (pt_cmpR op_eq (pe_callF G_pull (hr.mono (by decide)) (by rfl) pass0 (pa_cons (pv 0) (pa_cons pe_int pa_nil))) pe_int (nomark _))
      (pss_one (ps_asg (pe_callTy call_str_int (by rfl) T.str (by decide +kernel) (pa_cons (pe_callF G_pull (hr.mono (by decide)) (by rfl) pass0 (pa_cons (pv 0) (pa_cons pe_int pa_nil))) pa_nil)) (pg_sub (pv 4) pe_int set_list)))
      pss_nil)
      (pss_cons (ps_set (i := 5) sc_law_text.nd rfl (.inl rfl) (pe_callF G_pull (hr.mono (by decide)) (by rfl) pass0 (pa_cons (pv 0) (pa_cons pe_int pa_nil))))
      (Evl.pss_cut (ps_if (pt_cmpR op_eq (pv 5) pe_int (nomark _))
      (pss_one (ps_set (i := 4) sc_law_text.nd rfl (.inl rfl) (pe_slice sl_list (pv 4) po_none (po_some pe_int))))
      pss_nil)
      (Evl.pss_cut (ps_if (pt_cmpR op_eq (pv 5) pe_int (nomark _))
      (pss_one (ps_expr (pe_bm PySem.F.plainAttrs_list PySem.F.slot_list_append PySem.F.type_list_append mt_append (pv 4) (pa_cons pe_str pa_nil))))
      pss_nil)
      (pss_cons (ps_set (i := 6) sc_law_text.nd rfl (.inl rfl) (pe_join pe_str (pv 4)))
      (Evl.pss_cut (ps_if (pt_cmpR op_eq (pv 5) pe_int (nomark _))
      (pss_one (ps_set (i := 6) sc_law_text.nd rfl (.inl rfl) (pe_op op_add_str (pv 6) pe_str)))
      pss_nil)
      (Evl.pss_cut (ps_if (pt_cmpR op_eq (pv 5) pe_int (nomark _))
      (pss_one (ps_set (i := 6) sc_law_text.nd rfl (.inl rfl) (pe_op op_add_str pe_str (pv 6))))
      pss_nil)
      (Evl.pss_cut (ps_if (pt_cmpR op_eq (pv 5) pe_int (nomark _))
      (pss_one (ps_set (i := 6) sc_law_text.nd rfl (.inl rfl) (pe_op op_add_str (pv 6) pe_str)))
      pss_nil)
      (pss_one (ps_ret (pv 6))))))))))))))), ?_⟩
    -- the three menus
    refine ⟨(by show 10 ≤ sizeLine; decide), fun l1 h1 => ⟨(by show 8 ≤ sizeLine; decide), fun l2 h2 => ⟨(by show 10 ≤ sizeLine; decide), fun l3 h3 => ?_⟩⟩⟩
    have P3 := ((hP.fresh (o := .lst m1) h1).fresh (o := .lst m2) h2).fresh (o := .lst m3) h3
    have K3 := (((Keep.refl p c H).fresh (o := .lst m1) h1).fresh (o := .lst m2) h2).fresh (o := .lst m3) h3
    have n1 := hP.np h1
    have n2 := (hP.fresh (o := .lst m1) h1).np h2
    have n3 := ((hP.fresh (o := .lst m1) h1).fresh (o := .lst m2) h2).np h3
    have g3 := upd_same (H := upd (upd H l1 (.lst m1)) l2 (.lst m2)) (a := l3) (o := .lst m3)
    have g2 := same_new (o := .lst m3) h3 _ _ upd_same
    have g1 := same_new (o := .lst m3) h3 _ _ (same_new (o := .lst m2) h2 _ _ upd_same)
    -- words
    refine ⟨_, rfl, _, rfl, p, c, 10, rfl, P3, by decide, by decide, fun Ha va ka pa a0 a1 => ?_⟩
    obtain ⟨xa, ma, ea⟩ := atI_mem (xs := m1) a0 a1
    obtain ⟨wa, rfl, sa⟩ : ∃ w, xa = V.str w ∧ Small 5 w := by
      have hh : ∀ x ∈ m1, ∃ w, x = V.str w ∧ Small 5 w := by
        simp only [List.mem_cons, List.not_mem_nil, or_false]
        rintro x (rfl | rfl | rfl | rfl | rfl | rfl | rfl | rfl | rfl | rfl) <;> exact ⟨_, rfl, by decide⟩
      exact hh _ ma
    refine ⟨l1, _, va, .str wa, rfl, rfl, SqL.of (ka _ _ n1.1 n1.2 g1), ea, ?_⟩
    refine ⟨_, rfl, _, rfl, p, c, 8, rfl, pa, by decide, by decide, fun Hb vb kb pb b0 b1 => ?_⟩
    obtain ⟨xb, mb, eb⟩ := atI_mem (xs := m2) b0 b1
    obtain ⟨wb, rfl, sb⟩ : ∃ w, xb = V.str w ∧ Small 5 w := by
      have hh : ∀ x ∈ m2, ∃ w, x = V.str w ∧ Small 5 w := by
        simp only [List.mem_cons, List.not_mem_nil, or_false]
        rintro x (rfl | rfl | rfl | rfl | rfl | rfl | rfl | rfl) <;> exact ⟨_, rfl, by decide⟩
      exact hh _ mb
    refine ⟨l2, _, vb, .str wb, rfl, rfl, SqL.of ((ka.trans kb) _ _ n2.1 n2.2 g2), eb, ?_⟩
    refine ⟨_, rfl, _, rfl, p, c, 10, rfl, pb, by decide, by decide, fun Hc vc kc pc c0 c1 => ?_⟩
    obtain ⟨xc, mc, ec⟩ := atI_mem (xs := m3) c0 c1
    obtain ⟨wc, rfl, sc⟩ : ∃ w, xc = V.str w ∧ Small 5 w := by
      have hh : ∀ x ∈ m3, ∃ w, x = V.str w ∧ Small 5 w := by
        simp only [List.mem_cons, List.not_mem_nil, or_false]
        rintro x (rfl | rfl | rfl | rfl | rfl | rfl | rfl | rfl | rfl | rfl) <;> exact ⟨_, rfl, by decide⟩
      exact hh _ mc
    refine ⟨l3, _, vc, .str wc, rfl, rfl, SqL.of (((ka.trans kb).trans kc) _ _ n3.1 n3.2 g3), ec, (by show 3 ≤ sizeLine; decide), fun l hl => ?_⟩
    have kl := (K3.trans ((ka.trans kb).trans kc)).fresh (o := .lst [.str wa, .str wb, .str wc]) hl
    have pl := pc.fresh (o := .lst [.str wa, .str wb, .str wc]) hl
    have nl := pc.np hl
    have Hl : H l = none := by
      cases hx : H l with
      | none => rfl
      | some o => exact absurd ((K3.trans ((ka.trans kb).trans kc)) l o nl.1 nl.2 hx) (by rw [hl]; exact fun z => nomatch z)
    -- if pull(2) == 1: words[1] = str(pull(2))
    refine ⟨fun σ' H' => ∃ u, σ' = [some (.ref p), some (.ref l1), some (.ref l2), some (.ref l3), some (.ref l), none, none] ∧ Keep p c H H' ∧ PoolAt H' p c ∧ H' l = some (.lst [.str wa, .str u, .str wc]) ∧ Small 5 u, ?_, ?_⟩
    · refine ⟨_, rfl, p, c, 2, rfl, pl, by decide, by decide, fun Hd vd kd pd d0 d1 => ?_⟩
      have gd := kd _ _ nl.1 nl.2 upd_same
      refine ⟨rfl, _, rfl, ite2 (fun _ => ?_) (fun _ => ?_)⟩
      · refine ⟨_, rfl, p, c, 2, rfl, pd, by decide, by decide, fun He ve ke pe e0 e1 => ?_⟩
        have ge := ke _ _ nl.1 nl.2 gd
        have hv : ve = 0 ∨ ve = 1 := by omega
        refine ⟨_, rfl, (by rcases hv with z | z <;> rw [z] <;> decide), _, rfl, l, _, 1, 1, rfl, rfl, ge, rfl, ?_⟩
        refine ⟨_, rfl, ((kl.trans kd).trans ke).put Hl, pe.put nl.1 nl.2, upd_same, ?_⟩
        rcases hv with z | z <;> rw [z] <;> decide
      · exact ⟨wb, rfl, kl.trans kd, pd, gd, sb⟩
    rintro σ1 H1 ⟨u, rfl, k1, p1, hw, su⟩
    -- kind
    refine ⟨_, rfl, p, c, 16, rfl, p1, by decide, by decide, fun H2 kd' k2 p2 _ _ => ?_⟩
    have hw2 := k2 _ _ nl.1 nl.2 hw
    -- words = words[:2]
    refine ⟨fun σ' H' => ∃ (m : Addr) (ws : List Str), σ' = [some (.ref p), some (.ref l1), some (.ref l2), some (.ref l3), some (.ref m), some (.int kd'), none] ∧ Keep p c H H' ∧ PoolAt H' p c ∧ H' m = some (.lst (ws.map V.str)) ∧ m ≠ p ∧ m ≠ c ∧ H m = none ∧ ws.length ≤ 3 ∧ ∀ x ∈ ws, Small 5 x, ?_, ?_⟩
    · refine ⟨_, rfl, rfl, _, rfl, ite2 (fun _ => ?_) (fun _ => ?_)⟩
      · refine ⟨_, rfl, 2, rfl, l, _, rfl, SqL.of hw2, fun m hm => ?_⟩
        have nm := p2.np hm
        refine ⟨m, [wa, u], rfl, (k1.trans k2).fresh hm, p2.fresh hm, upd_same, nm.1, nm.2, ?_, (by show 2 ≤ 3; decide), ?_⟩
        · cases hx : H m with
          | none => rfl
          | some o => exact absurd ((k1.trans k2) m o nm.1 nm.2 hx) (by rw [hm]; exact fun z => nomatch z)
        · simp only [List.mem_cons, List.not_mem_nil, or_false]
          rintro x (rfl | rfl)
          · exact sa
          · exact su
      · refine ⟨l, [wa, u, wc], rfl, k1.trans k2, p2, hw2, nl.1, nl.2, Hl, (by show 3 ≤ 3; decide), ?_⟩
        simp only [List.mem_cons, List.not_mem_nil, or_false]
        rintro x (rfl | rfl | rfl)
        · exact sa
        · exact su
        · exact sc
    rintro σ2 H3 ⟨m, ws, rfl, k3, p3, hm, nm1, nm2, Hm, lw, sw⟩
    -- words.append('1')
    refine ⟨fun σ' H' => ∃ (ws : List Str), σ' = [some (.ref p), some (.ref l1), some (.ref l2), some (.ref l3), some (.ref m), some (.int kd'), none] ∧ Keep p c H H' ∧ PoolAt H' p c ∧ H' m = some (.lst (ws.map V.str)) ∧ ws.length ≤ 4 ∧ ∀ x ∈ ws, Small 5 x, ?_, ?_⟩
    · refine ⟨_, rfl, rfl, _, rfl, ite2 (fun _ => ?_) (fun _ => ?_)⟩
      · refine ⟨_, rfl, .inl ⟨rfl, _, SqL.of hm⟩, m, _, _, rfl, rfl, hm, ?_, ?_⟩
        · rw [List.length_map]
          exact Nat.lt_of_le_of_lt lw (by decide)
        · refine ⟨ws ++ [("1" : Str)], rfl, k3.put Hm, p3.put nm1 nm2, ?_, ?_, ?_⟩
          · rw [upd_same, List.map_append]
            rfl
          · rw [List.length_append]
            show ws.length + 1 ≤ 4
            omega
          · intro x hx
            rcases List.mem_append.mp hx with z | z
            · exact sw x z
            · rw [List.mem_singleton.mp z]
              decide
      · exact ⟨ws, rfl, k3, p3, hm, by omega, sw⟩
    rintro σ3 H4 ⟨ws, rfl, k4, p4, hm, lw, sw⟩
    -- text = ' '.join(words)
    have sj : Small 24 (Txt.join " " ws) := (small_join (sep := " ") (by decide) sw).mono (by omega)
    have total : (ws.map (·.length)).sum ≤ 5 * ws.length := by
      clear sj lw hm
      induction ws with
      | nil => exact Nat.le_refl _
      | cons x r ih =>
        have h1 := (sw x List.mem_cons_self).1
        have h2 := ih fun z hz => sw z (List.mem_cons_of_mem _ hz)
        rw [List.map_cons, List.sum_cons, List.length_cons]
        omega
    refine ⟨⟨_, rfl⟩, _, rfl, " ", m, ws, rfl, rfl, .inl (SqL.of hm), ?_, ?_⟩
    · show (ws.map (·.length)).sum + ws.length * 1 ≤ 16777216
      omega
    -- three more ifs
    refine ⟨fun σ' H' => ∃ z, σ' = [some (.ref p), some (.ref l1), some (.ref l2), some (.ref l3), some (.ref m), some (.int kd'), some (.str z)] ∧ H' = H4 ∧ Small 25 z, ?_, ?_⟩
    · refine ⟨_, rfl, rfl, _, rfl, ite2 (fun _ => ?_) (fun _ => ?_)⟩
      · exact ⟨_, rfl, _, _, rfl, rfl, Nat.le_trans (Nat.add_le_add_right sj.1 _) (by decide), _, rfl, rfl, sj.append (by decide : Small 1 " ")⟩
      · exact ⟨_, rfl, rfl, sj.mono (by decide)⟩
    rintro σ4 H5 ⟨z5, rfl, rfl, s5⟩
    refine ⟨fun σ' H' => ∃ z, σ' = [some (.ref p), some (.ref l1), some (.ref l2), some (.ref l3), some (.ref m), some (.int kd'), some (.str z)] ∧ H' = H5 ∧ Small 26 z, ?_, ?_⟩
    · refine ⟨_, rfl, rfl, _, rfl, ite2 (fun _ => ?_) (fun _ => ?_)⟩
      · exact ⟨_, rfl, _, _, rfl, rfl, Nat.le_trans (Nat.add_le_add_left s5.1 _) (by decide), _, rfl, rfl, ((by decide : Small 1 " ").append s5).mono (by decide)⟩
      · exact ⟨_, rfl, rfl, s5.mono (by decide)⟩
    rintro σ5 H6 ⟨z6, rfl, rfl, s6⟩
    refine ⟨fun σ' H' => ∃ z, σ' = [some (.ref p), some (.ref l1), some (.ref l2), some (.ref l3), some (.ref m), some (.int kd'), some (.str z)] ∧ H' = H6 ∧ Small 27 z, ?_, ?_⟩
    · refine ⟨_, rfl, rfl, _, rfl, ite2 (fun _ => ?_) (fun _ => ?_)⟩
      · exact ⟨_, rfl, _, _, rfl, rfl, Nat.le_trans (Nat.add_le_add_right s6.1 _) (by decide), _, rfl, rfl, s6.append (by decide : Small 1 "\n")⟩
      · exact ⟨_, rfl, rfl, s6.mono (by decide)⟩
    rintro σ6 H7 ⟨z7, rfl, rfl, s7⟩
    exact ⟨_, rfl, q _ _ k4 p4 (s7.mono (by decide))⟩
end
end Lw
set_option Elab.async false
set_option linter.all false
set_option maxRecDepth 100000
set_option maxHeartbeats 4000000
namespace Lw
open PySem L2 GL
/-! ### data that can be shown -/
def Nice (d : PyData) : Prop := d.showable = true ∧ d.depth ≤ 60 ∧ d.leavesShort 13 = true ∧ d.weight ≤ 2 ^ 20
theorem Nice.fits {d : PyData} (h : Nice d) : d.shown.length ≤ sizeLine := PyData.shown_fits (by decide) (by decide) h.2.2.1 h.2.2.2
theorem nice_str {n : Nat} {z : Str} (h : Small n z) (hn : n ≤ 1000) : Nice (.str z) := by
  refine ⟨rfl, by show 0 ≤ 60; decide, ?_, ?_⟩
  · simp only [PyData.leavesShort, List.all_eq_true, decide_eq_true_eq]
    exact fun c hc => Nat.lt_trans (h.2 c hc) (by decide)
  · show z.cps.size ≤ 2 ^ 20
    have h1 : z.cps.size ≤ n := h.1
    have e : (2 : Nat) ^ 20 = 1048576 := by decide
    omega
theorem strs_show : ∀ ns : List Str, PyData.showableAll (ns.map PyData.str) = true
  | [] => rfl
  | x :: r => by
    show (true && PyData.showableAll (r.map PyData.str)) = true
    rw [strs_show r]; rfl
theorem bools_show : ∀ ns : List Bool, PyData.showableAll (ns.map PyData.bool) = true
  | [] => rfl
  | x :: r => by
    show (true && PyData.showableAll (r.map PyData.bool)) = true
    rw [bools_show r]; rfl
theorem strs_depth : ∀ ns : List Str, PyData.depthAll (ns.map PyData.str) = 0
  | [] => rfl
  | x :: r => by
    show max 0 (PyData.depthAll (r.map PyData.str)) = 0
    rw [strs_depth r]; rfl
theorem bools_depth : ∀ ns : List Bool, PyData.depthAll (ns.map PyData.bool) = 0
  | [] => rfl
  | x :: r => by
    show max 0 (PyData.depthAll (r.map PyData.bool)) = 0
    rw [bools_depth r]; rfl
theorem bools_short (B : Nat) : ∀ ns : List Bool, PyData.leavesShortAll B (ns.map PyData.bool) = true
  | [] => rfl
  | x :: r => by
    show (true && PyData.leavesShortAll B (r.map PyData.bool)) = true
    rw [bools_short B r]; rfl
theorem bools_weight : ∀ ns : List Bool, PyData.weightAll (ns.map PyData.bool) = ns.length
  | [] => rfl
  | x :: r => by
    show 0 + 1 + PyData.weightAll (r.map PyData.bool) = r.length + 1
    rw [bools_weight r]; omega
theorem strs_weight : ∀ ns : List Str, PyData.weightAll (ns.map PyData.str) = (ns.map (·.length)).sum + ns.length
  | [] => rfl
  | x :: r => by
    show x.cps.size + 1 + PyData.weightAll (r.map PyData.str) = (x.length :: r.map (·.length)).sum + (r.length + 1)
    rw [strs_weight r, List.sum_cons]
    show x.length + 1 + _ = _
    omega
theorem strs_short {B n : Nat} : ∀ {ns : List Str}, (∀ x ∈ ns, ∀ c ∈ x.cps.toList, c < 128) → PyData.leavesShortAll B (ns.map PyData.str) = true
  | [], _ => rfl
  | x :: r, h => by
    show ((x.cps.toList.all fun c => decide (c < 16 ^ 8)) && PyData.leavesShortAll B (r.map PyData.str)) = true
    rw [strs_short (n := n) fun y hy => h y (List.mem_cons_of_mem _ hy), Bool.and_true, List.all_eq_true]
    exact fun c hc => decide_eq_true (Nat.lt_trans (h x List.mem_cons_self c hc) (by decide))
theorem part_signs {z y a : Str} (h : a ∈ Txt.split z y) {c : Nat} (hc : c ∈ a.cps.toList) : c ∈ z.cps.toList := by
  have e := StrLaws.join_split z y
  rw [← e]
  exact (PyProof.Rows.mem_join y c _).mpr (.inl ⟨a, h, hc⟩)
theorem names_sum {a : Str} : ((names a).map (·.length)).sum + (names a).length ≤ a.length + 1 := by
  unfold names
  split
  · exact Nat.zero_le _
  · exact PyProof.Rows.split_weight a "," (by decide)
theorem names_signs {a x : Str} (h : x ∈ names a) {c : Nat} (hc : c ∈ x.cps.toList) : c ∈ a.cps.toList := by
  unfold names at h
  split at h
  · exact nomatch h
  · exact part_signs h hc
theorem res_nice {z : Str} {r : List Str × Bool × List Bool} (hz : Small 900 z) (h : res z = some r) : Nice (dat (some r)) := by
  obtain ⟨ns, b, ws⟩ := r
  have e3 : (Txt.split z " ").length = 3 := by
    by_cases q : (Txt.split z " ").length = 3
    · exact q
    · rw [res_else q] at h
      exact nomatch h
  obtain ⟨a, o, t, e⟩ : ∃ a o t, Txt.split z " " = [a, o, t] := by
    match hw : Txt.split z " ", e3 with
    | [a, o, t], _ => exact ⟨a, o, t, rfl⟩
  rw [res_three e] at h
  split at h
  · exact nomatch h
  unfold res3 at h
  split at h
  · exact nomatch h
  have h1 := Option.some.inj h
  have en : names a = ns := congrArg (·.1) h1
  have ew : bits (ways t) = ws := congrArg (·.2.2) h1
  have la := part_len (z := z) (a := a) (y := " ") (by decide) (by rw [e]; simp)
  have lt := part_len (z := z) (a := t) (y := " ") (by decide) (by rw [e]; simp)
  have hz1 := hz.1
  have sm := names_sum (a := a)
  rw [en] at sm
  have lw : ws.length ≤ z.length + 1 := by
    rw [← ew]
    unfold bits
    rw [List.length_map]
    have el : (ways t).cps.toList.length = (ways t).length := Array.length_toList
    rw [el]
    unfold ways
    split
    · exact Nat.zero_le _
    · exact lt
  have sg : ∀ x ∈ ns, ∀ c ∈ x.cps.toList, c < 128 := fun x hx c hc => by
    rw [← en] at hx
    exact hz.2 c (part_signs (z := z) (y := " ") (a := a) (by rw [e]; simp) (names_signs hx hc))
  refine ⟨?_, ?_, ?_, ?_⟩
  · show (PyData.showableAll (ns.map PyData.str) && (true && (PyData.showableAll (ws.map PyData.bool) && true))) = true
    rw [strs_show, bools_show]; rfl
  · show max (PyData.depthAll (ns.map PyData.str) + 1) (max 0 (max (PyData.depthAll (ws.map PyData.bool) + 1) 0)) + 1 ≤ 60
    rw [strs_depth, bools_depth]; decide
  · show (PyData.leavesShortAll 13 (ns.map PyData.str) && (true && (PyData.leavesShortAll 13 (ws.map PyData.bool) && true))) = true
    rw [strs_short (n := 0) sg, bools_short]; rfl
  · show PyData.weightAll (ns.map PyData.str) + 1 + (0 + 1 + (PyData.weightAll (ws.map PyData.bool) + 1 + 0)) ≤ 2 ^ 20
    rw [strs_weight, bools_weight]
    have e20 : (2 : Nat) ^ 20 = 1048576 := by decide
    omega
theorem resD_nice {d : PyData} (hz : ∀ z, d = .str z → Small 900 z) : Nice (dat (resD d)) := by
  cases hr : resD d with
  | none => exact ⟨rfl, by decide, rfl, by decide⟩
  | some r =>
    cases d with
    | str z => exact res_nice (hz z rfl) hr
    | _ => exact nomatch hr
/-! ### the law -/
abbrev s_law : Stmt := topS 11
theorem sc_law : FnScope ["_law_script", "_law_pool", "_law_turn", "_law_text_here", "_law_expected_here", "_law_got", "_law_refused", "e"] ["_law_script"] (defScope s_law) := ⟨rfl, rfl, rfl, by decide +kernel, rfl, by decide +kernel, by decide +kernel⟩
def spLaw (K : PySem.W.Frag) : Sp := fun vs H Q _ => ∃ (a : Addr) (ns : List Int), vs = [.ref a] ∧ SqL K H a (ns.map V.int) ∧ ns.length ≤ 63 ∧ ∀ H', Q (.bl true) H'
structure TxL (P : Program) (w : World) (K : PySem.W.Frag) (mg : Str → Option Value) (base : Heap) (C R : Addr) : Prop where
  list : mg "list" = none
  range : mg "range" = none
  repr : mg "repr" = none
  isinstance : mg "isinstance" = none
  g_RunError : mg "RunError" = some (.ref R)
  e_ParseError : ErrC P w K mg base "ParseError" "line" C
  x_ParseError : ExcC K C
  sub : PySem.W.kitOne K (.ref C) (.ref R) = some true
section
variable {P : Program} {w : World} {K : PySem.W.Frag} {mg : Str → Option Value} {base : Heap}
theorem ok_law {f C R : Addr} {fd : FuncData} (F : Fun K "law" "law" s_law f fd) (T : TxL P w K mg base C R) (G_pull : Fx P w K mg base CX0 1 "_law_pull" ["_law_pool", "_law_many"] spPull) (G_text : Fx P w K mg base CX0 2 "_law_text" ["_law_pool"] spText)
    (G_expected : Fx P w K mg base CX0 1 "_law_expected" ["_law_text_here"] (spExp K)) (G_parse_choice : Fx P w K mg base (L2.CX P w) 3 "parse_choice" ["text"] (spParse K C)) : FnG P w K mg base CX0 4 f fd ["_law_script"] (spLaw K) := by
  refine okG F sc_law (fun vs H Q E h => ?_) (fun cdv A outer s H vs Q E gd hr h => ?_)
  · obtain ⟨a, ns, rfl, _⟩ := h
    rfl
  · obtain ⟨a, ns, rfl, hS, hlen, q⟩ := h
    refine ⟨_, (pss_cons (ps_set (i := 1) sc_law.nd rfl (.inl rfl) (pe_lst (pa_cons (pe_callTy call_list_of (by rfl) T.list (by decide +kernel) (pa_cons (pv 0) pa_nil)) (pa_cons pe_int (pa_cons pe_int pa_nil)))))
      (pss_cons (ps_for PassesOwn.never rfl (pi_range1 (by rfl) T.range (pa_cons pe_int pa_nil)) (pg_name (i := 2) sc_law.nd rfl (.inl rfl))
      (pss_cons (ps_set (i := 3) sc_law.nd rfl (.inl rfl) (pe_callF G_text (hr.mono (by decide)) (by rfl) pass0 (pa_cons (pv 1) pa_nil)))
        (Evl.pss_cut (ps_if (pt_cmpR op_eq (pe_callF G_pull (hr.mono (by decide)) (by rfl) pass0 (pa_cons (pv 1) (pa_cons pe_int pa_nil))) pe_int (nomark _))
        (pss_one (ps_set (i := 3) sc_law.nd rfl (.inl rfl) (pe_ix ix_list (pe_lst (pa_cons pe_non (pa_cons pe_int (pa_cons (pe_tup (pa_cons (pe_tup pa_nil) (pa_cons pe_bl (pa_cons (pe_tup pa_nil) pa_nil)))) (pa_cons (pe_lst (pa_cons pe_str (pa_cons pe_str (pa_cons pe_str pa_nil)))) pa_nil))))) (pe_callF G_pull (hr.mono (by decide)) (by rfl) pass0 (pa_cons (pv 1) (pa_cons pe_int pa_nil))) (fun _ _ => rfl))))
        pss_nil)
        (pss_cons (ps_set (i := 4) sc_law.nd rfl (.inl rfl) (pe_callF G_expected (hr.mono (by decide)) (by rfl) pass0 (pa_cons (pv 3) pa_nil)))
        (pss_cons (ps_set (i := 5) sc_law.nd rfl (.inl rfl) pe_non)
        (pss_cons (ps_set (i := 6) sc_law.nd rfl (.inl rfl) pe_bl)
        (Evl.pss_cut (ps_try_as (i := 7) (Wout := fun _ _ _ _ => False) rfl rfl sc_law.nd rfl rfl ⟨rfl, by decide, .inl T.e_ParseError.gC⟩ takes0
        (fun W pn xe tk _ => (pss_one (ps_set (i := 5) sc_law.nd rfl (.inl rfl) (pe_callFS G_parse_choice (hr.mono (by decide)) (by rfl) (fun σ => passAt tk σ) (pa_cons (pv 3) pa_nil)))))
        (fun a oe cls d pn hz hf => (pss_one (ps_set (i := 6) sc_law.nd rfl (.inl rfl) (pe_and (pe_cmpR op_eq (pe_callB (id := "repr") (r := rShow K) (call_reprD gd hr.units) (by rfl) T.repr (by decide +kernel) (pa_cons (pe_xf T.e_ParseError.xf T.e_ParseError.noF hz hf (pv 7)) pa_nil)) (pe_callB (id := "repr") (r := rShow K) (call_reprD gd hr.units) (by rfl) T.repr (by decide +kernel) (pa_cons (pv 3) pa_nil)) (nomark _)) (pe_one (pe_callB (id := "isinstance") (call_isX T.x_ParseError hz hf) (by rfl) T.isinstance (by decide +kernel) (pa_cons (pv 7) (pa_cons (pe_glob (v := .ref _) rfl T.g_RunError rfl) pa_nil)))))))))
        (pss_one (ps_if (PW.pt (pw_or (pt_cmpR op_ne (pv 6) (pe_cmpR op_isN (pv 4) pe_non (nomark _)) (nomark _)) (pw_or1 (pt_cmpR op_ne (pe_callB (call_reprD gd hr.units) (by rfl) T.repr (by decide +kernel) (pa_cons (pv 5) pa_nil)) (pe_callB (call_reprD gd hr.units) (by rfl) T.repr (by decide +kernel) (pa_cons (pv 4) pa_nil)) (nomark _)))))
        (pss_one (ps_ret pe_bl))
        pss_nil)))))))))
      (pss_one (ps_ret pe_bl)))), ?_⟩
    -- the pool
    refine ⟨_, rfl, a, _, rfl, .inl hS, fun cc hcc => ⟨(by show 3 ≤ sizeLine; decide), fun p hp => ?_⟩⟩
    have hP : PoolAt (upd (upd H cc (.lst (ns.map V.int))) p (.lst [.ref cc, .int 0, .int 0])) p cc :=
      ⟨0, 0, ns, upd_same, same_new (o := .lst [.ref cc, .int 0, .int 0]) hp _ _ upd_same, hlen⟩
    -- the turns
    refine ⟨6, rfl, by decide, by decide, for_range (lo := 0) (n := 6) (fun i σ' H' => ∃ y2 y3 y4 y5 y6, σ' = [some (.ref a), some (.ref p), y2, y3, y4, y5, y6, none] ∧ PoolAt H' p cc) ⟨none, none, none, none, none, rfl, hP⟩ ?_ ?_⟩
    · rintro i σ' H1 hi ⟨y2, y3, y4, y5, y6, rfl, P1⟩
      refine ⟨_, rfl, p, cc, rfl, P1, fun Ha z ka pa sz => ?_⟩
      -- the text, or something else
      refine ⟨fun σ' H' => ∃ v d, σ' = [some (.ref a), some (.ref p), some (.int (0 + (i : Int))), some v, y4, y5, y6, none] ∧ PoolAt H' p cc ∧ Dp K H' v d ∧ Nice d ∧ ∀ z, d = .str z → Small 900 z, ?_, ?_⟩
      · refine ⟨_, rfl, p, cc, 12, rfl, pa, by decide, by decide, fun Hb vb kb pb b0 b1 => ⟨rfl, _, rfl, ite2 (fun _ => ?_) (fun _ => ?_)⟩⟩
        · refine ⟨Nat.zero_le _, fun t1 h1 => ⟨Nat.zero_le _, fun t2 h2 => ⟨(by show 3 ≤ sizeLine; decide), fun t3 h3 => ⟨(by show 3 ≤ sizeLine; decide), fun l4 h4 => ⟨(by show 4 ≤ sizeLine; decide), fun l5 h5 => ?_⟩⟩⟩⟩⟩
          have s1 := same_new (o := .tup []) h1
          have s2 := same_new (o := .tup []) h2
          have s3 := same_new (o := .tup [V.ref t1, .bl false, .ref t2]) h3
          have s4 := same_new (o := .lst [V.str "a", .str "0", .str "-"]) h4
          have s5 := same_new (o := .lst [V.non, .int 5, .ref t3, .ref l4]) h5
          have p5 := ((((pb.fresh (o := .tup []) h1).fresh (o := .tup []) h2).fresh (o := .tup [V.ref t1, .bl false, .ref t2]) h3).fresh (o := .lst [V.str "a", .str "0", .str "-"]) h4).fresh (o := .lst [V.non, .int 5, .ref t3, .ref l4]) h5
          have n1 := pb.np h1
          have n2 := (pb.fresh (o := .tup []) h1).np h2
          have n3 := ((pb.fresh (o := .tup []) h1).fresh (o := .tup []) h2).np h3
          have n4 := (((pb.fresh (o := .tup []) h1).fresh (o := .tup []) h2).fresh (o := .tup [V.ref t1, .bl false, .ref t2]) h3).np h4
          have n5 := ((((pb.fresh (o := .tup []) h1).fresh (o := .tup []) h2).fresh (o := .tup [V.ref t1, .bl false, .ref t2]) h3).fresh (o := .lst [V.str "a", .str "0", .str "-"]) h4).np h5
          refine ⟨_, rfl, p, cc, 4, rfl, p5, by decide, by decide, fun Hc vc kc pc c0 c1 => ?_⟩
          have g5 := kc _ _ n5.1 n5.2 upd_same
          have g4 := kc _ _ n4.1 n4.2 (s5 _ _ upd_same)
          have g3 := kc _ _ n3.1 n3.2 (s5 _ _ (s4 _ _ upd_same))
          have g2 := kc _ _ n2.1 n2.2 (s5 _ _ (s4 _ _ (s3 _ _ upd_same)))
          have g1 := kc _ _ n1.1 n1.2 (s5 _ _ (s4 _ _ (s3 _ _ (s2 _ _ upd_same))))
          have hv : vc = 0 ∨ vc = 1 ∨ vc = 2 ∨ vc = 3 := by omega
          rcases hv with e | e | e | e
          · exact ⟨l5, _, vc, .non, rfl, rfl, SqL.of g5, by rw [e]; exact atI0, .non, .none, rfl, pc, .non, ⟨rfl, by decide, rfl, by decide⟩, fun _ h => nomatch h⟩
          · exact ⟨l5, _, vc, .int 5, rfl, rfl, SqL.of g5, by rw [e]; exact atI1, .int 5, .int 5, rfl, pc, .int 5, ⟨by decide, by decide, by decide, by decide⟩, fun _ h => nomatch h⟩
          · refine ⟨l5, _, vc, .ref t3, rfl, rfl, SqL.of g5, by rw [e]; exact atI2, .ref t3, .tuple [.tuple [], .bool false, .tuple []], rfl, pc, ?_, ⟨by decide, by decide, by decide, by decide⟩, fun _ h => nomatch h⟩
            exact dp_tup g3 (.cons (dp_tup g1 .nil) (.cons (.bl _) (.cons (dp_tup g2 .nil) .nil)))
          · refine ⟨l5, _, vc, .ref l4, rfl, rfl, SqL.of g5, by rw [e]; exact atI_nat (j := 3) rfl, .ref l4, .list [.str "a", .str "0", .str "-"], rfl, pc, ?_, ⟨by decide, by decide, by decide, by decide⟩, fun _ h => nomatch h⟩
            exact dp_lst g4 (.cons (.str _) (.cons (.str _) (.cons (.str _) .nil)))
        · exact ⟨.str z, .str z, rfl, pb, .str z, nice_str sz (by decide), fun y e => by cases e; exact sz.mono (by decide)⟩
      rintro σ2 H2 ⟨v, d, rfl, P2, hd, nd, hz⟩
      -- expected
      refine ⟨_, rfl, v, d, rfl, hd, fun z e => (hz z e).1, fun H3 ve s3 he => ?_⟩
      have P3 : PoolAt H3 p cc := by
        obtain ⟨n, sd, ns', e1, e2, e3⟩ := P2
        exact ⟨n, sd, ns', s3 _ _ e1, s3 _ _ e2, e3⟩
      have hd3 := dp_mono s3 hd
      -- the try
      refine ⟨fun σ' H' => ∃ u r, σ' = [some (.ref a), some (.ref p), some (.int (0 + (i : Int))), some v, some ve, some u, some (.bl r), none] ∧ PoolAt H' p cc ∧ Dp K H' u (dat (resD d)) ∧ Dp K H' ve (dat (resD d)) ∧ r = isN (dat (resD d)), ?_, ?_⟩
      · refine ⟨_, rfl, v, d, rfl, hd3, fun z e => (hz z e).1, fun hr H4 dd s4 hdd => ?_, fun r hr H4 u s4 hu => ?_⟩
        · -- refused
          refine ⟨true, T.e_ParseError.te, fun _ a0 ha0 => ?_, fun z => nomatch z⟩
          have s5 := same_new (o := .xd [("line", v)]) hdd
          have hd5 := dp_mono s5 (dp_mono s4 hd3)
          refine ⟨_, rfl, rfl, rfl, dd, _, v, rfl, upd_same, rfl, v, d, rfl, hd5, nd.1, nd.2.1, nd.fits, _, rfl, v, d, rfl, hd5, nd.1, nd.2.1, nd.fits, rfl, true, ?_, ?_⟩
          · rw [decide_eq_true rfl]
          · refine iteT ⟨_, rfl, rfl, .ref R, .ref R, true, rfl, fun u h => h, fun d2 e => ?_, T.sub, ?_⟩
            · cases e
              exact ⟨_, upd_same⟩
            · refine ⟨.non, true, rfl, ?_, ?_, ?_, ?_⟩
              · obtain ⟨n, sd, ns', e1, e2, e3⟩ := P3
                exact ⟨n, sd, ns', s5 _ _ (s4 _ _ e1), s5 _ _ (s4 _ _ e2), e3⟩
              · rw [hr]
                exact .non
              · exact dp_mono s5 (dp_mono s4 he)
              · rw [hr]
                rfl
        · refine ⟨u, false, rfl, ?_, ?_, dp_mono s4 he, ?_⟩
          · obtain ⟨n, sd, ns', e1, e2, e3⟩ := P3
            exact ⟨n, sd, ns', s4 _ _ e1, s4 _ _ e2, e3⟩
          · rw [hr]
            exact hu
          · rw [hr]
            rfl
      rintro σ4 H4 ⟨u, r, rfl, P4, hu, he4, er⟩
      have nr := resD_nice hz
      -- the comparison
      refine ⟨_, rfl, _, rfl, rfl, rfl, _, rfl, ?_⟩
      show if (!decide (V.bl r = V.bl (decide (ve = .non)))) = true then _ else _
      rw [dp_non he4, ← er, decide_eq_true rfl]
      refine iteF ⟨_, rfl, u, _, rfl, hu, nr.1, nr.2.1, nr.fits, _, rfl, ve, _, rfl, he4, nr.1, nr.2.1, nr.fits, rfl, _, rfl, ?_⟩
      show if (!decide (V.str (dat (resD d)).shown = V.str (dat (resD d)).shown)) = true then _ else _
      rw [decide_eq_true rfl]
      exact iteF ⟨_, _, _, _, _, rfl, P4⟩
    · rintro σ' H' ⟨y2, y3, y4, y5, y6, rfl, _⟩
      exact q _
end
end Lw
set_option Elab.async false
set_option linter.all false
set_option maxRecDepth 100000
set_option maxHeartbeats 4000000
namespace Lw
open PySem L2 GL
theorem all_mk {l : PySem.W.OpenLaw} {w : World} {K : PySem.W.Frag} {h : Heap} {mg : Str → Option Value} {fa : Addr} {R_RunError C_ParseError fI_ParseError f_choice_of f_read_choice f_parse_choice f_law_pull f_law_expected f_law_text f_law : Addr} (X : K.In h) (G : h.Ns mainGlobals mg) (hfa : mg "law" = some (.ref fa))
    {nm_ParseError q_ParseError : Str} {N_ParseError : Addr} {bs_ParseError : List Value} {sn_ParseError : List Str} {sb_ParseError : List Value} {ab_ParseError : Bool} {co_ParseError : Option Bool} {dd_ParseError : Option Addr} {m0_ParseError m1_ParseError m2_ParseError m3_ParseError m5_ParseError : Option Value}
    {od_ParseError___init__ an_ParseError___init__ : Option Addr} {sl_ParseError___init__ : Array (Option Value)} {oc_ParseError___init__ kV_ParseError___init__ dc_ParseError___init__ pm_ParseError___init__ cd_ParseError___init__ ct_ParseError___init__ : Value}
    {od_choice_of an_choice_of : Option Addr} {sl_choice_of : Array (Option Value)} {oc_choice_of kV_choice_of dc_choice_of pm_choice_of cd_choice_of ct_choice_of : Value}
    {od_read_choice an_read_choice : Option Addr} {sl_read_choice : Array (Option Value)} {oc_read_choice kV_read_choice dc_read_choice pm_read_choice cd_read_choice ct_read_choice : Value}
    {od_parse_choice an_parse_choice : Option Addr} {sl_parse_choice : Array (Option Value)} {oc_parse_choice kV_parse_choice dc_parse_choice pm_parse_choice cd_parse_choice ct_parse_choice : Value}
    {od_law_pull an_law_pull : Option Addr} {sl_law_pull : Array (Option Value)} {oc_law_pull kV_law_pull dc_law_pull pm_law_pull cd_law_pull ct_law_pull : Value}
    {od_law_expected an_law_expected : Option Addr} {sl_law_expected : Array (Option Value)} {oc_law_expected kV_law_expected dc_law_expected pm_law_expected cd_law_expected ct_law_expected : Value}
    {od_law_text an_law_text : Option Addr} {sl_law_text : Array (Option Value)} {oc_law_text kV_law_text dc_law_text pm_law_text cd_law_text ct_law_text : Value}
    {od_law an_law : Option Addr} {sl_law : Array (Option Value)} {oc_law kV_law dc_law pm_law cd_law ct_law : Value}
    (a_RunError : PySem.W.nsIn K mainGlobals "RunError" = some (some (.ref R_RunError)))
    (rd_RunError : PySem.W.readsIn K R_RunError (.type "type") = true)
    (ga_RunError : PySem.W.specialIn K (.ref R_RunError) "__getattribute__" = some (some (.builtin "type.__getattribute__")))
    (tb_RunError : PySem.W.typeIn K (.ref R_RunError) = some (.type "type"))
    (ib_RunError : PySem.W.isClsIn K R_RunError = true)
    (at_RunError : PySem.W.findCls K (.ref R_RunError) (.type "type") "__init__" = some (.val (.builtin "ValueError.__init__")))
    (a_ParseError : PySem.W.nsIn K mainGlobals "ParseError" = some (some (.ref C_ParseError)))
    (x_ParseError : K.lookup C_ParseError = some (excClassObj nm_ParseError q_ParseError C_ParseError N_ParseError bs_ParseError [.ref R_RunError, .type "ValueError", .type "Exception", .type "BaseException", .type "object"] true sn_ParseError sb_ParseError ab_ParseError co_ParseError dd_ParseError m0_ParseError m1_ParseError m2_ParseError m3_ParseError m5_ParseError "ValueError.__new__"))
    (sa_ParseError : PySem.W.findIn K (.ref C_ParseError) "__setattr__" = some (some (.builtin "object.__setattr__")))
    (gt_ParseError : PySem.W.findIn K (.ref C_ParseError) "__getattribute__" = some (some (.builtin "BaseException.__getattribute__")))
    (gg_ParseError : PySem.W.findIn K (.ref C_ParseError) "__getattr__" = some none)
    (nf_ParseError : PySem.W.findIn K (.ref C_ParseError) "line" = some none)
    (kC_ParseError : PySem.W.keepIn K (.ref C_ParseError) = true)
    (eC_ParseError : PySem.W.subIn K (.ref C_ParseError) (.type "BaseException") = some true)
    (tC_ParseError : PySem.W.typeIn K (.ref C_ParseError) = some (.type "type"))
    (hC_ParseError : PySem.W.hasDictIn K C_ParseError = true)
    (sC_ParseError : PySem.W.subIn K (.ref C_ParseError) (.ref C_ParseError) = some true)
    (ca_ParseError : PySem.W.findIn K (.ref C_ParseError) "__class__" = some (some (.builtin "object.__class__")))
    (cm_ParseError : PySem.W.mroIn K C_ParseError (.type "object") = some true)
    (kr_ParseError : PySem.W.subIn K (.ref C_ParseError) (.ref R_RunError) = some true)
    (i_ParseError : PySem.W.findIn K (.ref C_ParseError) "__init__" = some (some (.ref fI_ParseError)))
    (ti_ParseError : PySem.W.typeIn K (.ref fI_ParseError) = some (.type "function"))
    (l_ParseError___init__ : K.lookup fI_ParseError = some ⟨oc_ParseError___init__, od_ParseError___init__, .func (PySem.W.fnOf "__init__" "ParseError.__init__" (defArgs s_ParseError___init__) (defBody s_ParseError___init__) (defScope s_ParseError___init__) .none kV_ParseError___init__ dc_ParseError___init__ pm_ParseError___init__ an_ParseError___init__ cd_ParseError___init__ ct_ParseError___init__), sl_ParseError___init__⟩)
    (c_ParseError___init__ : PySem.W.codeIn K cd_ParseError___init__ "ParseError.__init__" = true)
    (k_ParseError___init__ : PySem.W.keepIn K (.ref fI_ParseError) = true)
    (o_get : PySem.W.specialIn K (.builtin "object.__class__") "__get__" = some (some (.builtin "getset_descriptor.__get__")))
    (o_tak : PySem.W.takesIn K (.builtin "object.__class__") = some true)
    (a_choice_of : PySem.W.nsIn K mainGlobals "choice_of" = some (some (.ref f_choice_of)))
    (l_choice_of : K.lookup f_choice_of = some ⟨oc_choice_of, od_choice_of, .func (PySem.W.fnOf "choice_of" "choice_of" (defArgs s_choice_of) (defBody s_choice_of) (defScope s_choice_of) .none kV_choice_of dc_choice_of pm_choice_of an_choice_of cd_choice_of ct_choice_of), sl_choice_of⟩)
    (c_choice_of : PySem.W.codeIn K cd_choice_of "choice_of" = true)
    (k_choice_of : PySem.W.keepIn K (.ref f_choice_of) = true)
    (a_read_choice : PySem.W.nsIn K mainGlobals "read_choice" = some (some (.ref f_read_choice)))
    (l_read_choice : K.lookup f_read_choice = some ⟨oc_read_choice, od_read_choice, .func (PySem.W.fnOf "read_choice" "read_choice" (defArgs s_read_choice) (defBody s_read_choice) (defScope s_read_choice) .none kV_read_choice dc_read_choice pm_read_choice an_read_choice cd_read_choice ct_read_choice), sl_read_choice⟩)
    (c_read_choice : PySem.W.codeIn K cd_read_choice "read_choice" = true)
    (k_read_choice : PySem.W.keepIn K (.ref f_read_choice) = true)
    (a_parse_choice : PySem.W.nsIn K mainGlobals "parse_choice" = some (some (.ref f_parse_choice)))
    (l_parse_choice : K.lookup f_parse_choice = some ⟨oc_parse_choice, od_parse_choice, .func (PySem.W.fnOf "parse_choice" "parse_choice" (defArgs s_parse_choice) (defBody s_parse_choice) (defScope s_parse_choice) .none kV_parse_choice dc_parse_choice pm_parse_choice an_parse_choice cd_parse_choice ct_parse_choice), sl_parse_choice⟩)
    (c_parse_choice : PySem.W.codeIn K cd_parse_choice "parse_choice" = true)
    (k_parse_choice : PySem.W.keepIn K (.ref f_parse_choice) = true)
    (a_law_pull : PySem.W.nsIn K mainGlobals "_law_pull" = some (some (.ref f_law_pull)))
    (l_law_pull : K.lookup f_law_pull = some ⟨oc_law_pull, od_law_pull, .func (PySem.W.fnOf "_law_pull" "_law_pull" (defArgs s_law_pull) (defBody s_law_pull) (defScope s_law_pull) .none kV_law_pull dc_law_pull pm_law_pull an_law_pull cd_law_pull ct_law_pull), sl_law_pull⟩)
    (c_law_pull : PySem.W.codeIn K cd_law_pull "_law_pull" = true)
    (k_law_pull : PySem.W.keepIn K (.ref f_law_pull) = true)
    (a_law_expected : PySem.W.nsIn K mainGlobals "_law_expected" = some (some (.ref f_law_expected)))
    (l_law_expected : K.lookup f_law_expected = some ⟨oc_law_expected, od_law_expected, .func (PySem.W.fnOf "_law_expected" "_law_expected" (defArgs s_law_expected) (defBody s_law_expected) (defScope s_law_expected) .none kV_law_expected dc_law_expected pm_law_expected an_law_expected cd_law_expected ct_law_expected), sl_law_expected⟩)
    (c_law_expected : PySem.W.codeIn K cd_law_expected "_law_expected" = true)
    (k_law_expected : PySem.W.keepIn K (.ref f_law_expected) = true)
    (a_law_text : PySem.W.nsIn K mainGlobals "_law_text" = some (some (.ref f_law_text)))
    (l_law_text : K.lookup f_law_text = some ⟨oc_law_text, od_law_text, .func (PySem.W.fnOf "_law_text" "_law_text" (defArgs s_law_text) (defBody s_law_text) (defScope s_law_text) .none kV_law_text dc_law_text pm_law_text an_law_text cd_law_text ct_law_text), sl_law_text⟩)
    (c_law_text : PySem.W.codeIn K cd_law_text "_law_text" = true)
    (k_law_text : PySem.W.keepIn K (.ref f_law_text) = true)
    (a_law : PySem.W.nsIn K mainGlobals "law" = some (some (.ref f_law)))
    (l_law : K.lookup f_law = some ⟨oc_law, od_law, .func (PySem.W.fnOf "law" "law" (defArgs s_law) (defBody s_law) (defScope s_law) .none kV_law dc_law pm_law an_law cd_law ct_law), sl_law⟩)
    (c_law : PySem.W.codeIn K cd_law "law" = true)
    (k_law : PySem.W.keepIn K (.ref f_law) = true)
    (z_len : PySem.W.nsIn K mainGlobals "len" = some none)
    (z_int : PySem.W.nsIn K mainGlobals "int" = some none)
    (z_all : PySem.W.nsIn K mainGlobals "all" = some none)
    (z_tuple : PySem.W.nsIn K mainGlobals "tuple" = some none)
    (z_bool : PySem.W.nsIn K mainGlobals "bool" = some none)
    (z_isinstance : PySem.W.nsIn K mainGlobals "isinstance" = some none)
    (z_str : PySem.W.nsIn K mainGlobals "str" = some none)
    (z_list : PySem.W.nsIn K mainGlobals "list" = some none)
    (z_range : PySem.W.nsIn K mainGlobals "range" = some none)
    (z_repr : PySem.W.nsIn K mainGlobals "repr" = some none)
    : ∃ fd : FuncData, (∀ (s : Shared) (v : Value), BindsTo s fd ⟨[v], []⟩ [("_law_script", v)]) ∧ ∀ base : Heap, K.In base → base.Ns mainGlobals mg → FnG l.prog w K mg base CX0 4 fa fd ["_law_script"] (spLaw K) := by
  have e := hfa.symm.trans (PySem.W.mg_of X G a_law)
  cases e
  have F_ParseError___init__ := fun_mk (st := s_ParseError___init__) l_ParseError___init__ c_ParseError___init__ k_ParseError___init__
  have b_ParseError___init__ := F_ParseError___init__.binds (ps := ["self", "line"]) fun _ _ _ _ _ _ us hl => match us, hl with | [_, _], _ => rfl
  have F_choice_of := fun_mk (st := s_choice_of) l_choice_of c_choice_of k_choice_of
  have b_choice_of := F_choice_of.binds (ps := ["words"]) fun _ _ _ _ _ _ us hl => match us, hl with | [_], _ => rfl
  have g_choice_of := PySem.W.mg_of X G a_choice_of
  have F_read_choice := fun_mk (st := s_read_choice) l_read_choice c_read_choice k_read_choice
  have b_read_choice := F_read_choice.binds (ps := ["text"]) fun _ _ _ _ _ _ us hl => match us, hl with | [_], _ => rfl
  have g_read_choice := PySem.W.mg_of X G a_read_choice
  have F_parse_choice := fun_mk (st := s_parse_choice) l_parse_choice c_parse_choice k_parse_choice
  have b_parse_choice := F_parse_choice.binds (ps := ["text"]) fun _ _ _ _ _ _ us hl => match us, hl with | [_], _ => rfl
  have g_parse_choice := PySem.W.mg_of X G a_parse_choice
  have F_law_pull := fun_mk (st := s_law_pull) l_law_pull c_law_pull k_law_pull
  have b_law_pull := F_law_pull.binds (ps := ["_law_pool", "_law_many"]) fun _ _ _ _ _ _ us hl => match us, hl with | [_, _], _ => rfl
  have g_law_pull := PySem.W.mg_of X G a_law_pull
  have F_law_expected := fun_mk (st := s_law_expected) l_law_expected c_law_expected k_law_expected
  have b_law_expected := F_law_expected.binds (ps := ["_law_text_here"]) fun _ _ _ _ _ _ us hl => match us, hl with | [_], _ => rfl
  have g_law_expected := PySem.W.mg_of X G a_law_expected
  have F_law_text := fun_mk (st := s_law_text) l_law_text c_law_text k_law_text
  have b_law_text := F_law_text.binds (ps := ["_law_pool"]) fun _ _ _ _ _ _ us hl => match us, hl with | [_], _ => rfl
  have g_law_text := PySem.W.mg_of X G a_law_text
  have F_law := fun_mk (st := s_law) l_law c_law k_law
  have b_law := F_law.binds (ps := ["_law_script"]) fun _ _ _ _ _ _ us hl => match us, hl with | [_], _ => rfl
  have g_law := PySem.W.mg_of X G a_law
  have n_len := PySem.W.mg_none_of X G z_len
  have n_int := PySem.W.mg_none_of X G z_int
  have n_all := PySem.W.mg_none_of X G z_all
  have n_tuple := PySem.W.mg_none_of X G z_tuple
  have n_bool := PySem.W.mg_none_of X G z_bool
  have n_isinstance := PySem.W.mg_none_of X G z_isinstance
  have n_str := PySem.W.mg_none_of X G z_str
  have n_list := PySem.W.mg_none_of X G z_list
  have n_range := PySem.W.mg_none_of X G z_range
  have n_repr := PySem.W.mg_none_of X G z_repr
  have B : BaseC K mg R_RunError := ⟨PySem.W.mg_of X G a_RunError, ⟨rd_RunError, ga_RunError⟩, at_RunError⟩
  have O_ParseError : OexC K C_ParseError := ⟨⟨nm_ParseError, q_ParseError, N_ParseError, bs_ParseError, _, sn_ParseError, sb_ParseError, ab_ParseError, co_ParseError, dd_ParseError, m0_ParseError, m1_ParseError, m2_ParseError, m3_ParseError, m5_ParseError, x_ParseError, by rfl⟩, sa_ParseError, eC_ParseError, tC_ParseError, kC_ParseError⟩
  have M_ParseError : XfC K C_ParseError := ⟨gt_ParseError, gg_ParseError, eC_ParseError, hC_ParseError⟩
  have Y_ParseError : ExcC K C_ParseError := ⟨gt_ParseError, gg_ParseError, eC_ParseError, hC_ParseError, ca_ParseError, o_get, o_tak, cm_ParseError⟩
  have W_ParseError := kit_sub ib_RunError tb_RunError kr_ParseError
  have U_ParseError := PySem.W.exm_ref eC_ParseError hC_ParseError tC_ParseError sC_ParseError
  refine ⟨PySem.W.fnOf "law" "law" (defArgs s_law) (defBody s_law) (defScope s_law) .none kV_law dc_law pm_law an_law cd_law ct_law, fun s v => .of_eq rfl, fun base _ _ => ?_⟩
  have E : ErrC l.prog w K mg base "ParseError" "line" C_ParseError := ⟨PySem.W.mg_of X G a_ParseError, O_ParseError, M_ParseError, nf_ParseError, U_ParseError, ⟨fI_ParseError, _, 1, "line", rfl, i_ParseError, ti_ParseError, ok_errInit F_ParseError___init__ B O_ParseError nf_ParseError, b_ParseError___init__⟩⟩
  have TC : TxC mg := ⟨n_all, n_tuple, n_bool, n_len, n_isinstance, n_str⟩
  have GP : Fx l.prog w K mg base CX0 1 "_law_pull" ["_law_pool", "_law_many"] spPull := ⟨_, _, ok_pull F_law_pull ⟨n_len, n_int⟩, g_law_pull, k_law_pull, b_law_pull⟩
  have GC : Fx l.prog w K mg base CX0 1 "choice_of" ["words"] (spChoice K) := ⟨_, _, ok_choice F_choice_of TC, g_choice_of, k_choice_of, b_choice_of⟩
  have GR : Fx l.prog w K mg base CX0 2 "read_choice" ["text"] (spRead K) := ⟨_, _, ok_read F_read_choice TC GC, g_read_choice, k_read_choice, b_read_choice⟩
  have GA : Fx l.prog w K mg base (L2.CX l.prog w) 3 "parse_choice" ["text"] (spParse K C_ParseError) := ⟨_, _, ok_parse F_parse_choice { TC with e_ParseError := E } GR, g_parse_choice, k_parse_choice, b_parse_choice⟩
  have GE : Fx l.prog w K mg base CX0 1 "_law_expected" ["_law_text_here"] (spExp K) := ⟨_, _, ok_exp F_law_expected TC, g_law_expected, k_law_expected, b_law_expected⟩
  have GT : Fx l.prog w K mg base CX0 2 "_law_text" ["_law_pool"] spText := ⟨_, _, ok_text F_law_text ⟨n_str⟩ GP, g_law_text, k_law_text, b_law_text⟩
  exact ok_law F_law ⟨n_list, n_range, n_repr, n_isinstance, PySem.W.mg_of X G a_RunError, E, Y_ParseError, W_ParseError⟩ GP GT GE GA
end Lw
open PySem PySem.W PyProof.Rows
set_option maxRecDepth 100000 in
set_option maxHeartbeats 0 in
theorem PySem.Challenge.cw_interruptruns_k87_choice_texts_refused_holds : PySem.Challenge.rw_interruptruns_k87_choice_texts_refused.Holds := by
  w_on; o_law; k_head; (case hw => w_witness2)
  k_fill
  refine GL.walk_ofG (l := PySem.Challenge.rw_interruptruns_k87_choice_texts_refused) (n := 63) (k := 4) (x := "_law_script") (sp := Lw.spLaw) rfl (by decide) rfl ⟨rfl, by decide, by decide⟩ (fun w h Y => PySem.W.kIn_of Y) ?F (fun K H a ns hl hS => ⟨a, ns, rfl, hS, hl, fun _ => rfl⟩)
  case F =>
    intro w mg fa h KX G hmg
    refine' Lw.all_mk KX G hmg ?a_RunError ?rd_RunError ?ga_RunError ?tb_RunError ?ib_RunError ?at_RunError ?a_ParseError ?x_ParseError ?sa_ParseError ?gt_ParseError ?gg_ParseError ?nf_ParseError ?kC_ParseError ?eC_ParseError ?tC_ParseError ?hC_ParseError ?sC_ParseError ?ca_ParseError ?cm_ParseError ?kr_ParseError ?i_ParseError ?ti_ParseError ?l_ParseError___init__ ?c_ParseError___init__ ?k_ParseError___init__ ?o_get ?o_tak ?a_choice_of ?l_choice_of ?c_choice_of ?k_choice_of ?a_read_choice ?l_read_choice ?c_read_choice ?k_read_choice ?a_parse_choice ?l_parse_choice ?c_parse_choice ?k_parse_choice ?a_law_pull ?l_law_pull ?c_law_pull ?k_law_pull ?a_law_expected ?l_law_expected ?c_law_expected ?k_law_expected ?a_law_text ?l_law_text ?c_law_text ?k_law_text ?a_law ?l_law ?c_law ?k_law ?z_len ?z_int ?z_all ?z_tuple ?z_bool ?z_isinstance ?z_str ?z_list ?z_range ?z_repr
    (case a_RunError => k_is)
    (case rd_RunError => k_is)
    (case ga_RunError => k_is)
    (case tb_RunError => k_is)
    (case ib_RunError => k_is)
    (case at_RunError => k_is)
    (case a_ParseError => k_is)
    (case x_ParseError => k_is)
    (case sa_ParseError => k_is)
    (case gt_ParseError => k_is)
    (case gg_ParseError => k_is)
    (case nf_ParseError => k_is)
    (case kC_ParseError => k_is)
    (case eC_ParseError => k_is)
    (case tC_ParseError => k_is)
    (case hC_ParseError => k_is)
    (case sC_ParseError => k_is)
    (case ca_ParseError => k_is)
    (case cm_ParseError => k_is)
    (case kr_ParseError => k_is)
    (case i_ParseError => k_is)
    (case ti_ParseError => k_is)
    (case l_ParseError___init__ => k_is)
    (case c_ParseError___init__ => k_is)
    (case k_ParseError___init__ => k_is)
    (case o_get => k_is)
    (case o_tak => k_is)
    (case a_choice_of => k_is)
    (case l_choice_of => k_is)
    (case c_choice_of => k_is)
    (case k_choice_of => k_is)
    (case a_read_choice => k_is)
    (case l_read_choice => k_is)
    (case c_read_choice => k_is)
    (case k_read_choice => k_is)
    (case a_parse_choice => k_is)
    (case l_parse_choice => k_is)
    (case c_parse_choice => k_is)
    (case k_parse_choice => k_is)
    (case a_law_pull => k_is)
    (case l_law_pull => k_is)
    (case c_law_pull => k_is)
    (case k_law_pull => k_is)
    (case a_law_expected => k_is)
    (case l_law_expected => k_is)
    (case c_law_expected => k_is)
    (case k_law_expected => k_is)
    (case a_law_text => k_is)
    (case l_law_text => k_is)
    (case c_law_text => k_is)
    (case k_law_text => k_is)
    (case a_law => k_is)
    (case l_law => k_is)
    (case c_law => k_is)
    (case k_law => k_is)
    (case z_len => k_is)
    (case z_int => k_is)
    (case z_all => k_is)
    (case z_tuple => k_is)
    (case z_bool => k_is)
    (case z_isinstance => k_is)
    (case z_str => k_is)
    (case z_list => k_is)
    (case z_range => k_is)
    (case z_repr => k_is)
