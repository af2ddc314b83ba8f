import PyProof.Rows.All
import Wide.All
import OpenK.AllK
import Wide.FinOn
import HandS.ForMost
import HandS.ForExc
import HandS.ExcInit
import HandS.IsInst
import HandS.Evl
import PyProof.ReprRoads
import HandS.ClsMeth
import HandS.ExcField
import HandS.ExcIs
import PyProof.Rows.StrSplitJoin
import HandS.Comp
import HandS.Iter
import PyProof.ReprLen
import PySem.Challenge.RW_interruptruns_k86_choice_texts
set_option Elab.async false
set_option linter.all false
set_option maxRecDepth 100000
set_option maxHeartbeats 4000000
/-! Defs that run where no repr is under way (guards known to be empty): promises, calls, the end of a law row, repr and str of data. -/
namespace GL
open PySem PySem.Spec PyProof.Rows L2

/-- a def that keeps its promise wherever no repr is under way -/
structure FnG (P : Program) (w : World) (K : PySem.W.Frag) (mg : Str → Option Value) (base : Heap) (CX : CXT) (k : Nat) (f : Addr) (fd : FuncData) (ps : List Str) (sp : Sp) : Prop where
  len : ∀ vs H Q E, sp vs H Q E → vs.length = ps.length
  run : ∀ (A : Around) (outer : List Env) (s : Shared) (H : Hp) (args : Args) (us : List Value) (vs : List V) (Q : VK) (E : XK), A.guards = some [] → Room k A → Env0 P w K mg base A outer s H → BindsTo s fd args (ps.zip us) → Vals vs us → sp vs H Q E →
    codeAny (model P w) A (.call (.ref f) args) (CR CX outer P w H s Q E) s

section
variable {P : Program} {w : World} {K : PySem.W.Frag} {mg : Str → Option Value} {base : Heap} {CX : CXT}
theorem FnG.of {k : Nat} {f : Addr} {fd : FuncData} {ps : List Str} {sp : Sp} (F : FnOk P w K mg base CX k f fd ps sp) : FnG P w K mg base CX k f fd ps sp :=
  { len := F.len, run := fun A o s H as us vs Q E _ hr e b v h => F.run A o s H as us vs Q E hr e b v h }

theorem fnG_of {k : Nat} {f : Addr} {name qual : Str} {params : Arguments} {body : List Stmt} {scope : Scope} {dV kV doc pm cdv ct oc : Value} {an od : Option Addr}
    {osl : Array (Option Value)} {N ps : List Str} {sp : Sp} (lk : K.lookup f = some ⟨oc, od, .func (PySem.W.fnOf name qual params body scope dV kV doc pm an cdv ct), osl⟩) (hcd : PySem.W.codeIn K cdv qual = true) (S : FnScope N ps scope)
    (len : ∀ vs H Q E, sp vs H Q E → vs.length = ps.length)
    (hbody : ∀ (A : Around) (outer : List Env) (s : Shared) (H : Hp) (vs : List V) (Q : VK) (E : XK), A.guards = some [] → Room k (A.deeper (envOfC qual scope s.heap.objs.size f cdv)) → sp vs H Q E →
      ∃ t, PSs (cxOf CX P w K mg base N qual scope f cdv A outer s H E) body t ∧ t { nx := fun _ H' => Q .non H', rt := Q } (start N vs) H) :
    FnG P w K mg base CX (k + 1) f (PySem.W.fnOf name qual params body scope dV kV doc pm an cdv ct) ps sp := by
  refine ⟨len, fun A outer s H args us vs Q E hgd hr e0 hb r hsp => ?_⟩
  have kin : K.In s.heap := e0.mod.kin.keeps fun b o e => And.left (e0.bs b o e)
  have lim : s.heap.NoLimit := e0.mod.nolimit.keeps fun b o e => And.left (e0.bs b o e)
  have kinds : ∀ y ∈ ps.zip us, scope.names.lookup y.1 = some .local ∨ (scope.names.lookup y.1 = some .cell ∧ ((cellsFrom (s.heap.objs.size + 1) scope.names []).lookup y.1).isSome = true) := by
    rintro ⟨n, v⟩ hy
    cases S.par n (List.of_mem_zip hy).1 with
    | inl q => exact Or.inl q
    | inr q => exact Or.inr ⟨q, PySem.W.cellsFrom_some _ _ _ (Or.inl q)⟩
  refine codeAny_call_function hr.depth (kin _ _ lk) rfl S.co S.gen rfl (PySem.W.codeRec_of kin hcd) (hb _ _ _ _ ?_)
  refine wpAny_newFunctionEnv_cells S.kind kinds fun env he s1 x => ?_
  subst he
  refine ⟨lim.keeps x.toInCall.keep, codeAny_func ?_⟩
  obtain ⟨t, ht, hq⟩ := hbody A outer s H vs Q E hgd (hr.deeper _) hsp
  have I := inv_start (CX := CX) (E := E) S hr.hd e0 (len _ _ _ _ hsp) r x
  refine wpAny_mono (ht.run [] s1 (start N vs) H _ I hq) (fun fl s' hs => ?_) fun e s' hs => hs
  have fin : ∀ {σ' : L2.St} {H' : Hp} {v : V} {u : Value}, Inv (cxOf CX P w K mg base N qual scope f cdv A outer s H E) [] σ' H' s' → RelV v u → Q v H' → CE outer P w H s Q u s' :=
    fun {_ H' v _} J rv q => ⟨v, H', J.os, J.bare, J.base, J.hok, rv, q⟩
  cases fl with
  | ret u =>
    obtain ⟨v, _, _, J, rv, q⟩ := hs
    exact fin J rv q
  | next =>
    obtain ⟨_, _, J, q⟩ := hs
    exact fin (v := V.non) (u := Value.none) J rfl q
  | brk => exact hs.elim fun _ ⟨_, _, q⟩ => False.elim q
  | cont => exact hs.elim fun _ ⟨_, _, q⟩ => False.elim q

/-- a def's body, no exception leaving it -/
theorem okG {x qual : Str} {st : Stmt} {f : Addr} {fd : FuncData} {N ps : List Str} {k : Nat} {sp : Sp} (F : Fun K x qual st f fd) (S : FnScope N ps (defScope st)) (len : ∀ vs H Q E, sp vs H Q E → vs.length = ps.length)
    (hbody : ∀ (cdv : Value) (A : Around) (outer : List Env) (s : Shared) (H : Hp) (vs : List V) (Q : VK) (E : XK), A.guards = some [] → Room k (A.deeper (envOfC qual (defScope st) s.heap.objs.size f cdv)) → sp vs H Q E →
      ∃ t, PSs (cxOf CX0 P w K mg base N qual (defScope st) f cdv A outer s H E).nox (defBody st) t ∧ t { nx := fun _ H' => Q .non H', rt := Q } (start N vs) H) : FnG P w K mg base CX0 (k + 1) f fd ps sp := by
  obtain ⟨oc, od, kV, doc, pm, an, cdv, ct, osl, rfl, lk, hcd⟩ := F.ex
  refine fnG_of lk hcd S len fun A outer s H vs Q E g hr hsp => ?_
  obtain ⟨t, h, q⟩ := hbody cdv A outer s H vs Q E g hr hsp
  exact ⟨t, h.nox, q⟩
end
section
variable {X : Cx} {CX : CXT} {k : Nat} {f C : Addr} {fd : FuncData} {ps : List Str} {sp : Sp} {dvs : List V} {ds : List Value} {E : XK} {x m : Str} {p pos apos : Pos} {e o : Expr} {es : List Expr} {ta : TE} {t : TA}
theorem run_fnG {pins : List (Addr × Obj)} {σ : L2.St} {H : Hp} {s : Shared} {Q : VK} {us : List Value} {vs : List V} (F : FnG X.prog X.w X.K X.mg X.base CX k f fd ps sp) (gd : X.A.guards = some []) (hr : Room k X.A) (hb : Binds X.K fd ps ds) (hd : Vals dvs ds) (hx : Passes CX X E)
    (I : Inv X pins σ H s) (r : Vals vs us) (h : sp (vs ++ dvs) H Q E) : wpAny (model X.prog X.w) X.A (call (.ref f) us) (EP X pins σ Q) X.xe s := by
  have r2 : Vals (vs ++ dvs) (us ++ ds) := r.append hd
  have hl : (us ++ ds).length = ps.length := (Eq.symm r2.length).trans (F.len _ _ _ _ h)
  refine wpAny_call (codeAny_mono (F.run X.A X.stack s H ⟨us, []⟩ (us ++ ds) (vs ++ dvs) Q E gd hr I.env0 (hb s us I.kIn hl) r2 h) fun r s' hq => ?_)
  match r, hq with
  | .error e, hq => exact hx pins σ H s e s' I hq
  | .ok (.ret u), hq => exact I.after hq
theorem pe_callG (F : FnG X.prog X.w X.K X.mg X.base CX k f fd ps sp) (gd : X.A.guards = some []) (hr : Room k X.A) (hg : Gl X x) (hm : X.mg x = some (.ref f)) (hk : PySem.W.keepIn X.K (.ref f) = true) (hb : Binds X.K fd ps ds) (hd : Vals dvs ds) (hx : Passes CX X E)
    (ha : PA X (e :: es) t) (hdb : (x == ("__debug__" : Str)) = false := by decide) (he : starEach (e :: es) X.env = (false, eval e X.env) :: starEach es X.env := by rfl) (hpl : (backTo pos (starEach es X.env)).any (·.1) = false := by rfl) :
    PE X (.Call (.Name x p) (e :: es) [] pos) (tCall sp dvs E t) := by
  refine ⟨fun pins s σ H Q I h => wpAny_Call_Name_kw (ld_glob I hg hm ?_ hdb)⟩
  refine PySem.W.callWith_K (h₀ := X.base) I.ok.mod.kin hk (thn (ha.run pos pins s σ H _ I h) fun us s1 hh => ?_) he hpl
  obtain ⟨vs, H1, I1, r, q⟩ := hh
  exact ⟨I1.kIn, run_fnG F gd hr hb hd hx I1 r q⟩
end

/-! ### the end of a law row -/
section
variable {P : Program} {w : World} {K : PySem.W.Frag} {mg mb : Str → Option Value} {CX : CXT} {k : Nat} {fa a : Addr} {fd : FuncData} {x : Str} {sp : Sp} {s₁ : Shared} {vs : List Value} {ns : List Int}
theorem core_callG (KX : K.In s₁.heap) (hns : s₁.heap.Ns mainGlobals mg) (hb : s₁.heap.Ns builtinsNs mb) (hbb : ∀ x : Str, x ≠ "__name__" → mb x = bootBuiltins x) (hlim : s₁.heap.NoLimit) (hg : s₁.gens = #[])
    (ha : s₁.heap.get? a = some { cls := .type "list", data := .seq vs.toArray }) (hr : Room k callerA)
    (F : ∀ base : Heap, K.In base → base.Ns mainGlobals mg → FnG P w K mg base CX k fa fd [x] sp) (hbind : ∀ (s : Shared) (u : Value), BindsTo s fd ⟨[u], []⟩ [(x, u)])
    (hCX : ∀ H e s', CX [] H s₁ (fun _ _ _ => False) e s' → False)
    (H : Hp) (hO : Only H) (hsp : sp [.ref a] H (fun v _ => v = .bl true) fun _ _ _ => False) (hok : HOk P w H s₁.heap) (hA : ∀ b, H b ≠ none → b = a) (hK : H a ≠ none → K.lookup a = none) :
    codeAny (model P w) callerA (.call (.ref fa) ⟨[.ref a], []⟩) (fun r s' => r = .ok (.ret (.bool true)) ∧ OldK s₁.heap s'.heap ∧ s'.os = s₁.os ∧ AllBare s'.gens) s₁ := by
  have only : ∀ {b : Addr} {u : HO}, H b = some u → b = a := fun {b u} q => hA b (by rw [q]; exact fun z => nomatch z)
  have dictFree : ∀ {b : Addr} {o : Obj} {es : Array DictEntry} {ep : Nat}, s₁.heap.get? b = some o → o.data = .dict es ep → H b = none := by
    intro b o es ep e d
    match q : H b with
    | none => rfl
    | some u =>
      have eb := only q
      rw [eb, ha] at e
      have e2 := Option.some.inj e
      rw [← e2] at d
      exact nomatch d
  have nsK : ∀ {b : Addr} {m : Str → Option Value}, s₁.heap.Ns b m → (hidT s₁.heap H).Ns b m := by
    rintro b m ⟨o, es, ep, e, d, r⟩
    exact ⟨o, es, ep, hidT_get e (dictFree e d), d, r⟩
  have kinB : K.In (hidT s₁.heap H) := by
    intro b o e
    refine hidT_get (KX b o e) ?_
    match q : H b with
    | none => rfl
    | some u =>
      have eb := only q
      have nk := hK (by rw [← eb, q]; exact fun z => nomatch z)
      rw [eb, nk] at e
      exact nomatch e
  obtain ⟨mc, l1, l2⟩ := hlim
  have md : Mod K mg (hidT s₁.heap H) := { kin := kinB, glob := nsK hns, blt := ⟨mb, nsK hb, hbb⟩, nolimit := ⟨mc, nsK l1, l2⟩ }
  have e0 : Env0 P w K mg (hidT s₁.heap H) callerA [] s₁ H :=
    { frames := rfl, mod := md, bs := fun b o e => of_hidT e, bsz := Nat.le_of_eq (hidT_size _ _), funs := trivial, frf := (fun b hb => nomatch hb), hok := hok, bare := .of_eq hg }
  refine codeAny_mono ((F _ kinB (nsK hns)).run callerA [] s₁ H ⟨[.ref a], []⟩ [.ref a] [.ref a] _ _ rfl hr e0 (hbind s₁ (.ref a)) (.cons rfl .nil) hsp) fun r s' h => ?_
  match r, h with
  | .error e, h => exact (hCX H e s' h).elim
  | .ok (.ret u), h =>
    obtain ⟨v, H', os, bare, un, hok', r', q⟩ := h
    have q1 : v = .bl true := q
    rw [q1] at r'
    have q2 : u = Value.bool true := r'
    rw [q2]
    refine ⟨rfl, OldK.of_keep fun b o e => ?_, os, bare⟩
    match q3 : H b with
    | none => exact un.keep b o e q3 (fun z => nomatch z) (fun z => nomatch z)
    | some u =>
      rcases hO b with z | ⟨ob, xs, z⟩
      · rw [q3] at z
        exact nomatch z
      · have z1 := And.left (show ObjOk P w H s₁.heap b (.frz ob _) from hok b _ z)
        have z2 := And.left (show ObjOk P w H' s'.heap b (.frz ob _) from hok' b _ (un.frzs b ob _ z))
        rw [e] at z1
        rw [Option.some.inj z1]
        exact z2
theorem law_callG (KX : K.In s₁.heap) (hns : s₁.heap.Ns mainGlobals mg) (hb : s₁.heap.Ns builtinsNs mb) (hbb : ∀ x : Str, x ≠ "__name__" → mb x = bootBuiltins x) (hlim : s₁.heap.NoLimit) (hg : s₁.gens = #[])
    (ha : s₁.heap.get? a = some { cls := .type "list", data := .seq vs.toArray }) (hi : IntsAre vs ns) (hl : ns.length ≤ sizeLine) (hr : Room k callerA)
    (F : ∀ base : Heap, K.In base → base.Ns mainGlobals mg → FnG P w K mg base CX k fa fd [x] sp) (hbind : ∀ (s : Shared) (u : Value), BindsTo s fd ⟨[u], []⟩ [(x, u)])
    (hsp : ∀ H : Hp, Only H → SqL K H a (ns.map V.int) → sp [.ref a] H (fun v _ => v = .bl true) fun _ _ _ => False)
    (hCX : ∀ H e s', CX [] H s₁ (fun _ _ _ => False) e s' → False) :
    codeAny (model P w) callerA (.call (.ref fa) ⟨[.ref a], []⟩) (fun r s' => r = .ok (.ret (.bool true)) ∧ OldK s₁.heap s'.heap ∧ s'.os = s₁.os ∧ AllBare s'.gens) s₁ := by
  have rv := vals_ints hi
  match hk : K.lookup a with
  | some o =>
    have e : o = { cls := .type "list", data := .seq vs.toArray } := Option.some.inj ((KX a o hk).symm.trans ha)
    have hn : Only (fun _ => none) := fun _ => Or.inl rfl
    have sq : SqL K (fun _ => none) a (ns.map V.int) := by
      refine Or.inr ⟨_, vs.toArray, _, (by rw [hk, e]), rfl, rfl, rfl, ?_, by simpa using rv⟩
      rw [List.size_toArray, hi.length]
      exact hl
    exact core_callG KX hns hb hbb hlim hg ha hr F hbind hCX (fun _ => none) hn (hsp _ hn sq) (fun b u z => nomatch z) (fun b z => absurd rfl z) (fun z => absurd rfl z)
  | none =>
    have he : ∀ {b : Addr} {u : HO}, upd (fun _ => none) a (.frz { cls := .type "list", data := .seq vs.toArray } (.lst (ns.map V.int))) b = some u → b = a := by
      intro b u z
      by_cases q : b = a
      · exact q
      · rw [upd_ne q] at z
        exact nomatch z
    have hn : Only (upd (fun _ => none) a (.frz { cls := .type "list", data := .seq vs.toArray } (.lst (ns.map V.int)))) := by
      intro b
      by_cases q : b = a
      · rw [q]
        exact Or.inr ⟨_, _, upd_same⟩
      · exact Or.inl (upd_ne q)
    refine core_callG KX hns hb hbb hlim hg ha hr F hbind hCX _ hn (hsp _ hn (Or.inl (Or.inr ⟨_, upd_same⟩))) (fun b u z => ?_) (fun b z => ?_) fun _ => hk
    · have eb := he z
      rw [eb, upd_same] at z
      rw [← Option.some.inj z, eb]
      refine ⟨ha, ?_, vs, _, rv, ha⟩
      rw [List.length_map]
      exact hl
    · match q : upd (fun _ => none) a (.frz { cls := .type "list", data := .seq vs.toArray } (.lst (ns.map V.int))) b with
      | none => exact absurd q z
      | some u => exact he q
end
theorem walk_ofG {l : PySem.W.OpenLaw} {n k : Nat} {q : Program} {loose : List Str} {XP : (Str → Option Value) → Heap → Prop} {YP : World → Heap → Prop} {d : DefRec} {K : Params → PySem.W.Frag} {sp : PySem.W.Frag → Sp} {x : Str}
    (hn : l.most = some n) (hn2 : n ≤ sizeLine) (hdf : d.params.defaults = []) (hr : Room k callerA)
    (hY : ∀ (w : World) (h : Heap), YP w h → (K w.params).In h)
    (F : ∀ (w : World) (mg : Str → Option Value) (fa : Addr) (h : Heap), (K w.params).In h → h.Ns mainGlobals mg → mg d.name = some (.ref fa) →
      ∃ fd : FuncData, (∀ (s : Shared) (u : Value), BindsTo s fd ⟨[u], []⟩ [(x, u)]) ∧
        ∀ base : Heap, (K w.params).In base → base.Ns mainGlobals mg → FnG l.prog w (K w.params) mg base CX0 k fa fd [x] (sp (K w.params)))
    (hsp : ∀ (K : PySem.W.Frag) (H : Hp) (a : Addr) (ns : List Int), ns.length ≤ n → SqL K H a (ns.map V.int) → sp K [.ref a] H (fun v _ => v = .bl true) fun _ _ _ => False) :
    PySem.W.WalkO q loose XP YP l.row.toRowW d [] (fun f vs => PySem.call f vs) := by
  refine Att.attach_call hn hdf fun w s₀ s₁ mg mb fa o pm cd doc a vs ns G Y ho hd hcd hmg hobj hints hlen hg => ?_
  have KX := hY w _ Y
  obtain ⟨fd, hb, hF⟩ := F w mg fa _ KX G.T.g hmg
  exact law_callG KX G.T.g G.T.b G.T.builtins G.T.nolimit hg hobj hints (Nat.le_trans hlen hn2) hr hF hb (fun H _ hS => hsp _ H a ns hlen hS) fun _ _ _ z => z

/-! ### repr and str of data -/
section
variable {X : Cx}
def rShow (K : PySem.W.Frag) : List V → Hp → VK → Prop := fun xs H Q => ∃ v d, xs = [v] ∧ Dp K H v d ∧ d.showable = true ∧ d.depth ≤ 60 ∧ d.shown.length ≤ sizeLine ∧ Q (.str d.shown) H
mutual
theorem noDict : ∀ {K : PySem.W.Frag} {H : Hp} {v : V} {d : PyData}, Dp K H v d → d.hasDict = false
  | _, _, _, _, .non => rfl
  | _, _, _, _, .bl _ => rfl
  | _, _, _, _, .int _ => rfl
  | _, _, _, _, .str _ => rfl
  | K, H, _, _, .lst (ds := ds) _ h => by
    show PyData.hasDictAll ds = false
    exact noDicts h
  | K, H, _, _, .tup (ds := ds) _ h => by
    show PyData.hasDictAll ds = false
    exact noDicts h
theorem noDicts : ∀ {K : PySem.W.Frag} {H : Hp} {vs : List V} {ds : List PyData}, DpAll K H vs ds → PyData.hasDictAll ds = false
  | _, _, _, _, .nil => rfl
  | _, _, _, _, .cons h1 h2 => by
    simp only [PyData.hasDictAll, noDict h1, noDicts h2, Bool.or_self]
end
theorem call_reprD (gd : X.A.guards = some []) (hu : X.A.units + 64 < cLine) : CallR X (.builtin "repr") (rShow X.K) := by
  intro pins s σ H xs us Q I r h
  obtain ⟨v, d, rfl, hd, hs, hdep, hz, q⟩ := h
  obtain ⟨u, rfl, rv⟩ := vals1 r
  have keep : ∀ (h' : Heap) (tk : Nat), (∀ b o, s.heap.get? b = some o → h'.get? b = some o) → Inv X pins σ H { s with heap := h', toks := tk } :=
    fun h' tk k => I.un (h' := h') (t' := tk) (Un.kept k) (I.hok.kept k)
  have fin : ∀ (h' : Heap) (t : Tok) (tk : Nat), (∀ b o, s.heap.get? b = some o → h'.get? b = some o) → EP X pins σ Q (.str d.shown t) { s with heap := h', toks := tk } :=
    fun h' t tk k => ⟨.str d.shown, H, keep h' tk k, ⟨t, rfl⟩, q⟩
  have viaRef : ∀ a : Addr, v = .ref a → wpAny (model X.prog X.w) X.A (call (.builtin "repr") [u]) (EP X pins σ Q) X.xe s := by
    intro a ev
    rw [ev] at rv hd
    have eu : u = Value.ref a := rv
    obtain ⟨as, rd⟩ := Dp.reads I d _ _ hd rv
    rw [eu] at rd ⊢
    exact repr_of_reads' rd hs (fun z => absurd ((noDict hd).symm.trans z) (fun c => nomatch c)) gd (by omega) (fun _ _ e => e) (fun h' t tk k => fin h' t tk k) hz
  cases hd with
  | non =>
    cases (show u = Value.none from rv)
    exact PySem.P.repr_of_none (fin s.heap _ _ fun _ _ e => e)
  | bl b =>
    cases (show u = Value.bool b from rv)
    exact PySem.P.repr_of_bool (fin s.heap _ _ fun _ _ e => e)
  | int i =>
    obtain ⟨t, eu⟩ := (show ∃ t, u = Value.int i t from rv)
    rw [eu]
    exact PySem.P.repr_of_int (by simpa [PyData.showable] using hs) (fin s.heap _ _ fun _ _ e => e)
  | str x =>
    obtain ⟨t, eu⟩ := (show ∃ t, u = Value.str x t from rv)
    rw [eu]
    exact PySem.P.repr_of_str (fin s.heap _ _ fun _ _ e => e) (by simpa only [PyData.shown] using hz)
  | @lst a _ _ _ _ => exact viaRef a rfl
  | @tup a _ _ _ _ => exact viaRef a rfl
end
end GL
set_option Elab.async false
set_option linter.all false
set_option maxRecDepth 100000
set_option maxHeartbeats 4000000
/-! Own errors below RunError: made by an __init__ that calls RunError.__init__ and keeps one field; raised, caught, asked. -/
namespace GL
open PySem PySem.Spec PyProof.Rows L2

/-- the base class of the package's errors: what RunError.__init__ is -/
structure BaseC (K : PySem.W.Frag) (mg : Str → Option Value) (R : Addr) : Prop where
  gR : mg "RunError" = some (.ref R)
  rd : ClX.CRead K R (.type "type")
  at_ : PySem.W.findCls K (.ref R) (.type "type") "__init__" = some (.val (.builtin "ValueError.__init__"))

section
variable {X : Cx} {e : Expr} {es : List Expr} {ta : TA} {p1 p2 pos : Pos}
theorem pe_rinit {pl : Sem Bool} {R : Addr} (B : BaseC X.K X.mg R) (hg : Gl X "RunError") (ha : PA X (e :: es) ta)
    (hc : eval (.Call (.Attribute (.Name "RunError" p1) "__init__" p2) (e :: es) [] pos) X.env = (do
      let ov ← eval (.Name "RunError" p1) X.env
      standAt p2.atName
      let (f, first) ← holding [ov] (getMethod ov "__init__" pl)
      callWith pos f first (backTo pos (starEach (e :: es) X.env)) (backToKw pos (keywordEach [] X.env))) := by rfl)
    (he : starEach (e :: es) X.env = (false, eval e X.env) :: starEach es X.env := by rfl) (hpl : (backTo pos (starEach es X.env)).any (·.1) = false := by rfl) :
    PE X (.Call (.Attribute (.Name "RunError" p1) "__init__" p2) (e :: es) [] pos) (tVeI X.K ta) := by
  refine ⟨fun pins s σ H Q I h => ?_⟩
  refine PySem.W.methodCall_KW (ld_glob I hg B.gR ?_ (by decide)) hc
  refine PySem.W.method_cls I.kIn B.rd.ga (PySem.W.cls_value I.kIn B.rd.rd B.at_ (by decide +kernel) ?_)
  show wpAny _ _ (callWith pos (Value.builtin "ValueError.__init__") [] (backTo pos (starEach (e :: es) X.env)) []) _ _ _
  refine PyProof.Rows.callWith_method1 (thn (ha.run pos pins _ σ H _ (I.tok _) h) fun us s1 hh => ?_) he hpl
  obtain ⟨vs, H1, I1, r1, a, C, ws, ev, hl, T, ea, q⟩ := hh
  rw [ev] at r1
  match us, r1 with
  | u0 :: ur, .cons ra rr =>
    have eu : u0 = Value.ref a := ra
    rw [eu]
    refine oinit_ok T I1 ea ?_ fun s' J => ⟨.non, H1, J, rfl, q⟩
    rw [← Paired.length rr, sizeLine_eq]
    omega
end

/-- what __init__(self, v) leaves: the error at a has its dict, with the field f -/
def spErr (C : Addr) (f : Str) : Sp := fun vs H Q _ => ∃ (a : Addr) (v : V), vs = [.ref a, v] ∧ H a = some (exo a C none) ∧
  ∀ dx, H dx = none → dx ≠ a → Q .non (upd (upd H dx (exd dx [(f, v)])) a (exo a C (some dx)))

/-- C(v), an error of the class at C with the field f -/
def tMkE (C : Addr) (f : Str) (ta : TA) : L2.St → Hp → XK → Prop := fun σ H Q => ta σ H fun vs H1 => ∃ v, vs = [v] ∧ ∀ d, H1 d = none → Q (.ref C) (some d) (upd H1 d (.xd [(f, v)]))

/-- the facts of one error class x with the field f: its place C, its __init__ -/
structure ErrC (P : Program) (w : World) (K : PySem.W.Frag) (mg : Str → Option Value) (base : Heap) (x f : Str) (C : Addr) : Prop where
  gC : mg x = some (.ref C)
  oex : OexC K C
  xf : XfC K C
  noF : PySem.W.findIn K (.ref C) f = some none
  te : PySem.W.exmOne K (.ref C) (.ref C) = some true
  ini : ∃ (fI : Addr) (fd : FuncData) (k : Nat) (p : Str), k = 1 ∧ PySem.W.findIn K (.ref C) "__init__" = some (some (.ref fI)) ∧ PySem.W.typeIn K (.ref fI) = some (.type "function") ∧ FnOk P w K mg base CX0 k fI fd ["self", p] (spErr C f) ∧ Binds K fd ["self", p] []


section
variable {X : Cx}
theorem heap_back {H1 : Hp} {a dx C : Addr} {f : Str} {v : V} (ha : H1 a = none) (hd : dx ≠ a) :
    upd (del (upd (upd (upd H1 a (exo a C none)) dx (exd dx [(f, v)])) a (exo a C (some dx))) a) dx (.xd [(f, v)]) = upd H1 dx (.xd [(f, v)]) := by
  funext b
  by_cases h1 : b = dx
  · rw [h1, upd_same, upd_same]
  · rw [upd_ne h1, upd_ne h1]
    by_cases h2 : b = a
    · rw [h2, del_same, ha]
    · rw [del_ne h2, upd_ne h2, upd_ne h1, upd_ne h2]
/-- a reading of arguments may be weakened -/
def MonoA (ta : TA) : Prop := ∀ σ H (Q Q' : List V → Hp → Prop), (∀ vs H', Q vs H' → Q' vs H') → ta σ H Q → ta σ H Q'
def MonoE (te : TE) : Prop := ∀ σ H (Q Q' : VK), (∀ v H', Q v H' → Q' v H') → te σ H Q → te σ H Q'
theorem mono1 {te : TE} (m : MonoE te) : MonoA (tCons te tNil) := fun σ H Q Q' h z => m σ H _ _ (fun v H' q => h _ _ q) z
theorem mono_var (i : Nat) : MonoE (tVar i) := fun _ _ _ _ h ⟨v, e, q⟩ => ⟨v, e, h _ _ q⟩
theorem mono_c (v : V) : MonoE (tC v) := fun _ _ _ _ h q => h _ _ q
theorem pmk_err {x f : Str} {C : Addr} {e : Expr} {ta : TA} {p pos : Pos} (T : ErrC X.prog X.w X.K X.mg X.base x f C) (hr : Room 2 X.A) (hg : Gl X x) (m : MonoA ta) (ha : PA X [e] ta) (hdb : (x == ("__debug__" : Str)) = false := by decide)
    (he : starEach [e] X.env = (false, eval e X.env) :: starEach [] X.env := by rfl) (hpl : (backTo pos (starEach [] X.env)).any (·.1) = false := by rfl) :
    PMk X (.Call (.Name x p) [e] [] pos) (tMkE C f ta) := by
  obtain ⟨fI, fd, k, pn, hk, iC, tI, F, hb⟩ := T.ini
  subst hk
  intro pins s σ H Q I h
  refine pmk_oex (dvs := []) (ds := []) T.oex iC tI F hr hb .nil pass0 hg T.gC ha hdb he hpl pins s σ H Q I ?_
  refine m σ H _ _ (fun vs H1 hh => ?_) h
  obtain ⟨v, ev, q⟩ := hh
  rw [ev]
  refine ⟨by show 1 ≤ 1000; decide, fun a hn => ⟨a, v, rfl, upd_same, fun dx hd hda => ⟨rfl, dx, [(f, v)], upd_same, ?_, ?_, ?_⟩⟩⟩
  · rw [upd_ne hda, upd_same]
  · rw [upd_ne hda] at hd
    exact hd
  · rw [heap_back hn hda]
    rw [upd_ne hda] at hd
    exact q dx hd
def tRaiseE (C : Addr) (f : Str) (W : WX) (ta : TA) : TS := fun _ σ H => tMkE C f ta σ H fun cls d H' => W cls d σ H'
/-- raise C(e) -/
theorem ps_raiseE {x f : Str} {C : Addr} {e : Expr} {ta : TA} {W : WX} {p pos pos2 : Pos} (hc : X.calm = true) (T : ErrC X.prog X.w X.K X.mg X.base x f C) (hr : Room 2 X.A) (tk : Takes X W) (hg : Gl X x) (m : MonoA ta) (ha : PA X [e] ta) (hdb : (x == ("__debug__" : Str)) = false := by decide)
    (he : starEach [e] X.env = (false, eval e X.env) :: starEach [] X.env := by rfl) (hpl : (backTo pos (starEach [] X.env)).any (·.1) = false := by rfl) :
    PS X (.Raise (some (.Call (.Name x p) [e] [] pos)) none pos2) (tRaiseE C f W ta) := ps_raise hc tk (pmk_err T hr hg m ha hdb he hpl)
end

/-! ### isinstance of a caught error that has fields -/
section
open PySem.W
variable {prog : Program} {w : World} {A : Around} {E : Value → Shared → Prop} {s : Shared} {K : Frag} {x D : Addr} {ox : Obj} {od : Option Obj}
theorem findObj_dsc {C : Addr} {name : Str} {a g : Value} (hc : (clsIn K C).isSome = true) (ha : findIn K (.ref C) name = some (some a)) (hg : specialIn K a "__get__" = some (some g)) (ht : takesIn K a = some true) : findObj K C od name = some (.bind g a) := by
  obtain ⟨cd, hc⟩ := Option.isSome_iff_exists.mp hc
  unfold findObj; rw [hc, Option.bind_some, ha, Option.bind_some]; simp [hg, ht]
theorem class_look {Q : Option Value → Shared → Prop} (T : L2.ExcC K D) (X : K.In s.heap) (I : InstAt s.heap x ox D od) (h : Q (some (.ref D)) { s with toks := s.toks + 1 }) : wpAny (model prog w) A (getAttr? (.ref x) "__class__") Q E s := by
  have hf : findObj K D od "__class__" = some (.bind (.builtin "getset_descriptor.__get__") (.builtin "object.__class__")) := by
    refine findObj_dsc ?_ T.ha T.hn T.ht
    obtain ⟨cd, hc, _⟩ := any_some T.hd; rw [hc]; rfl
  obtain ⟨hp, g, d, t, os⟩ := s
  have l0 := I.type (M := model prog w)
  have l1 := looks_findIn (M := model prog w) X T.hg
  have l2 := looks_findIn (M := model prog w) X T.hk
  have l3 := looks_find (M := model prog w) X I hf
  have sub : Looks (model prog w) hp (isInstance (.ref x) (.type "BaseException")) true := l0.andThen (looks_subIn X T.hs)
  have hx2 : (Value.builtin "BaseException.__getattribute__" == Value.builtin "object.__getattribute__") = false := by decide +kernel
  have hx1 : (onTheHeap (Value.ref D) && Value.builtin "BaseException.__getattribute__" == Value.builtin "object.__getattribute__") = false := (congrArg (onTheHeap (Value.ref D) && ·) hx2).trans rfl
  unfold getAttr? getAttrBy? getAttrBy; refine wpAny_bind (wpAny_mkText (wpAny_bind (wpAny_attempt (wpAny_holding (wpAny_bind (l0.at (wpAny_bind (l1.at ?_))))))))
  show wpAny _ _ (if (onTheHeap (Value.ref D) && Value.builtin "BaseException.__getattribute__" == Value.builtin "object.__getattribute__") = true then _ else _) _ _ _; rw [hx1, if_neg Bool.false_ne_true]
  unfold getAttrByItsOwn hookBefore; refine wpAny_bind ?_; rw [if_pos (show onTheHeap (Value.ref D) = true from rfl)]; refine l2.at ?_; refine wpAny_bind (wpAny_attempt (wpAny_holding ?_))
  unfold callGetattribute; rw [show (false && onTheHeap (Value.builtin "BaseException.__getattribute__")) = false from rfl, if_neg Bool.false_ne_true]
  unfold boundAndCalled; rw [PySem.F.excAttr_ValueError.ga.bind (.ref x)]; refine wpAny_bind (wpAny_pure ?_)
  show wpAny _ _ (call (.builtin "BaseException.__getattribute__") [.ref x, .str "__class__" t]) _ _ _; refine wpAny_call (codeAny_call_builtin PySem.F.excAttr_ValueError.ga.plain PySem.F.entry_bexc_ga ?_)
  refine @check_slot (model prog w) _ _ ⟨hp, g, d, t + 1, os⟩ "BaseException.__getattribute__" "BaseException" "__getattribute__" (.ref x) [.str "__class__" t] [] _ (by decide +kernel) (by decide +kernel) sub (PySem.F.args_bexc_ga (.ref x) (.str "__class__" t)) (?_)
  unfold Builtin.«object.__getattribute__»; refine wpAny_bind (wpAny_of_eq (a := ((Value.ref x : Value), [Value.str "__class__" t])) (by first | rfl | (simp only [slotArgs]; rfl)) ?_)
  refine wpAny_bind (wpAny_pure (wpAny_bind (l0.at (wpAny_bind (l3.at ?_)))))
  show wpAny _ _ (holding [Value.builtin "object.__class__"] (call (.builtin "getset_descriptor.__get__") [.builtin "object.__class__", .ref x, .ref D]) >>= ret) _ _ _; refine wpAny_bind (wpAny_holding (wpAny_call (class_get (s := ⟨hp, g, d, t + 1, os⟩) (ox := ox) (od := od) X I T.hm ?_)))
  refine wpAny_pure ?_; show wpAny _ _ (handedOut (.ref D)) _ _ _; rw [handedOut_of (v := .ref D) rfl]
  first | exact wpAny_pure (wpAny_pure h) | exact wpAny_pure h | exact wpAny_pure (wpAny_bind (wpAny_pure (wpAny_pure h)))
theorem kitx_err (T : L2.ExcC K D) : KitX K (.ref x) (.ref D) (fun h => ∃ ox od, InstAt h x ox D od) where
  ty := fun _ _ _ ⟨_, _, I⟩ => I.type
  it := fun _ _ X _ => by
    obtain ⟨cdD, hcD, _⟩ := any_some T.hd
    unfold clsIn at hcD
    split at hcD
    · rename_i c' d' cd' sl' ho
      intro A' Q' E' s' k q
      unfold isType loadHead; exact wpAny_bind (wpAny_loadPart (k _ _ (X _ _ ho)) (wpAny_pure q))
    · cases hcD
  ne := fun h tp dd its n sl X htp => by
    obtain ⟨cdD, hcD, _⟩ := any_some T.hd
    refine Bool.eq_false_iff.mpr fun q => ?_
    have e : D = tp := Value.ref.inj (beq_iff_eq.mp q)
    subst e
    unfold clsIn at hcD
    split at hcD
    · rename_i c' d' cd' sl' ho
      exact nomatch (X _ _ ho).symm.trans htp
    · cases hcD
  ca := fun X ⟨_, _, I⟩ k => class_look T X I k
end
/-- isinstance(e, c), e the caught error of the class at D, its dict at d if it has one -/
def rIsX (K : PySem.W.Frag) (D a : Addr) (cls : Value) (d : Option Addr) : List V → Hp → VK → Prop := fun xs H Q => cls = .ref D ∧ ∃ (c : V) (cv : Value) (b : Bool), xs = [.ref a, c] ∧ (∀ u, RelV c u → u = cv) ∧ (∀ dd, d = some dd → ∃ fs, H dd = some (.xd fs)) ∧ PySem.W.kitOne K (.ref D) cv = some b ∧ Q (.bl b) H
theorem call_isX {X : Cx} {a D : Addr} {oe : Obj} {cls : Value} {d : Option Addr} {pn : List (Addr × Obj)} (T : L2.ExcC X.K D) (hz : Zc cls d oe) (hf : ∃ vs, oe.data = .fields vs) : CallR (X.suite a ((a, oe) :: pn)) (.builtin "isinstance") (rIsX X.K D a cls d) := by
  intro pins s σ H xs us Q I r h
  obtain ⟨ec, c, cv, b, rfl, hcv, hdd, e, q⟩ := h
  subst ec
  match us, r with
  | [_, u2], .cons rx (.cons rt .nil) =>
    have e1 := hcv _ rt
    have e2 := rx
    subst e1
    cases e2
    have hget := (I.pin (a, oe) (List.mem_append.mpr (.inl List.mem_cons_self))).1
    obtain ⟨vs, hv⟩ := hf
    have J : ∃ ox od, PySem.W.InstAt s.heap a ox D od := by
      match d, hz, hdd with
      | none, hz, _ => exact ⟨oe, none, hget, hz.1, (by unfold PySem.W.notCls; rw [hv] <;> rfl), by rw [hz.2]; trivial⟩
      | some dd, hz, hdd =>
        obtain ⟨fs, hx⟩ := hdd dd rfl
        obtain ⟨mA, ⟨o, _, _, ho, _⟩, _⟩ := (show ObjOk X.prog X.w H s.heap dd (.xd fs) from I.hok dd _ hx)
        exact ⟨oe, some o, hget, hz.1, (by unfold PySem.W.notCls; rw [hv] <;> rfl), by rw [hz.2]; exact ho⟩
    exact PySem.W.kia_one (kitx_err T) I.kIn J e (fun z => nomatch z) fun tk => ⟨.bl b, H, I.kept (t' := tk) fun _ _ z => z, rfl, q⟩
end GL
namespace GL
open PySem PySem.Spec PyProof.Rows L2
/-! ### a def by its name: where it stands, what it promises -/
def Fx (P : Program) (w : World) (K : PySem.W.Frag) (mg : Str → Option Value) (base : Heap) (CX : CXT) (k : Nat) (x : Str) (ps : List Str) (sp : Sp) : Prop :=
  ∃ (f : Addr) (fd : FuncData), FnOk P w K mg base CX k f fd ps sp ∧ mg x = some (.ref f) ∧ PySem.W.keepIn K (.ref f) = true ∧ Binds K fd ps []
def FxG (P : Program) (w : World) (K : PySem.W.Frag) (mg : Str → Option Value) (base : Heap) (CX : CXT) (k : Nat) (x : Str) (ps : List Str) (sp : Sp) : Prop :=
  ∃ (f : Addr) (fd : FuncData), FnG P w K mg base CX k f fd ps sp ∧ mg x = some (.ref f) ∧ PySem.W.keepIn K (.ref f) = true ∧ Binds K fd ps []
section
variable {X : Cx} {CX : CXT} {k : Nat} {ps : List Str} {sp : Sp} {E : XK} {x : Str} {p pos : Pos} {e : Expr} {es : List Expr} {t : TA}
theorem pe_callF (F : Fx X.prog X.w X.K X.mg X.base CX k x ps sp) (hr : Room k X.A) (hg : Gl X x) (hx : Passes CX X E) (ha : PA X (e :: es) t) (hdb : (x == ("__debug__" : Str)) = false := by decide)
    (he : starEach (e :: es) X.env = (false, eval e X.env) :: starEach es X.env := by rfl) (hpl : (backTo pos (starEach es X.env)).any (·.1) = false := by rfl) :
    PE X (.Call (.Name x p) (e :: es) [] pos) (tCall sp [] E t) := by
  obtain ⟨f, fd, G, gm, kp, b⟩ := F
  exact pe_call G hr hg gm kp b .nil hx ha hdb he hpl
theorem pe_callF0 (F : Fx X.prog X.w X.K X.mg X.base CX k x ps sp) (hr : Room k X.A) (hg : Gl X x) (hx : Passes CX X E) (hdb : (x == ("__debug__" : Str)) = false := by decide) : PE X (.Call (.Name x p) [] [] pos) (tCall sp [] E tNil) := by
  obtain ⟨f, fd, G, gm, kp, b⟩ := F
  exact pe_call0 G hr hg gm kp b .nil hx hdb
theorem pe_callFG (F : FxG X.prog X.w X.K X.mg X.base CX k x ps sp) (gd : X.A.guards = some []) (hr : Room k X.A) (hg : Gl X x) (hx : Passes CX X E) (ha : PA X (e :: es) t) (hdb : (x == ("__debug__" : Str)) = false := by decide)
    (he : starEach (e :: es) X.env = (false, eval e X.env) :: starEach es X.env := by rfl) (hpl : (backTo pos (starEach es X.env)).any (·.1) = false := by rfl) :
    PE X (.Call (.Name x p) (e :: es) [] pos) (tCall sp [] E t) := by
  obtain ⟨f, fd, G, gm, kp, b⟩ := F
  exact pe_callG G gd hr hg gm kp b .nil hx ha hdb he hpl
theorem pe_callFS {E : L2.St → XK} (F : Fx X.prog X.w X.K X.mg X.base CX k x ps sp) (hr : Room k X.A) (hg : Gl X x) (hx : ∀ σ, PassesAt CX X σ (E σ)) (ha : PA X (e :: es) t) (hdb : (x == ("__debug__" : Str)) = false := by decide)
    (he : starEach (e :: es) X.env = (false, eval e X.env) :: starEach es X.env := by rfl) (hpl : (backTo pos (starEach es X.env)).any (·.1) = false := by rfl) :
    PE X (.Call (.Name x p) (e :: es) [] pos) (tCallS sp E t) := by
  obtain ⟨f, fd, G, gm, kp, b⟩ := F
  exact pe_callS G hr hg gm kp b hx ha hdb he hpl
end
end GL
set_option Elab.async false
set_option linter.all false
set_option maxRecDepth 100000
set_option maxHeartbeats 4000000
/-! Data: what a value stands for, kept where the heap grows; types of data. -/
namespace GL
open PySem PySem.Spec L2
theorem same_t {K : PySem.W.Frag} {H H' : Hp} {a : Addr} {xs : List V} (e : Same H H') (h : SqT K H a xs) : SqT K H' a xs := by
  rcases h with (h | ⟨o, h⟩) | h
  · exact Or.inl (Or.inl (e _ _ h))
  · exact Or.inl (Or.inr ⟨o, e _ _ h⟩)
  · exact Or.inr h
theorem same_new {H : Hp} {p : Addr} {o : HO} (h : H p = none) : Same H (upd H p o) := fun b u e => by
  rw [upd_ne (ne_of_none e h)]; exact e
mutual
theorem dp_mono {K : PySem.W.Frag} {H H' : Hp} (s : Same H H') : ∀ {v : V} {d : PyData}, Dp K H v d → Dp K H' v d
  | _, _, .non => .non
  | _, _, .bl b => .bl b
  | _, _, .int i => .int i
  | _, _, .str x => .str x
  | _, _, .lst h a => .lst (s.seq h) (dps_mono s a)
  | _, _, .tup h a => .tup (same_t s h) (dps_mono s a)
theorem dps_mono {K : PySem.W.Frag} {H H' : Hp} (s : Same H H') : ∀ {vs : List V} {ds : List PyData}, DpAll K H vs ds → DpAll K H' vs ds
  | _, _, .nil => .nil
  | _, _, .cons h a => .cons (dp_mono s h) (dps_mono s a)
end
theorem dps_strs {K : PySem.W.Frag} {H : Hp} : ∀ xs : List Str, DpAll K H (xs.map V.str) (xs.map PyData.str)
  | [] => .nil
  | x :: r => .cons (.str x) (dps_strs r)
theorem dps_bools {K : PySem.W.Frag} {H : Hp} : ∀ xs : List Bool, DpAll K H (xs.map V.bl) (xs.map PyData.bool)
  | [] => .nil
  | x :: r => .cons (.bl x) (dps_bools r)
theorem dps_ints {K : PySem.W.Frag} {H : Hp} : ∀ xs : List Int, DpAll K H (xs.map V.int) (xs.map PyData.int)
  | [] => .nil
  | x :: r => .cons (.int x) (dps_ints r)
theorem dp_tup {K : PySem.W.Frag} {H : Hp} {a : Addr} {xs : List V} {ds : List PyData} (h : H a = some (.tup xs)) (k : DpAll K H xs ds) : Dp K H (.ref a) (.tuple ds) := .tup (.inl (.inl h)) k
theorem dp_lst {K : PySem.W.Frag} {H : Hp} {a : Addr} {xs : List V} {ds : List PyData} (h : H a = some (.lst xs)) (k : DpAll K H xs ds) : Dp K H (.ref a) (.list ds) := .lst (.inl (.inl h)) k
def isN : PyData → Bool
  | .none => true
  | _ => false
theorem dp_non {K : PySem.W.Frag} {H : Hp} {v : V} {d : PyData} (h : Dp K H v d) : decide (v = .non) = isN d := by
  cases h <;> simp [isN]
/-- the built-in class of a datum -/
def tyD : PyData → String
  | .none => "NoneType" | .bool _ => "bool" | .int _ => "int" | .str _ => "str" | .list _ => "list" | .tuple _ => "tuple" | .dict _ => "dict"
theorem ty_dp {K : PySem.W.Frag} {H : Hp} {v : V} {d : PyData} : Dp K H v d → TyX K H v (.type (tyD d))
  | .non => .base .non
  | .bl b => .base (.bl b)
  | .int i => .base (.int i)
  | .str x => .base (.str x)
  | .lst (.inl (.inl h)) _ => .base (.lst h)
  | .lst (.inl (.inr ⟨_, h⟩)) _ => .base (.frz h)
  | .lst (.inr ⟨_, _, _, h, c, _⟩) _ => .kList h c
  | .tup (.inl (.inl h)) _ => .base (.tup h)
  | .tup (.inl (.inr ⟨_, h⟩)) _ => .fTuple h
  | .tup (.inr ⟨_, _, _, h, c, _⟩) _ => .kTuple h c
/-- isinstance of a datum against a built-in class -/
theorem kit_d {K : PySem.W.Frag} {d : PyData} {n : String} {b : Bool} (h : kitB (tyD d) n = some b) : PySem.W.kitOne K (.type (tyD d)) (.type n) = some b := kit_ty h
def isStr : PyData → Bool
  | .str _ => true
  | _ => false
theorem kit_str {K : PySem.W.Frag} (d : PyData) : PySem.W.kitOne K (.type (tyD d)) (.type "str") = some (isStr d) := by
  refine kit_ty ?_
  cases d with
  | none => show kitB "NoneType" "str" = some false; decide +kernel
  | bool b => show kitB "bool" "str" = some false; decide +kernel
  | int i => show kitB "int" "str" = some false; decide +kernel
  | str x => show kitB "str" "str" = some true; decide +kernel
  | list xs => show kitB "list" "str" = some false; decide +kernel
  | tuple xs => show kitB "tuple" "str" = some false; decide +kernel
  | dict xs => show kitB "dict" "str" = some false; decide +kernel
/-- a datum is handed back -/
def RetD (K : PySem.W.Frag) (H : Hp) (d : PyData) (Q : VK) : Prop := ∀ (H' : Hp) (v : V), Same H H' → Dp K H' v d → Q v H'
/-! ### comprehensions whose turns make nothing -/
theorem in_strs (x : Str) : ∀ xs : List Str, inV (.str x) (xs.map V.str) = xs.contains x
  | [] => rfl
  | y :: r => by
    have h := in_strs x r
    show (eqV (.str y) (.str x) || inV (.str x) (r.map V.str)) = (y :: r).contains x
    rw [h, List.contains_cons]
    show ((y == x) || _) = ((x == y) || _)
    congr 1
    by_cases e : y = x
    · subst e; rfl
    · rw [beq_eq_false_iff_ne.mpr e, beq_eq_false_iff_ne.mpr (Ne.symm e)]
theorem flat_strs : ∀ xs : List Str, (xs.map V.str).all flatV = true
  | [] => rfl
  | _ :: r => by
    show (true && (r.map V.str).all flatV) = true
    rw [flat_strs r]; rfl
theorem take_map_succ {α β : Type} (v : α → β) {xs : List α} {i : Nat} {c : α} (h : xs[i]? = some c) : (xs.take (i + 1)).map v = (xs.take i).map v ++ [v c] := by
  rw [List.take_add_one, h, List.map_append]; rfl
/-- [e for c in x], x a text -/
theorem lc_str {te te2 : TE} {j : Nat} {σ : L2.St} {H : Hp} {Q : VK} {x : Str} (v : Nat → V) (hz : x.length < sizeLine) (hx : ∀ R : VK, R (.str x) H → te σ H R)
    (hw : ∀ y, wipe ((wipe σ [j]).set j (some y)) [j] = wipe σ [j]) (he : ∀ (c : Nat) (H' : Hp) (R : VK), R (v c) H' → te2 ((wipe σ [j]).set j (some (.str ⟨#[c]⟩))) H' R)
    (q : ∀ D, H D = none → Q (.ref D) (upd H D (.lst (x.cps.toList.map v)))) : tLc (iStr te) (gName j) tYes te2 [j] σ H Q := by
  refine hx _ ⟨x, rfl, fun D hD => ⟨fun i m H' => i + m = x.cps.toList.length ∧ H' = upd H D (.lst ((x.cps.toList.take i).map v)), ⟨_, Nat.zero_add _, rfl⟩, fun i m H' hW => ?_⟩⟩
  obtain ⟨him, rfl⟩ := hW
  have el : x.cps.toList.length = x.cps.size := Array.length_toList
  by_cases hi : i < x.cps.toList.length
  · refine .inr ⟨by show i < x.cps.size; omega, fun H' => H' = upd H D (.lst ((x.cps.toList.take (i + 1)).map v)), fun H' e => ⟨m - 1, by omega, by omega, e⟩, fun y H' hy => ?_⟩
    obtain ⟨rfl, c, hc, rfl⟩ := hy
    refine ⟨hw _, ?_⟩
    show te2 _ _ _
    refine he c _ _ ⟨_, upd_same, ?_, ?_⟩
    · rw [List.length_map, List.length_take]
      have h1 : x.cps.toList.length = x.length := el
      omega
    · have hc' : x.cps.toList[i]? = some c := by rw [Array.getElem?_toList]; exact hc
      show upd _ _ _ = _
      rw [upd_upd, take_map_succ v hc']
  · refine .inl ⟨by show x.cps.size ≤ i; omega, ?_⟩
    rw [List.take_of_length_le (by omega)]
    exact q D hD
/-- for c in x, x a text -/
theorem for_str {x : Str} {g : TG} {tb : TS} {D : Ends} {σ : L2.St} {H : Hp} (Pv : Nat → L2.St → Hp → Prop) (h0 : Pv 0 σ H)
    (hs : ∀ i c σ H, x.cps.toList[i]? = some c → Pv i σ H → g (.str ⟨#[c]⟩) σ H fun σ2 H2 => tb { D with nx := Pv (i + 1), ct := Pv (i + 1), bk := D.nx } σ2 H2) (hd : ∀ σ H, Pv x.cps.toList.length σ H → D.nx σ H) :
    ∃ W : Nat → Nat → L2.St → Hp → Prop, (∃ m, W 0 m σ H) ∧ ∀ i m σ H, W i m σ H →
      ((Its x).stop i H ∧ D.nx σ H) ∨ ((Its x).go i H ∧ ∃ N : L2.St → Hp → Prop, (∀ σ' H', N σ' H' → ∃ m', m' < m ∧ W (i + 1) m' σ' H') ∧ ∀ y H', (Its x).yld i H y H' → g y σ H' fun σ2 H2 => tb { D with nx := N, ct := N, bk := D.nx } σ2 H2) := by
  have el : x.cps.toList.length = x.cps.size := Array.length_toList
  refine ⟨fun i m σ H => i + m = x.cps.toList.length ∧ Pv i σ H, ⟨_, Nat.zero_add _, h0⟩, ?_⟩
  rintro i m σ H ⟨him, p⟩
  by_cases hi : i < x.cps.toList.length
  · refine .inr ⟨by show i < x.cps.size; omega, Pv (i + 1), fun σ' H' p' => ⟨m - 1, by omega, by omega, p'⟩, fun y H' hy => ?_⟩
    obtain ⟨rfl, c, hc, rfl⟩ := hy
    exact hs i c σ _ (by rw [Array.getElem?_toList]; exact hc) p
  · refine .inl ⟨by show x.cps.size ≤ i; omega, hd σ H ?_⟩
    have e : i = x.cps.toList.length := by omega
    rw [← e]
    exact p
theorem atI0 {α : Type} {x : α} {r : List α} : atI (x :: r) 0 = some x := atI_nat (j := 0) rfl
theorem atI1 {α : Type} {x y : α} {r : List α} : atI (x :: y :: r) 1 = some y := atI_nat (j := 1) rfl
theorem atI2 {α : Type} {x y z : α} {r : List α} : atI (x :: y :: z :: r) 2 = some z := atI_nat (j := 2) rfl
theorem decS (x y : Str) : decide (V.str x = V.str y) = decide (x = y) := by
  by_cases z : x = y
  · rw [decide_eq_true z, decide_eq_true (congrArg V.str z)]
  · rw [decide_eq_false z, decide_eq_false fun h => z (V.str.inj h)]
theorem decI (x y : Int) : decide (V.int x = V.int y) = decide (x = y) := by
  by_cases z : x = y
  · rw [decide_eq_true z, decide_eq_true (congrArg V.int z)]
  · rw [decide_eq_false z, decide_eq_false fun h => z (V.int.inj h)]
/-- isinstance of an instance of C against an own class R above it -/
theorem kit_sub {K : PySem.W.Frag} {C R : Addr} (h1 : PySem.W.isClsIn K R = true) (h2 : PySem.W.typeIn K (.ref R) = some (.type "type")) (h3 : PySem.W.subIn K (.ref C) (.ref R) = some true) : PySem.W.kitOne K (.ref C) (.ref R) = some true := by
  have e : ((PySem.W.clsIn K R).isSome && PySem.W.typeIn K (.ref R) == some (.type "type")) = true := by
    rw [show (PySem.W.clsIn K R).isSome = true from h1, h2]; rfl
  unfold PySem.W.kitOne
  split
  · rfl
  · show (if ((PySem.W.clsIn K R).isSome && PySem.W.typeIn K (.ref R) == some (.type "type")) = true then PySem.W.subIn K (.ref C) (.ref R) else none) = some true
    rw [if_pos e, h3]
theorem le_sum_mem : ∀ {l : List Nat} {n : Nat}, n ∈ l → n ≤ l.sum
  | x :: r, n, h => by
    rw [List.sum_cons]
    rcases List.mem_cons.mp h with e | e
    · omega
    · have := le_sum_mem e
      omega
theorem part_len {z a : Str} {y : Str} (hy : 1 ≤ y.length) (h : a ∈ Txt.split z y) : a.length ≤ z.length + 1 := by
  have h1 := PyProof.Rows.split_weight z y hy
  have h2 : a.length ≤ ((Txt.split z y).map (·.length)).sum := le_sum_mem (List.mem_map_of_mem h)
  omega
theorem atI_mem {α : Type} {xs : List α} {v : Int} (h0 : 0 ≤ v) (h1 : v < xs.length) : ∃ x, x ∈ xs ∧ atI xs v = some x := by
  obtain ⟨n, rfl⟩ := Int.eq_ofNat_of_zero_le h0
  have hn : n < xs.length := by omega
  exact ⟨xs[n], List.getElem_mem hn, atI_nat (List.getElem?_eq_getElem hn)⟩
/-- a short text of plain signs -/
def Small (n : Nat) (z : Str) : Prop := z.length ≤ n ∧ ∀ ch ∈ z.cps.toList, ch < 128
instance (n : Nat) (z : Str) : Decidable (Small n z) := inferInstanceAs (Decidable (_ ∧ _))
theorem Small.mono {n m : Nat} {z : Str} (h : Small n z) (e : n ≤ m) : Small m z := ⟨Nat.le_trans h.1 e, h.2⟩
theorem Small.append {n m : Nat} {x y : Str} (h : Small n x) (k : Small m y) : Small (n + m) (x ++ y) := by
  refine ⟨by rw [Str.length_append]; exact Nat.add_le_add h.1 k.1, fun c hc => ?_⟩
  rw [PyProof.Rows.cps_toList_append] at hc
  rcases List.mem_append.mp hc with z | z
  · exact h.2 c z
  · exact k.2 c z
theorem small_join {n : Nat} {sep : Str} (hs : Small 1 sep) : ∀ {xs : List Str}, (∀ x ∈ xs, Small n x) → Small (xs.length * (n + 1)) (Txt.join sep xs) := by
  intro xs h
  have e : Txt.join sep xs = Str.join sep xs := StrLaws.glued_eq_join sep xs
  rw [e]
  clear e
  induction xs with
  | nil => exact ⟨Nat.zero_le _, (by decide : ∀ ch ∈ Str.empty.cps.toList, ch < 128)⟩
  | cons x r ih =>
    cases r with
    | nil => exact (h x List.mem_cons_self).mono (by simp)
    | cons y r =>
      have h1 := h x List.mem_cons_self
      have h2 := ih fun z hz => h z (List.mem_cons_of_mem _ hz)
      refine ((h1.append hs).append h2).mono ?_
      simp only [List.length_cons, Nat.succ_mul]
      omega
def Nice (d : PyData) : Prop := d.showable = true ∧ d.depth ≤ 60 ∧ d.leavesShort 13 = true ∧ d.weight ≤ 2 ^ 20
theorem Nice.fits {d : PyData} (h : Nice d) : d.shown.length ≤ sizeLine := PyData.shown_fits (by decide) (by decide) h.2.2.1 h.2.2.2
theorem nice_str {n : Nat} {z : Str} (h : Small n z) (hn : n ≤ 1000) : Nice (.str z) := by
  refine ⟨rfl, by show 0 ≤ 60; decide, ?_, ?_⟩
  · simp only [PyData.leavesShort, List.all_eq_true, decide_eq_true_eq]
    exact fun c hc => Nat.lt_trans (h.2 c hc) (by decide)
  · show z.cps.size ≤ 2 ^ 20
    have h1 : z.cps.size ≤ n := h.1
    have e : (2 : Nat) ^ 20 = 1048576 := by decide
    omega
theorem strs_show : ∀ ns : List Str, PyData.showableAll (ns.map PyData.str) = true
  | [] => rfl
  | x :: r => by
    show (true && PyData.showableAll (r.map PyData.str)) = true
    rw [strs_show r]; rfl
theorem bools_show : ∀ ns : List Bool, PyData.showableAll (ns.map PyData.bool) = true
  | [] => rfl
  | x :: r => by
    show (true && PyData.showableAll (r.map PyData.bool)) = true
    rw [bools_show r]; rfl
theorem strs_depth : ∀ ns : List Str, PyData.depthAll (ns.map PyData.str) = 0
  | [] => rfl
  | x :: r => by
    show max 0 (PyData.depthAll (r.map PyData.str)) = 0
    rw [strs_depth r]; rfl
theorem bools_depth : ∀ ns : List Bool, PyData.depthAll (ns.map PyData.bool) = 0
  | [] => rfl
  | x :: r => by
    show max 0 (PyData.depthAll (r.map PyData.bool)) = 0
    rw [bools_depth r]; rfl
theorem bools_short (B : Nat) : ∀ ns : List Bool, PyData.leavesShortAll B (ns.map PyData.bool) = true
  | [] => rfl
  | x :: r => by
    show (true && PyData.leavesShortAll B (r.map PyData.bool)) = true
    rw [bools_short B r]; rfl
theorem bools_weight : ∀ ns : List Bool, PyData.weightAll (ns.map PyData.bool) = ns.length
  | [] => rfl
  | x :: r => by
    show 0 + 1 + PyData.weightAll (r.map PyData.bool) = r.length + 1
    rw [bools_weight r]; omega
theorem strs_weight : ∀ ns : List Str, PyData.weightAll (ns.map PyData.str) = (ns.map (·.length)).sum + ns.length
  | [] => rfl
  | x :: r => by
    show x.cps.size + 1 + PyData.weightAll (r.map PyData.str) = (x.length :: r.map (·.length)).sum + (r.length + 1)
    rw [strs_weight r, List.sum_cons]
    show x.length + 1 + _ = _
    omega
theorem strs_short {B n : Nat} : ∀ {ns : List Str}, (∀ x ∈ ns, ∀ c ∈ x.cps.toList, c < 128) → PyData.leavesShortAll B (ns.map PyData.str) = true
  | [], _ => rfl
  | x :: r, h => by
    show ((x.cps.toList.all fun c => decide (c < 16 ^ 8)) && PyData.leavesShortAll B (r.map PyData.str)) = true
    rw [strs_short (n := n) fun y hy => h y (List.mem_cons_of_mem _ hy), Bool.and_true, List.all_eq_true]
    exact fun c hc => decide_eq_true (Nat.lt_trans (h x List.mem_cons_self c hc) (by decide))
theorem part_signs {z y a : Str} (h : a ∈ Txt.split z y) {c : Nat} (hc : c ∈ a.cps.toList) : c ∈ z.cps.toList := by
  have e := StrLaws.join_split z y
  rw [← e]
  exact (PyProof.Rows.mem_join y c _).mpr (.inl ⟨a, h, hc⟩)
/-! ### comprehensions over tuples and lists whose turns make nothing -/
theorem lc_tupV {K : PySem.W.Frag} {te te2 : TE} {j : Nat} {σ : L2.St} {H : Hp} {Q : VK} {a : Addr} {xs : List V} (v : V → V) (hz : xs.length < sizeLine) (hx : ∀ R : VK, R (.ref a) H → te σ H R) (ha : SqT K H a xs)
    (hw : ∀ y, wipe ((wipe σ [j]).set j (some y)) [j] = wipe σ [j]) (he : ∀ x ∈ xs, ∀ (H' : Hp) (R : VK), Same H H' → R (v x) H' → te2 ((wipe σ [j]).set j (some x)) H' R)
    (q : ∀ D, H D = none → Q (.ref D) (upd H D (.lst (xs.map v)))) : tLc (iTup K te) (gName j) tYes te2 [j] σ H Q := by
  refine hx _ ⟨a, rfl, ⟨_, ha⟩, fun D hD => lc_tup (K := K) (a := a) (xs := xs) (fun i H' => H' = upd H D (.lst ((xs.take i).map v))) rfl (fun i H' _ e => ?_) (fun i x H' hi e => ?_) (fun H' e => ?_)⟩
  · rw [e]
    exact same_t (same_new hD) ha
  · refine ⟨hw _, ?_⟩
    show te2 _ _ _
    rw [e]
    refine he x (List.mem_of_getElem? hi) _ _ (same_new hD) ⟨_, upd_same, ?_, ?_⟩
    · rw [List.length_map, List.length_take]; omega
    · rw [upd_upd, take_map_succ v hi]
  · rw [e, List.take_length]
    exact q D hD
theorem lc_lstV {K : PySem.W.Frag} {te te2 : TE} {j : Nat} {σ : L2.St} {H : Hp} {Q : VK} {a : Addr} {xs : List V} (v : V → V) (hz : xs.length < sizeLine) (hx : ∀ R : VK, R (.ref a) H → te σ H R) (ha : SqL K H a xs)
    (hw : ∀ y, wipe ((wipe σ [j]).set j (some y)) [j] = wipe σ [j]) (he : ∀ x ∈ xs, ∀ (H' : Hp) (R : VK), Same H H' → R (v x) H' → te2 ((wipe σ [j]).set j (some x)) H' R)
    (q : ∀ D, H D = none → Q (.ref D) (upd H D (.lst (xs.map v)))) : tLc (iList K te) (gName j) tYes te2 [j] σ H Q := by
  refine hx _ ⟨a, rfl, ⟨_, ha⟩, fun D hD => lc_list (K := K) (a := a) (xs := xs) (fun i H' => H' = upd H D (.lst ((xs.take i).map v))) rfl (fun i H' _ e => ?_) (fun i x H' hi e => ?_) (fun H' e => ?_)⟩
  · rw [e]
    exact (same_new hD).seq ha
  · refine ⟨hw _, ?_⟩
    show te2 _ _ _
    rw [e]
    refine he x (List.mem_of_getElem? hi) _ _ (same_new hD) ⟨_, upd_same, ?_, ?_⟩
    · rw [List.length_map, List.length_take]; omega
    · rw [upd_upd, take_map_succ v hi]
  · rw [e, List.take_length]
    exact q D hD
/-! ### data taken apart, compared -/
theorem eqvAll_nil (ds : List PyData) : PyData.eqvAll ds [] = ds.isEmpty := by
  cases ds <;> rfl
theorem strs_lay : ∀ {ns : List Str}, (∀ x ∈ ns, ∀ c ∈ x.cps.toList, c < 128) → PyData.canLayAll0 (ns.map PyData.str) = true
  | [], _ => rfl
  | x :: r, h => by
    show (PyData.strOk x && PyData.canLayAll0 (r.map PyData.str)) = true
    rw [strs_lay fun y hy => h y (List.mem_cons_of_mem _ hy), Bool.and_true]
    unfold PyData.strOk
    rw [← Array.all_toList, List.all_eq_true]
    exact fun c hc => decide_eq_true (Nat.lt_trans (h x List.mem_cons_self c hc) (by decide))
theorem bools_lay : ∀ ns : List Bool, PyData.canLayAll0 (ns.map PyData.bool) = true
  | [] => rfl
  | x :: r => by
    show (true && PyData.canLayAll0 (r.map PyData.bool)) = true
    rw [bools_lay r]; rfl
theorem shaped_of {d : PyData} (h : d.canLay0 = true) (k : d.depth ≤ 64) : SeqAt.shaped d = true := by
  unfold SeqAt.shaped
  rw [h, decide_eq_true k]; rfl
theorem dps_strs_inv {K : PySem.W.Frag} {H : Hp} : ∀ {vs : List V} {ns : List Str}, DpAll K H vs (ns.map PyData.str) → vs = ns.map V.str
  | _, [], h => by cases h; rfl
  | _, x :: r, h => by
    cases h with
    | cons h1 h2 =>
      cases h1
      rw [dps_strs_inv h2]; rfl
theorem dps_bools_inv {K : PySem.W.Frag} {H : Hp} : ∀ {vs : List V} {ns : List Bool}, DpAll K H vs (ns.map PyData.bool) → vs = ns.map V.bl
  | _, [], h => by cases h; rfl
  | _, x :: r, h => by
    cases h with
    | cons h1 h2 =>
      cases h1
      rw [dps_bools_inv h2]; rfl
theorem dp_tup_inv {K : PySem.W.Frag} {H : Hp} {v : V} {ds : List PyData} (h : Dp K H v (.tuple ds)) : ∃ a xs, v = .ref a ∧ SqT K H a xs ∧ DpAll K H xs ds := by
  cases h with
  | tup h1 h2 => exact ⟨_, _, rfl, h1, h2⟩
theorem dp_lst_inv {K : PySem.W.Frag} {H : Hp} {v : V} {ds : List PyData} (h : Dp K H v (.list ds)) : ∃ a xs, v = .ref a ∧ SqL K H a xs ∧ DpAll K H xs ds := by
  cases h with
  | lst h1 h2 => exact ⟨_, _, rfl, h1, h2⟩
theorem dps_cons {K : PySem.W.Frag} {H : Hp} {vs : List V} {d : PyData} {ds : List PyData} (h : DpAll K H vs (d :: ds)) : ∃ v r, vs = v :: r ∧ Dp K H v d ∧ DpAll K H r ds := by
  cases h with
  | cons h1 h2 => exact ⟨_, _, rfl, h1, h2⟩
theorem dps_nil {K : PySem.W.Frag} {H : Hp} {vs : List V} (h : DpAll K H vs []) : vs = [] := by
  cases h; rfl
theorem dps3 {K : PySem.W.Frag} {H : Hp} {vs : List V} {a b c : PyData} (h : DpAll K H vs [a, b, c]) : ∃ x y z, vs = [x, y, z] ∧ Dp K H x a ∧ Dp K H y b ∧ Dp K H z c := by
  obtain ⟨x, r, rfl, h1, h⟩ := dps_cons h
  obtain ⟨y, r, rfl, h2, h⟩ := dps_cons h
  obtain ⟨z, r, rfl, h3, h⟩ := dps_cons h
  rw [dps_nil h]
  exact ⟨x, y, z, rfl, h1, h2, h3⟩
theorem dps2 {K : PySem.W.Frag} {H : Hp} {vs : List V} {a b : PyData} (h : DpAll K H vs [a, b]) : ∃ x y, vs = [x, y] ∧ Dp K H x a ∧ Dp K H y b := by
  obtain ⟨x, r, rfl, h1, h⟩ := dps_cons h
  obtain ⟨y, r, rfl, h2, h⟩ := dps_cons h
  rw [dps_nil h]
  exact ⟨x, y, rfl, h1, h2⟩
theorem dp_bool_inv {K : PySem.W.Frag} {H : Hp} {v : V} {b : Bool} (h : Dp K H v (.bool b)) : v = .bl b := by
  cases h; rfl
theorem dp_str_inv {K : PySem.W.Frag} {H : Hp} {v : V} {b : Str} (h : Dp K H v (.str b)) : v = .str b := by
  cases h; rfl
theorem dp_int_inv {K : PySem.W.Frag} {H : Hp} {v : V} {b : Int} (h : Dp K H v (.int b)) : v = .int b := by
  cases h; rfl
end GL
set_option Elab.async false
set_option linter.all false
set_option maxRecDepth 100000
set_option maxHeartbeats 4000000
namespace Lw
open PySem L2 GL
def topS (i : Nat) : Stmt := PySem.Challenge.pw_interruptruns_k86_choice_texts.main.body.getD i (.Pass ⟨0, 0, 0, 0⟩)
abbrev s_law_pull : Stmt := topS 9
theorem sc_law_pull : FnScope ["_law_pool", "_law_many", "_law_cells", "_law_at", "_law_cell", "_law_seed"] ["_law_pool", "_law_many"] (defScope s_law_pull) := ⟨rfl, rfl, rfl, by decide +kernel, rfl, by decide +kernel, by decide +kernel⟩
/-- all but the pool and its cells stays -/
def Keep (p c : Addr) (H H' : Hp) : Prop := ∀ b o, b ≠ p → b ≠ c → H b = some o → H' b = some o
theorem Keep.refl (p c : Addr) (H : Hp) : Keep p c H H := fun _ _ _ _ e => e
theorem Keep.trans {p c : Addr} {H H1 H2 : Hp} (a : Keep p c H H1) (b : Keep p c H1 H2) : Keep p c H H2 := fun x o h1 h2 e => b x o h1 h2 (a x o h1 h2 e)
/-- a pool at p with its cells at c -/
def PoolAt (H : Hp) (p c : Addr) : Prop := ∃ (n : Nat) (seed : Int) (ns : List Int), H p = some (.lst [.ref c, .int n, .int seed]) ∧ H c = some (.lst (ns.map V.int)) ∧ ns.length ≤ 63
theorem PoolAt.ne {H : Hp} {p c : Addr} (h : PoolAt H p c) : p ≠ c := by
  obtain ⟨n, sd, ns, h1, h2, _⟩ := h
  refine ne_of h1 h2 fun e => ?_
  have e1 : [V.ref c, .int n, .int sd] = ns.map V.int := HO.lst.inj e
  cases ns with
  | nil => cases e1
  | cons x r => cases e1
/-! ### pools and what stands beside them -/
theorem PoolAt.fresh {H : Hp} {p c l : Addr} {o : HO} (h : PoolAt H p c) (hl : H l = none) : PoolAt (upd H l o) p c := by
  obtain ⟨n, sd, ns, h1, h2, h3⟩ := h
  exact ⟨n, sd, ns, by rw [upd_ne (ne_of_none h1 hl)]; exact h1, by rw [upd_ne (ne_of_none h2 hl)]; exact h2, h3⟩
theorem PoolAt.put {H : Hp} {p c l : Addr} {o : HO} (h : PoolAt H p c) (h1 : l ≠ p) (h2 : l ≠ c) : PoolAt (upd H l o) p c := by
  obtain ⟨n, sd, ns, e1, e2, e3⟩ := h
  exact ⟨n, sd, ns, by rw [upd_ne h1.symm]; exact e1, by rw [upd_ne h2.symm]; exact e2, e3⟩
theorem PoolAt.np {H : Hp} {p c l : Addr} (h : PoolAt H p c) (hl : H l = none) : l ≠ p ∧ l ≠ c := by
  obtain ⟨n, sd, ns, h1, h2, h3⟩ := h
  exact ⟨(ne_of_none h1 hl).symm, (ne_of_none h2 hl).symm⟩
theorem Keep.fresh {p c l : Addr} {H H' : Hp} {o : HO} (k : Keep p c H H') (hl : H' l = none) : Keep p c H (upd H' l o) := fun b u h1 h2 e => by
  rw [upd_ne (ne_of_none (k b u h1 h2 e) hl)]
  exact k b u h1 h2 e
theorem Keep.put {p c l : Addr} {H H' : Hp} {o : HO} (k : Keep p c H H') (hl : H l = none) : Keep p c H (upd H' l o) := fun b u h1 h2 e => by
  rw [upd_ne (ne_of_none e hl)]
  exact k b u h1 h2 e
def spPull : Sp := fun vs H Q _ => ∃ (p c : Addr) (m : Int), vs = [.ref p, .int m] ∧ PoolAt H p c ∧ 1 ≤ m ∧ m < 1000000 ∧
  ∀ (H' : Hp) (v : Int), Keep p c H H' → PoolAt H' p c → 0 ≤ v → v < m → Q (.int v) H'
structure TxP (mg : Str → Option Value) : Prop where
  len : mg "len" = none
  int : mg "int" = none
section
variable {P : Program} {w : World} {K : PySem.W.Frag} {mg : Str → Option Value} {base : Heap}
theorem mod_bd {a m : Int} (h : 1 ≤ m) : 0 ≤ a % m ∧ a % m < m := ⟨Int.emod_nonneg _ (by omega), Int.emod_lt_of_pos _ (by omega)⟩
theorem ok_pull {f : Addr} {fd : FuncData} (F : Fun K "_law_pull" "_law_pull" s_law_pull f fd) (T : TxP mg) : FnOk P w K mg base CX0 1 f fd ["_law_pool", "_law_many"] spPull := by
  refine F.ok sc_law_pull (fun vs H Q E h => ?_) (fun cdv A outer s H vs Q E hr h => ?_)
  · obtain ⟨p, c, m, rfl, _⟩ := h
    rfl
  · obtain ⟨p, c, m, rfl, hP, hm1, hm2, q⟩ := h
    have npc := hP.ne
    obtain ⟨n, sd, ns, hp, hc, hlen⟩ := hP
    refine ⟨_, (pss_cons (ps_set (i := 2) sc_law_pull.nd rfl (.inl rfl) (pe_ix ix_list (pv 0) pe_int (fun _ _ => rfl)))
      (pss_cons (ps_set (i := 3) sc_law_pull.nd rfl (.inl rfl) (pe_ix ix_list (pv 0) pe_int (fun _ _ => rfl)))
      (Evl.pss_cut (ps_if (PW.pt (pw_and (pt_cmpR op_lt (pv 3) (pe_callB call_len_seq (by rfl) T.len PySem.boot_len (pa_cons (pv 2) pa_nil)) (nomark _)) (pw_and1 (pt_cmpR op_ge (pe_ix ix_list (pv 2) (pv 3) (fun _ _ => rfl)) (pe_op op_pow pe_int pe_int) (nomark _)))))
      (pss_cons (ps_set (i := 4) sc_law_pull.nd rfl (.inl rfl) (pe_ix ix_list (pv 2) (pv 3) (fun _ _ => rfl)))
        (pss_cons (ps_asg (pe_op op_fdivN (pv 4) (pv 1)) (pg_sub (pv 2) (pv 3) set_list))
        (pss_one (ps_ret (pe_op op_mod (pe_callTy call_int1 (by rfl) T.int (by decide +kernel) (pa_cons (pv 4) pa_nil)) (pv 1))))))
      pss_nil)
      (pss_cons (ps_asg (pe_op op_add (pv 3) pe_int) (pg_sub (pv 0) pe_int set_list))
      (pss_cons (ps_set (i := 4) sc_law_pull.nd rfl (.inl rfl) pe_int)
      (Evl.pss_cut (ps_if (pt_cmpR op_gt (pe_callB call_len_seq (by rfl) T.len PySem.boot_len (pa_cons (pv 2) pa_nil)) pe_int (nomark _))
      (pss_one (ps_set (i := 4) sc_law_pull.nd rfl (.inl rfl) (pe_ix ix_list (pv 2) (pe_op op_mod (pe_callTy call_int1 (by rfl) T.int (by decide +kernel) (pa_cons (pv 3) pa_nil)) (pe_callB call_len_seq (by rfl) T.len PySem.boot_len (pa_cons (pv 2) pa_nil))) (fun _ _ => rfl))))
      pss_nil)
      (pss_cons (ps_set (i := 5) sc_law_pull.nd rfl (.inl rfl) (pe_op op_mod (pe_callTy call_int1 (by rfl) T.int (by decide +kernel) (pa_cons (pe_op op_add (pe_op op_add (pe_op op_add (pe_op op_mul (pv 4) pe_int) (pe_op op_mul (pe_ix ix_list (pv 0) pe_int (fun _ _ => rfl)) pe_int)) (pe_op op_mul (pv 3) pe_int)) pe_int) pa_nil)) pe_int))
      (pss_cons (ps_set (i := 5) sc_law_pull.nd rfl (.inl rfl) (pe_op op_mod (pe_callTy call_int1 (by rfl) T.int (by decide +kernel) (pa_cons (pe_op op_add (pe_op op_add (pe_op op_mul (pv 5) pe_int) (pe_op op_mul (pv 3) pe_int)) pe_int) pa_nil)) pe_int))
      (pss_cons (ps_asg (pv 5) (pg_sub (pv 0) pe_int set_list))
      (pss_one (ps_ret (pe_op op_mod (pe_callTy call_int1 (by rfl) T.int (by decide +kernel) (pa_cons (pe_op op_fdivN (pv 5) pe_int) pa_nil)) (pv 1))))))))))))), ?_⟩
    -- cells, at
    refine ⟨_, rfl, p, _, 0, .ref c, rfl, rfl, SqL.of hp, atI_nat (j := 0) rfl, _, rfl, p, _, 1, .int n, rfl, rfl, SqL.of hp, atI_nat (j := 1) rfl, ?_⟩
    have hlm : (ns.map V.int).length = ns.length := List.length_map ..
    have itm : ∀ j : Nat, j < ns.length → ∃ z, (ns.map V.int)[j]? = some (.int z) := fun j hj => ⟨ns[j], by rw [List.getElem?_map, List.getElem?_eq_getElem hj]; rfl⟩
    -- the first if: either it returns, or nothing has changed
    refine ⟨fun σ' H' => σ' = [some (.ref p), some (.int m), some (.ref c), some (.int n), none, none] ∧ H' = H, ?_, ?_⟩
    · refine ⟨_, rfl, _, rfl, c, _, rfl, .inl (SqL.of hc), _, _, rfl, rfl, _, rfl, ite2 (fun h1 => ?_) (fun h1 => ?_)⟩
      · have hn : n < ns.length := by
          have h2 := of_decide_eq_true h1
          rw [hlm] at h2
          omega
        obtain ⟨z, hz⟩ := itm n hn
        refine ⟨_, rfl, _, rfl, c, _, n, .int z, rfl, rfl, SqL.of hc, atI_nat hz, _, _, rfl, rfl, ⟨by decide, by decide, by decide⟩, _, _, rfl, rfl, _, rfl, ite2 (fun h3 => ?_) (fun h3 => ?_)⟩
        · refine ⟨_, rfl, _, rfl, c, _, n, .int z, rfl, rfl, SqL.of hc, atI_nat hz, ?_⟩
          refine ⟨_, rfl, _, rfl, _, _, rfl, rfl, ⟨by omega, by omega⟩, _, rfl, _, rfl, c, _, n, n, rfl, rfl, hc, ?_, ?_⟩
          · rw [hlm]
            exact Evl.ixN_nat hn
          · refine ⟨_, rfl, .inl ⟨_, rfl, _, rfl, _, _, rfl, rfl, ?_, ?_⟩⟩
            · omega
            · refine q _ _ (fun b o h1 h2 e => ?_) ⟨n, sd, ns.set n (z.fdiv m), ?_, ?_, ?_⟩ (mod_bd hm1).1 (mod_bd hm1).2
              · rw [upd_ne h2]
                exact e
              · rw [upd_ne npc]
                exact hp
              · rw [upd_same, List.map_set]
              · rw [List.length_set]
                exact hlen
        · exact ⟨rfl, rfl⟩
      · exact ⟨rfl, rfl⟩
    · rintro σ' H' ⟨rfl, rfl⟩
      -- pool[1] = at + 1; cell = 0
      refine ⟨_, rfl, _, _, rfl, rfl, _, rfl, p, _, 1, 1, rfl, rfl, hp, rfl, ?_⟩
      have hp1 : (upd H' p (.lst ([V.ref c, .int n, .int sd].set 1 (.int ((n : Int) + 1))))) p = some (.lst [.ref c, .int ((n + 1 : Nat) : Int), .int sd]) := by
        rw [upd_same]
        rfl
      have hc1 : (upd H' p (.lst ([V.ref c, .int n, .int sd].set 1 (.int ((n : Int) + 1))))) c = some (.lst (ns.map V.int)) := by
        rw [upd_ne npc.symm]
        exact hc
      -- if len(cells) > 0: cell = cells[..]
      refine ⟨fun σ' H1 => (∃ z : Int, σ' = [some (.ref p), some (.int m), some (.ref c), some (.int n), some (.int z), none]) ∧ H1 = upd H' p (.lst ([V.ref c, .int n, .int sd].set 1 (.int ((n : Int) + 1)))), ?_, ?_⟩
      · refine ⟨_, rfl, c, _, rfl, .inl (SqL.of hc1), _, _, rfl, rfl, _, rfl, ite2 (fun h1 => ?_) (fun h1 => ?_)⟩
        · have hpos : 0 < ns.length := by
            have h2 := of_decide_eq_true h1
            rw [hlm] at h2
            omega
          have hj : n % ns.length < ns.length := Nat.mod_lt _ hpos
          obtain ⟨z, hz⟩ := itm _ hj
          refine ⟨_, rfl, _, rfl, .inl ⟨_, rfl, _, rfl, c, _, rfl, .inl (SqL.of hc1), _, _, rfl, rfl, ?_, c, _, _, .int z, rfl, rfl, SqL.of hc1, ?_, ?_⟩⟩
          · show (0 : Int) < ((ns.map V.int).length : Int)
            rw [hlm]
            omega
          · have e : (n : Int) % ((ns.map V.int).length : Int) = ((n % ns.length : Nat) : Int) := by
              rw [hlm]
              rfl
            rw [e]
            exact atI_nat hz
          · exact ⟨⟨z, rfl⟩, rfl⟩
        · exact ⟨⟨0, rfl⟩, rfl⟩
      · rintro σ1 H1 ⟨⟨z, rfl⟩, rfl⟩
        -- seed, seed, pool[2] = seed
        refine ⟨_, rfl, _, _, rfl, rfl, .inr ⟨by decide, by decide⟩, _, rfl, p, _, 2, .int sd, rfl, rfl, SqL.of hp1, atI_nat (j := 2) rfl, _, _, rfl, rfl, .inr ⟨by decide, by decide⟩, _, _, rfl, rfl, _, rfl, _, _, rfl, rfl, .inr ⟨by decide, by decide⟩, _, _, rfl, rfl, _, _, rfl, rfl, .inl ⟨_, rfl, _, _, rfl, rfl, (by show (0 : Int) < 2147483647; decide), ?_⟩⟩
        refine ⟨_, rfl, _, _, rfl, rfl, .inr ⟨by decide, by decide⟩, _, rfl, _, _, rfl, rfl, .inr ⟨by decide, by decide⟩, _, _, rfl, rfl, _, _, rfl, rfl, .inl ⟨_, rfl, _, _, rfl, rfl, (by show (0 : Int) < 2147483629; decide), ?_⟩⟩
        refine ⟨_, rfl, _, rfl, p, _, 2, 2, rfl, rfl, hp1, rfl, ?_⟩
        -- return
        refine ⟨_, rfl, _, _, rfl, rfl, ⟨by decide, by decide⟩, .inl ⟨_, rfl, _, rfl, _, _, rfl, rfl, ?_, ?_⟩⟩
        · omega
        · refine q _ _ (fun b o h1 h2 e => ?_) ⟨n + 1, _, ns, upd_same, ?_, hlen⟩ (mod_bd hm1).1 (mod_bd hm1).2
          · rw [upd_ne h1, upd_ne h1]
            exact e
          · rw [upd_ne npc.symm]
            exact hc1
end
end Lw
set_option Elab.async false
set_option linter.all false
set_option maxRecDepth 100000
set_option maxHeartbeats 4000000
namespace Lw
open PySem L2 GL
/-! ### the error -/
abbrev s_ParseError___init__ : Stmt := inClass (topS 2) 0
theorem sc_ParseError___init__ : FnScope ["self", "line"] ["self", "line"] (defScope s_ParseError___init__) := ⟨rfl, rfl, rfl, by decide +kernel, rfl, by decide +kernel, by decide +kernel⟩
section
variable {P : Program} {w : World} {K : PySem.W.Frag} {mg : Str → Option Value} {base : Heap}
theorem ok_errInit {f C R : Addr} {fd : FuncData} (F : Fun K "__init__" "ParseError.__init__" s_ParseError___init__ f fd) (B : BaseC K mg R) (O : OexC K C) (no : PySem.W.findIn K (.ref C) "line" = some none) : FnOk P w K mg base CX0 1 f fd ["self", "line"] (spErr C "line") := by
  refine F.ok sc_ParseError___init__ (fun vs H Q E h => ?_) (fun cdv A outer s H vs Q E hr h => ?_)
  · obtain ⟨a, v, rfl, _⟩ := h
    rfl
  · obtain ⟨a, v, rfl, ha, q⟩ := h
    refine ⟨_, pss_cons (ps_expr (pe_rinit B (by rfl) (pa_cons (pv 0) (pa_cons pe_str pa_nil)))) (pss_one (ps_ost (pv 0) (pv 1))), ?_⟩
    exact ⟨_, rfl, a, C, _, rfl, (by show 1 ≤ 1000; decide), O, ha, _, rfl, _, rfl, a, C, rfl, O, no, .inl ⟨ha, fun dx hd hda => q dx hd hda⟩⟩
end
/-! ### what the texts say -/
/-- three words as a choice -/
def names (a : Str) : List Str := if a = "-" then [] else Txt.split a ","
def ways (t : Str) : Str := if t = "-" then "" else t
def bits (z : Str) : List Bool := z.cps.toList.map fun c => decide ((⟨#[c]⟩ : Str) = "1")
def res3 (a o t : Str) : Option (List Str × Bool × List Bool) :=
  if (names a).contains "" || !(decide (o = "0") || decide (o = "1")) || decide (t = "") || !((ways t).cps.toList.all fun c => decide (c ∈ ("01" : Str).cps.toList)) then none
  else some (names a, decide (o = "1"), bits (ways t))
def dat : Option (List Str × Bool × List Bool) → PyData
  | none => .none
  | some (ns, b, ws) => .tuple [.tuple (ns.map PyData.str), .bool b, .tuple (ws.map PyData.bool)]
/-- a text as a choice -/
def res (z : Str) : Option (List Str × Bool × List Bool) := match Txt.split z " " with
  | [a, o, t] => if ([a, o, t] : List Str).contains "" then none else res3 a o t
  | _ => none
structure TxC (mg : Str → Option Value) : Prop where
  all : mg "all" = none
  tuple : mg "tuple" = none
  bool : mg "bool" = none
  len : mg "len" = none
  isinstance : mg "isinstance" = none
  str : mg "str" = none
abbrev s_choice_of : Stmt := topS 5
theorem sc_choice_of : FnScope ["words", "asked", "over", "taken", "names", "ways", "way"] ["words"] (defScope s_choice_of) := ⟨rfl, rfl, rfl, by decide +kernel, rfl, by decide +kernel, by decide +kernel⟩
def spChoice (K : PySem.W.Frag) : Sp := fun vs H Q _ => ∃ (l : Addr) (a o t : Str), vs = [.ref l] ∧ SqL K H l [.str a, .str o, .str t] ∧ a.length ≤ 1000 ∧ t.length ≤ 1000 ∧ RetD K H (dat (res3 a o t)) Q
section
variable {P : Program} {w : World} {K : PySem.W.Frag} {mg : Str → Option Value} {base : Heap}
theorem ok_choice {f : Addr} {fd : FuncData} (F : Fun K "choice_of" "choice_of" s_choice_of f fd) (T : TxC mg) : FnOk P w K mg base CX0 1 f fd ["words"] (spChoice K) := by
  refine F.ok sc_choice_of (fun vs H Q E h => ?_) (fun cdv A outer s H vs Q E hr h => ?_)
  · obtain ⟨l, a, o, t, rfl, _⟩ := h
    rfl
  · obtain ⟨l, a, o, t, rfl, hl, la, lt, q⟩ := h
    refine ⟨_, (pss_cons (ps_asg (pv 0) (pg_lst rfl (pgs_cons (pg_name (i := 1) sc_choice_of.nd rfl (.inl rfl)) (pgs_cons (pg_name (i := 2) sc_choice_of.nd rfl (.inl rfl)) (pgs_cons (pg_name (i := 3) sc_choice_of.nd rfl (.inl rfl)) pgs_nil)))))
      (Evl.pss_cut (ps_set (i := 4) sc_choice_of.nd rfl (.inl rfl) (pe_ifExp (pt_cmpR op_eq (pv 1) pe_str (nomark _)) (pe_lst pa_nil) (pe_split (pv 1) pe_str)))
      (Evl.pss_cut (ps_set (i := 5) sc_choice_of.nd rfl (.inl rfl) (pe_ifExp (pt_cmpR op_eq (pv 3) pe_str (nomark _)) pe_str (pv 3)))
      (Evl.pss_cut (ps_if (PW.pt (pw_or (pt_cmpR op_in_seq pe_str (pv 4) (by rfl)) (pw_or (pt_cmpR op_notIn_seq (pv 2) (pe_tup (pa_cons pe_str (pa_cons pe_str pa_nil))) (by rfl)) (pw_or (pt_cmpR op_eq (pv 3) pe_str (nomark _)) (pw_or1 (pt_not (pt_val (pe_callB (cr_all rfl) (by rfl) T.all (by decide +kernel) (pa_cons (pe_lc (own := [("way", 6)]) (g := gName 6) (tt := tYes) (by rfl) sc_choice_of.nd (pi_str (pv 5)) (blkOk_by (own := [("way", 6)]) (N := ["words", "asked", "over", "taken", "names", "ways", "way"]) (sc := defScope s_choice_of) (by decide +kernel)) (fun _ _ _ _ _ => (pg_name (i := 6) sc_choice_of.nd rfl (Or.inl rfl))) (fun _ _ _ _ _ => pts_nil) (fun _ _ _ _ _ => (pe_cmpR op_in_sign (pv 6) pe_str (by rfl)))) pa_nil)))))))))
      (pss_one (ps_ret pe_non))
      pss_nil)
      (pss_one (ps_ret (pe_tup (pa_cons (pe_callTy call_tuple_of (by rfl) T.tuple (by decide +kernel) (pa_cons (pv 4) pa_nil)) (pa_cons (pe_callTy call_bool1 (by rfl) T.bool (by decide +kernel) (pa_cons (pe_cmpR op_eq (pv 2) pe_str (nomark _)) pa_nil)) (pa_cons (pe_callTy call_tuple_of (by rfl) T.tuple (by decide +kernel) (pa_cons (pe_lc (own := [("way", 6)]) (g := gName 6) (tt := tYes) (by rfl) sc_choice_of.nd (pi_str (pv 5)) (blkOk_by (own := [("way", 6)]) (N := ["words", "asked", "over", "taken", "names", "ways", "way"]) (sc := defScope s_choice_of) (by decide +kernel)) (fun _ _ _ _ _ => (pg_name (i := 6) sc_choice_of.nd rfl (Or.inl rfl))) (fun _ _ _ _ _ => pts_nil) (fun _ _ _ _ _ => (pe_callTy call_bool1 (by rfl) T.bool (by decide +kernel) (pa_cons (pe_cmpR op_eq (pv 6) pe_str (nomark _)) pa_nil)))) pa_nil)) pa_nil)))))))))), ?_⟩
    -- asked, over, taken = words
    refine ⟨_, rfl, l, _, rfl, hl, rfl, _, _, rfl, _, _, rfl, _, _, rfl, rfl, ?_⟩
    -- names
    refine ⟨fun σ' H' => ∃ n, σ' = [some (.ref l), some (.str a), some (.str o), some (.str t), some (.ref n), none, none] ∧ Same H H' ∧ H' n = some (.lst ((names a).map V.str)), ?_, ?_⟩
    · refine ⟨_, rfl, rfl, _, rfl, ite2 (fun h1 => ?_) (fun h1 => ?_)⟩
      · have e : a = "-" := V.str.inj (of_decide_eq_true h1)
        refine ⟨Nat.zero_le _, fun n hn => ⟨n, rfl, same_new hn, ?_⟩⟩
        rw [upd_same, names, if_pos e]
        rfl
      · have e : ¬ a = "-" := fun z => h1 (decide_eq_true (congrArg V.str z))
        refine ⟨_, rfl, ⟨_, rfl⟩, _, _, rfl, rfl, by decide, ?_, fun n hn => ⟨n, rfl, same_new hn, ?_⟩⟩
        · rw [sizeLine_eq]
          omega
        · rw [upd_same, names, if_neg e]
    rintro σ1 H1 ⟨n, rfl, s1, hn⟩
    -- ways
    refine ⟨fun σ' H' => σ' = [some (.ref l), some (.str a), some (.str o), some (.str t), some (.ref n), some (.str (ways t)), none] ∧ H' = H1, ?_, ?_⟩
    · refine ⟨_, rfl, rfl, _, rfl, ite2 (fun h1 => ?_) (fun h1 => ?_)⟩
      · have e : t = "-" := V.str.inj (of_decide_eq_true h1)
        rw [ways, if_pos e]
        exact ⟨rfl, rfl⟩
      · have e : ¬ t = "-" := fun z => h1 (decide_eq_true (congrArg V.str z))
        refine ⟨_, rfl, ?_⟩
        rw [ways, if_neg e]
        exact ⟨rfl, rfl⟩
    rintro σ2 H2 ⟨rfl, rfl⟩
    have lw : (ways t).length ≤ 1000 := by
      unfold ways
      split
      · decide
      · exact lt
    have none_of : ((names a).contains "" || !(decide (o = "0") || decide (o = "1")) || decide (t = "") || !((ways t).cps.toList.all fun c => decide (c ∈ ("01" : Str).cps.toList))) = true → ∀ H', Same H H' → Q .non H' := by
      intro hc H' s'
      have e : res3 a o t = none := by
        unfold res3
        rw [if_pos hc]
      rw [e] at q
      exact q H' _ s' .non
    -- the if
    refine ⟨fun σ' H' => σ' = [some (.ref l), some (.str a), some (.str o), some (.str t), some (.ref n), some (.str (ways t)), none] ∧ Same H2 H' ∧
      ((names a).contains "" || !(decide (o = "0") || decide (o = "1")) || decide (t = "") || !((ways t).cps.toList.all fun c => decide (c ∈ ("01" : Str).cps.toList))) = false, ?_, ?_⟩
    · -- '' in names
      refine ⟨_, rfl, n, _, rfl, .inl (SqL.of hn), rfl, flat_strs _, _, rfl, ?_⟩
      show if inV (.str "") ((names a).map V.str) = true then _ else _
      rw [in_strs]
      refine ite2 (fun h1 => none_of (by rw [h1]; rfl) _ s1) (fun h1 => ?_)
      have e1 : (names a).contains "" = false := Bool.eq_false_iff.mpr h1
      -- over not in ('0', '1')
      refine ⟨_, rfl, (by show 2 ≤ sizeLine; decide), fun tp ht => ⟨tp, [.str "0", .str "1"], rfl, .inr (.inl (.inl upd_same)), rfl, rfl, _, rfl, ?_⟩⟩
      have s3 := s1.trans (same_new (o := .tup [.str "0", .str "1"]) ht)
      have hn3 := same_new (o := .tup [.str "0", .str "1"]) ht _ _ hn
      have ei : inV (.str o) [.str "0", .str "1"] = (decide (o = "0") || decide (o = "1")) := by
        refine (in_strs o ["0", "1"]).trans ?_
        rw [List.contains_cons, List.contains_cons, List.contains_nil, Bool.or_false]
        rfl
      show if (!inV (.str o) [.str "0", .str "1"]) = true then _ else _
      rw [ei]
      refine ite2 (fun h2 => none_of (by rw [h2, Bool.or_true]; rfl) _ s3) (fun h2 => ?_)
      have e2 : (!(decide (o = "0") || decide (o = "1"))) = false := Bool.eq_false_iff.mpr h2
      -- taken == ''
      refine ⟨_, rfl, rfl, _, rfl, ite2 (fun h3 => ?_) (fun h3 => ?_)⟩
      · have e3 : decide (t = "") = true := decide_eq_true (V.str.inj (of_decide_eq_true h3))
        exact none_of (by rw [e3, Bool.or_true]; rfl) _ s3
      have e3 : decide (t = "") = false := decide_eq_false fun z => h3 (decide_eq_true (congrArg V.str z))
      -- not all([..])
      delta tNot tB tCB tCons
      refine lc_str (x := ways t) (fun c => .bl (decide (c ∈ ("01" : Str).cps.toList))) (Nat.lt_of_le_of_lt lw (by decide)) ?_ ?_ ?_ ?_
      · exact fun R h => ⟨_, rfl, h⟩
      · exact fun y => rfl
      · exact fun c H' R h => ⟨_, rfl, c, _, rfl, rfl, h⟩
      intro D hD
      have em : (ways t).cps.toList.map (fun c => V.bl (decide (c ∈ ("01" : Str).cps.toList))) = ((ways t).cps.toList.map fun c => decide (c ∈ ("01" : Str).cps.toList)).map V.bl := by
        rw [List.map_map]
        rfl
      rw [em]
      refine ⟨D, (ways t).cps.toList.map fun c => decide (c ∈ ("01" : Str).cps.toList), rfl, SqL.of upd_same, _, rfl, ?_⟩
      have ea : (((ways t).cps.toList.map fun c => decide (c ∈ ("01" : Str).cps.toList)).all id) = ((ways t).cps.toList.all fun c => decide (c ∈ ("01" : Str).cps.toList)) := by
        rw [List.all_map]
        rfl
      show if (!((ways t).cps.toList.map fun c => decide (c ∈ ("01" : Str).cps.toList)).all id) = true then _ else _
      rw [ea]
      have s4 := s3.trans (same_new (o := .lst (((ways t).cps.toList.map fun c => decide (c ∈ ("01" : Str).cps.toList)).map V.bl)) hD)
      refine ite2 (fun h4 => none_of (by rw [h4, Bool.or_true]) _ s4) (fun h4 => ?_)
      have e4 := Bool.eq_false_iff.mpr h4
      refine ⟨rfl, (same_new ht).trans (same_new hD), ?_⟩
      rw [e1, e2, e3, e4]
      rfl
    rintro σ3 H3 ⟨rfl, s3, hc⟩
    have e : res3 a o t = some (names a, decide (o = "1"), bits (ways t)) := by
      unfold res3
      rw [if_neg (by rw [hc]; exact Bool.false_ne_true)]
    rw [e] at q
    have hn3 := s3 _ _ hn
    -- (tuple(names), bool(over == '1'), tuple([..]))
    refine ⟨_, rfl, n, _, rfl, .inl ⟨SqL.of hn3, fun p1 h1 => ?_⟩⟩
    refine ⟨_, rfl, rfl, .inr ⟨_, rfl, ?_⟩⟩
    delta tCons tCB tCons
    refine lc_str (x := ways t) (fun c => .bl (decide ((⟨#[c]⟩ : Str) = "1"))) (Nat.lt_of_le_of_lt lw (by decide)) ?_ ?_ ?_ ?_
    · exact fun R h => ⟨_, rfl, h⟩
    · exact fun y => rfl
    · refine fun c H' R h => ⟨_, rfl, rfl, .inr ⟨_, rfl, ?_⟩⟩
      have e5 : decide (V.str ⟨#[c]⟩ = V.str "1") = decide ((⟨#[c]⟩ : Str) = "1") := by
        by_cases z : (⟨#[c]⟩ : Str) = "1"
        · rw [decide_eq_true z, decide_eq_true (congrArg V.str z)]
        · rw [decide_eq_false z, decide_eq_false fun y => z (V.str.inj y)]
      show R (.bl (decide (V.str ⟨#[c]⟩ = V.str "1"))) H'
      rw [e5]
      exact h
    intro D hD
    have em : (ways t).cps.toList.map (fun c => V.bl (decide ((⟨#[c]⟩ : Str) = "1"))) = (bits (ways t)).map V.bl := by
      unfold bits
      rw [List.map_map]
      rfl
    rw [em]
    refine ⟨D, _, rfl, .inl ⟨SqL.of upd_same, fun p2 h2 => ⟨(by show 3 ≤ sizeLine; decide), fun p3 h3 => ?_⟩⟩⟩
    have t1 := same_new (o := .tup ((names a).map V.str)) h1
    have t2 := same_new (o := .lst ((bits (ways t)).map V.bl)) hD
    have t3 := same_new (o := .tup ((bits (ways t)).map V.bl)) h2
    have e6 : decide (V.str o = V.str "1") = decide (o = "1") := by
      by_cases z : o = "1"
      · rw [decide_eq_true z, decide_eq_true (congrArg V.str z)]
      · rw [decide_eq_false z, decide_eq_false fun y => z (V.str.inj y)]
    have t4 := same_new (o := .tup [V.ref p1, .bl (decide (V.str o = V.str "1")), .ref p2]) h3
    refine q _ _ (s1.trans (s3.trans (t1.trans (t2.trans (t3.trans t4))))) (dp_tup upd_same (.cons ?_ (.cons ?_ (.cons ?_ .nil))))
    · exact dp_tup (t4 _ _ (t3 _ _ (t2 _ _ upd_same))) (dps_strs _)
    · rw [e6]
      exact .bl _
    · exact dp_tup (t4 _ _ upd_same) (dps_bools _)
end
end Lw
set_option Elab.async false
set_option linter.all false
set_option maxRecDepth 100000
set_option maxHeartbeats 4000000
namespace Lw
open PySem L2 GL
abbrev s_read_choice : Stmt := topS 6
theorem sc_read_choice : FnScope ["text", "words"] ["text"] (defScope s_read_choice) := ⟨rfl, rfl, rfl, by decide +kernel, rfl, by decide +kernel, by decide +kernel⟩
abbrev s_parse_choice : Stmt := topS 7
theorem sc_parse_choice : FnScope ["text", "found"] ["text"] (defScope s_parse_choice) := ⟨rfl, rfl, rfl, by decide +kernel, rfl, by decide +kernel, by decide +kernel⟩
def spRead (K : PySem.W.Frag) : Sp := fun vs H Q _ => ∃ z : Str, vs = [.str z] ∧ z.length ≤ 900 ∧ RetD K H (dat (res z)) Q
def resD : PyData → Option (List Str × Bool × List Bool)
  | .str z => res z
  | _ => none
def spParse (K : PySem.W.Frag) (C : Addr) : Sp := fun vs H Q E => ∃ (v : V) (d : PyData), vs = [v] ∧ Dp K H v d ∧ (∀ z, d = .str z → z.length ≤ 900) ∧
  (resD d = none → ∀ (H' : Hp) (dd : Addr), Same H H' → H' dd = none → E (.ref C) (some dd) (upd H' dd (.xd [("line", v)]))) ∧ (∀ r, resD d = some r → RetD K H (dat (some r)) Q)
theorem res_three {z a o t : Str} (h : Txt.split z " " = [a, o, t]) : res z = if ([a, o, t] : List Str).contains "" then none else res3 a o t := by
  unfold res
  rw [h]
theorem res_else {z : Str} (h : (Txt.split z " ").length ≠ 3) : res z = none := by
  unfold res
  split
  · rename_i e
    rw [e] at h
    exact absurd rfl h
  · rfl
section
variable {P : Program} {w : World} {K : PySem.W.Frag} {mg : Str → Option Value} {base : Heap}
theorem ok_read {f : Addr} {fd : FuncData} (F : Fun K "read_choice" "read_choice" s_read_choice f fd) (T : TxC mg) (G_choice_of : Fx P w K mg base CX0 1 "choice_of" ["words"] (spChoice K)) : FnOk P w K mg base CX0 2 f fd ["text"] (spRead K) := by
  refine F.ok sc_read_choice (fun vs H Q E h => ?_) (fun cdv A outer s H vs Q E hr h => ?_)
  · obtain ⟨z, rfl, _⟩ := h
    rfl
  · obtain ⟨z, rfl, lz, q⟩ := h
    refine ⟨_, (pss_cons (ps_set (i := 1) sc_read_choice.nd rfl (.inl rfl) (pe_split (pv 0) pe_str))
      (pss_one (ps_ret (pe_ifExp (PW.pt (pw_and (pt_cmpR op_eq (pe_callB call_len_seq (by rfl) T.len PySem.boot_len (pa_cons (pv 1) pa_nil)) pe_int (nomark _)) (pw_and1 (pt_cmpR op_notIn_seq pe_str (pv 1) (by rfl))))) (pe_callF G_choice_of (hr.mono (by decide)) (by rfl) pass0 (pa_cons (pv 1) pa_nil)) pe_non)))), ?_⟩
    refine ⟨_, rfl, ⟨_, rfl⟩, _, _, rfl, rfl, by decide, ?_, fun l hl => ?_⟩
    · rw [sizeLine_eq]
      omega
    have s1 := same_new (o := .lst ((Txt.split z " ").map V.str)) hl
    have eL : (((Txt.split z " ").map V.str).length : Int) = ((Txt.split z " ").length : Int) := by rw [List.length_map]
    refine ⟨_, rfl, l, _, rfl, .inl (SqL.of upd_same), rfl, _, rfl, ite2 (fun h1 => ?_) (fun h1 => ?_)⟩
    · have e3 : (Txt.split z " ").length = 3 := by
        have h2 := V.int.inj (of_decide_eq_true h1)
        rw [eL] at h2
        omega
      obtain ⟨a, o, t, e⟩ : ∃ a o t, Txt.split z " " = [a, o, t] := by
        match hw : Txt.split z " ", e3 with
        | [a, o, t], _ => exact ⟨a, o, t, rfl⟩
      have ha := part_len (z := z) (a := a) (y := " ") (by decide) (by rw [e]; simp)
      have ht := part_len (z := z) (a := t) (y := " ") (by decide) (by rw [e]; simp)
      refine ⟨_, rfl, l, _, rfl, .inl (SqL.of upd_same), rfl, flat_strs _, _, rfl, ?_⟩
      show if (!inV (.str "") ((Txt.split z " ").map V.str)) = true then _ else _
      rw [in_strs, e]
      have er := res_three e
      refine ite2 (fun h2 => ?_) (fun h2 => ?_)
      · have e2 : ([a, o, t] : List Str).contains "" = false := by
          cases hc : ([a, o, t] : List Str).contains "" with
          | false => rfl
          | true =>
            rw [hc] at h2
            exact absurd h2 (by decide)
        rw [er, if_neg (by rw [e2]; exact Bool.false_ne_true)] at q
        refine ⟨_, rfl, l, a, o, t, rfl, SqL.of upd_same, by omega, by omega, fun H' v s' hd => ?_⟩
        rw [← e] at s'
        exact q H' v (s1.trans s') hd
      · have e2 : ([a, o, t] : List Str).contains "" = true := by
          cases hc : ([a, o, t] : List Str).contains "" with
          | true => rfl
          | false =>
            rw [hc] at h2
            exact absurd rfl h2
        rw [er, if_pos e2] at q
        rw [← e]
        exact q _ _ s1 .non
    · have e3 : (Txt.split z " ").length ≠ 3 := fun e3 => h1 (decide_eq_true (congrArg V.int (by rw [eL, e3]; rfl)))
      rw [res_else e3] at q
      exact q _ _ s1 .non
structure TxE (P : Program) (w : World) (K : PySem.W.Frag) (mg : Str → Option Value) (base : Heap) (C : Addr) : Prop extends TxC mg where
  e_ParseError : ErrC P w K mg base "ParseError" "line" C
theorem ok_parse {f C : Addr} {fd : FuncData} (F : Fun K "parse_choice" "parse_choice" s_parse_choice f fd) (T : TxE P w K mg base C) (G_read_choice : Fx P w K mg base CX0 2 "read_choice" ["text"] (spRead K)) : FnOk P w K mg base (L2.CX P w) 3 f fd ["text"] (spParse K C) := by
  refine F.okX sc_parse_choice (fun vs H Q E h => ?_) (fun cdv A outer s H vs Q E hr h => ?_)
  · obtain ⟨v, d, rfl, _⟩ := h
    rfl
  · obtain ⟨v, d, rfl, hd, hz, qE, qR⟩ := h
    refine ⟨_, (Evl.pss_cut (ps_set (i := 1) sc_parse_choice.nd rfl (.inl rfl) (pe_ifExp (pt_val (pe_callB call_isi (by rfl) T.isinstance (by decide +kernel) (pa_cons (pv 0) (pa_cons (pe_bltn (v := .ty "str") (by rfl) T.str (by decide +kernel) rfl) pa_nil)))) (pe_callF G_read_choice (hr.mono (by decide)) (by rfl) pass0 (pa_cons (pv 0) pa_nil)) pe_non))
      (pss_cons (ps_if (pt_cmpR op_isN (pv 1) pe_non (nomark _))
      (pss_one (ps_raiseE rfl T.e_ParseError (hr.mono (by decide)) (takes_of rfl rfl rfl rfl) (by rfl) (mono1 (mono_var 0)) (pa_cons (pv 0) pa_nil)))
      pss_nil)
      (pss_one (ps_ret (pv 1))))), ?_⟩
    refine ⟨fun σ' H' => ∃ u, σ' = [some v, some u] ∧ Same H H' ∧ Dp K H' u (dat (resD d)), ?_, ?_⟩
    · refine ⟨_, rfl, v, .ty "str", _, _, _, rfl, .ty "str", ty_dp hd, kit_str d, _, rfl, ite2 (fun h1 => ?_) (fun h1 => ?_)⟩
      · cases hd with
        | str z => exact ⟨_, rfl, z, rfl, hz z rfl, fun H' u s' hu => ⟨u, rfl, s', hu⟩⟩
        | _ => exact absurd h1 Bool.false_ne_true
      · refine ⟨.non, rfl, Same.refl _, ?_⟩
        cases hd with
        | str z => exact absurd rfl h1
        | _ => exact .non
    rintro σ1 H1 ⟨u, rfl, s1, hu⟩
    refine ⟨_, rfl, rfl, _, rfl, ?_⟩
    show if decide (u = .non) = true then _ else _
    rw [dp_non hu]
    cases hr' : resD d with
    | none =>
      refine iteT ?_
      exact ⟨_, rfl, v, rfl, fun dd hdd => qE hr' H1 dd s1 hdd⟩
    | some r =>
      refine iteF ?_
      rw [hr'] at hu
      exact ⟨_, rfl, qR r hr' H1 u s1 hu⟩
end
end Lw
set_option Elab.async false
set_option linter.all false
set_option maxRecDepth 100000
set_option maxHeartbeats 4000000
namespace Lw
open PySem L2 GL
abbrev s_format_choice : Stmt := topS 4
theorem sc_format_choice : FnScope ["choice", "requests", "over", "ways", "asked", "taken", "way"] ["choice"] (defScope s_format_choice) := ⟨rfl, rfl, rfl, by decide +kernel, rfl, by decide +kernel, by decide +kernel⟩
/-- a choice as a text -/
def fmt (ns : List Str) (b : Bool) (ws : List Bool) : Str :=
  Txt.join " " [if ns = [] then "-" else Txt.join "," ns, if b = true then "1" else "0", if ws = [] then "-" else Txt.join "" (ws.map fun w => if w = true then "1" else "0")]
def spFmt (K : PySem.W.Frag) : Sp := fun vs H Q _ => ∃ (v : V) (ns : List Str) (b : Bool) (ws : List Bool), vs = [v] ∧ Dp K H v (dat (some (ns, b, ws))) ∧ ns.length ≤ 10 ∧ (∀ x ∈ ns, Small 20 x) ∧ ws.length ≤ 20 ∧ ∀ H', Same H H' → Q (.str (fmt ns b ws)) H'
section
variable {P : Program} {w : World} {K : PySem.W.Frag} {mg : Str → Option Value} {base : Heap}
theorem ok_fmt {f : Addr} {fd : FuncData} (F : Fun K "format_choice" "format_choice" s_format_choice f fd) : FnOk P w K mg base CX0 1 f fd ["choice"] (spFmt K) := by
  refine F.ok sc_format_choice (fun vs H Q E h => ?_) (fun cdv A outer s H vs Q E hr h => ?_)
  · obtain ⟨v, ns, b, ws, rfl, _⟩ := h
    rfl
  · obtain ⟨v, ns, b, ws, rfl, hd, ln, sn, lw, q⟩ := h
    refine ⟨_, (pss_cons (ps_asg (pv 0) (pg_tup rfl (pgs_cons (pg_name (i := 1) sc_format_choice.nd rfl (.inl rfl)) (pgs_cons (pg_name (i := 2) sc_format_choice.nd rfl (.inl rfl)) (pgs_cons (pg_name (i := 3) sc_format_choice.nd rfl (.inl rfl)) pgs_nil)))))
      (Evl.pss_cut (ps_set (i := 4) sc_format_choice.nd rfl (.inl rfl) (pe_ifExp (pt_cmpR (op_neD (by exact hr.units)) (pv 1) (pe_tup pa_nil) (nomark _)) (pe_join pe_str (pv 1)) pe_str))
      (Evl.pss_cut (ps_set (i := 5) sc_format_choice.nd rfl (.inl rfl) (pe_ifExp (pt_cmpR (op_neD (by exact hr.units)) (pv 3) (pe_tup pa_nil) (nomark _)) (pe_join pe_str (pe_lc (own := [("way", 6)]) (g := gName 6) (tt := tYes) (by rfl) sc_format_choice.nd (pi_tup (pv 3)) (blkOk_by (own := [("way", 6)]) (N := ["choice", "requests", "over", "ways", "asked", "taken", "way"]) (sc := defScope s_format_choice) (by decide +kernel)) (fun _ _ _ _ _ => (pg_name (i := 6) sc_format_choice.nd rfl (Or.inl rfl))) (fun _ _ _ _ _ => pts_nil) (fun _ _ _ _ _ => (pe_ifExp (pt_val (pv 6)) pe_str pe_str)))) pe_str))
      (pss_one (ps_ret (pe_join pe_str (pe_lst (pa_cons (pv 4) (pa_cons (pe_ifExp (pt_val (pv 2)) pe_str pe_str) (pa_cons (pv 5) pa_nil)))))))))), ?_⟩
    obtain ⟨pc, xs, rfl, hc, hx⟩ := dp_tup_inv hd
    obtain ⟨v1, v2, v3, rfl, d1, d2, d3⟩ := dps3 hx
    obtain ⟨p1, x1, rfl, h1, hx1⟩ := dp_tup_inv d1
    obtain ⟨p3, x3, rfl, h3, hx3⟩ := dp_tup_inv d3
    have e2 := dp_bool_inv d2
    subst e2
    have e1 := dps_strs_inv hx1
    have e3 := dps_bools_inv hx3
    subst e1 e3
    have sg : ∀ x ∈ ns, ∀ c ∈ x.cps.toList, c < 128 := fun x hx => (sn x hx).2
    -- requests, over, ways = choice
    refine ⟨_, rfl, pc, _, rfl, hc, rfl, _, _, rfl, _, _, rfl, _, _, rfl, rfl, ?_⟩
    -- asked
    refine ⟨fun σ' H' => σ' = [some (.ref pc), some (.ref p1), some (.bl b), some (.ref p3), some (.str (if ns = [] then "-" else Txt.join "," ns)), none, none] ∧ Same H H', ?_, ?_⟩
    · refine ⟨_, rfl, Nat.zero_le _, fun t0 ht0 => ?_⟩
      have s0 := same_new (o := .tup []) ht0
      refine ⟨.tuple (ns.map PyData.str), .tuple [], .tup (same_t s0 h1) (dps_strs _), dp_tup upd_same .nil, shaped_of (strs_lay sg) ?_, rfl, _, rfl, ?_⟩
      · show PyData.depthAll (ns.map PyData.str) + 1 ≤ 64
        rw [strs_depth]
        decide
      show if (!PyData.eqvAll (ns.map PyData.str) []) = true then _ else _
      rw [eqvAll_nil]
      cases ns with
      | nil => exact iteF ⟨rfl, s0⟩
      | cons y r =>
        refine iteT ⟨⟨_, rfl⟩, _, rfl, ",", p1, y :: r, rfl, rfl, .inr (same_t s0 h1), ?_, ?_⟩
        · have h5 : (((y :: r).map (·.length)).sum) ≤ 20 * (y :: r).length := by
            clear sg hx1 h1 q hd d1 ln
            revert sn
            generalize y :: r = l
            intro sn
            induction l with
            | nil => exact Nat.le_refl _
            | cons x l ih =>
              have z1 := (sn x List.mem_cons_self).1
              have z2 := ih fun z hz => sn z (List.mem_cons_of_mem _ hz)
              rw [List.map_cons, List.sum_cons, List.length_cons]
              omega
          show ((y :: r).map (·.length)).sum + (y :: r).length * 1 ≤ 16777216
          omega
        · exact ⟨rfl, s0⟩
    rintro σ1 H1 ⟨rfl, s1⟩
    -- taken
    refine ⟨fun σ' H' => σ' = [some (.ref pc), some (.ref p1), some (.bl b), some (.ref p3), some (.str (if ns = [] then "-" else Txt.join "," ns)), some (.str (if ws = [] then "-" else Txt.join "" (ws.map fun w => if w = true then "1" else "0"))), none] ∧ Same H H', ?_, ?_⟩
    · refine ⟨_, rfl, Nat.zero_le _, fun t0 ht0 => ?_⟩
      have s0 := s1.trans (same_new (o := .tup []) ht0)
      refine ⟨.tuple (ws.map PyData.bool), .tuple [], .tup (same_t s0 h3) (dps_bools _), dp_tup upd_same .nil, shaped_of (bools_lay ws) ?_, rfl, _, rfl, ?_⟩
      · show PyData.depthAll (ws.map PyData.bool) + 1 ≤ 64
        rw [bools_depth]
        decide
      show if (!PyData.eqvAll (ws.map PyData.bool) []) = true then _ else _
      rw [eqvAll_nil]
      cases ws with
      | nil => exact iteF ⟨rfl, s0⟩
      | cons y r =>
        refine iteT ⟨⟨_, rfl⟩, ?_⟩
        refine lc_tupV (K := K) (a := p3) (xs := (y :: r).map V.bl) (fun x => .str (if x = .bl true then "1" else "0")) ?_ ?_ (same_t s0 h3) ?_ ?_ ?_
        · rw [List.length_map]
          exact Nat.lt_of_le_of_lt lw (by decide)
        · exact fun R h => ⟨_, rfl, h⟩
        · exact fun y => rfl
        · intro x hx H' R _ h
          obtain ⟨bb, _, rfl⟩ := List.mem_map.mp hx
          refine ⟨_, rfl, bb, rfl, ?_⟩
          cases bb with
          | true => exact iteT h
          | false => exact iteF h
        · intro D hD
          have em : ((y :: r).map V.bl).map (fun x => V.str (if x = .bl true then "1" else "0")) = ((y :: r).map fun w => (if w = true then ("1" : Str) else "0")).map V.str := by
            rw [List.map_map, List.map_map]
            refine List.map_congr_left fun z _ => ?_
            cases z <;> rfl
          rw [em]
          refine ⟨"", D, _, rfl, rfl, .inl (SqL.of upd_same), ?_, ?_⟩
          · have h5 : ∀ l : List Bool, ((l.map fun w => (if w = true then ("1" : Str) else "0")).map (·.length)).sum = l.length := by
              intro l
              induction l with
              | nil => rfl
              | cons z l ih =>
                rw [List.map_cons, List.map_cons, List.sum_cons, ih, List.length_cons]
                cases z <;> (show 1 + l.length = l.length + 1; omega)
            rw [h5]
            show (y :: r).length + _ * 0 ≤ 16777216
            omega
          · exact ⟨rfl, s0.trans (same_new hD)⟩
    rintro σ2 H2 ⟨rfl, s2⟩
    -- the three words
    have l1 : (if ns = [] then ("-" : Str) else Txt.join "," ns).length ≤ 300 := by
      split
      · decide
      · exact Nat.le_trans (small_join (sep := ",") (by decide) sn).1 (by omega)
    have l2 : (if ws = [] then ("-" : Str) else Txt.join "" (ws.map fun w => if w = true then "1" else "0")).length ≤ 300 := by
      split
      · decide
      · rw [show Txt.join "" (ws.map fun w => if w = true then ("1" : Str) else "0") = Str.join "" (ws.map fun w => if w = true then ("1" : Str) else "0") from StrLaws.glued_eq_join _ _]
        refine Nat.le_trans (StrLaws.join_length_le _ _) ?_
        have h5 : ∀ l : List Bool, ((l.map fun w => (if w = true then ("1" : Str) else "0")).map (·.length)).sum = l.length := by
          intro l
          induction l with
          | nil => rfl
          | cons z l ih =>
            rw [List.map_cons, List.map_cons, List.sum_cons, ih, List.length_cons]
            cases z <;> (show 1 + l.length = l.length + 1; omega)
        rw [h5]
        show ws.length + _ * 0 ≤ 300
        omega
    have fin : ∀ (m : Str), m.length = 1 → m = (if b = true then ("1" : Str) else "0") → ∀ l, H2 l = none → ∃ a p ys, V.str " " = V.str a ∧ [V.ref l] = [V.ref p] ∧ (SqL K (upd H2 l (.lst [.str (if ns = [] then "-" else Txt.join "," ns), .str m, .str (if ws = [] then "-" else Txt.join "" (ws.map fun w => if w = true then "1" else "0"))])) p (ys.map V.str) ∨
        SqT K (upd H2 l (.lst [.str (if ns = [] then "-" else Txt.join "," ns), .str m, .str (if ws = [] then "-" else Txt.join "" (ws.map fun w => if w = true then "1" else "0"))])) p (ys.map V.str)) ∧ (ys.map (·.length)).sum + ys.length * a.length ≤ 16777216 ∧
        Q (.str (Txt.join a ys)) (upd H2 l (.lst [.str (if ns = [] then "-" else Txt.join "," ns), .str m, .str (if ws = [] then "-" else Txt.join "" (ws.map fun w => if w = true then "1" else "0"))])) := by
      intro m lm em l hl
      refine ⟨" ", l, [if ns = [] then "-" else Txt.join "," ns, m, if ws = [] then "-" else Txt.join "" (ws.map fun w => if w = true then "1" else "0")], rfl, rfl, .inl (SqL.of upd_same), ?_, ?_⟩
      · show (if ns = [] then ("-" : Str) else Txt.join "," ns).length + (m.length + ((if ws = [] then ("-" : Str) else Txt.join "" (ws.map fun w => if w = true then "1" else "0")).length + 0)) + 3 * 1 ≤ 16777216
        omega
      · have z := q (upd H2 l (.lst [.str (if ns = [] then "-" else Txt.join "," ns), .str m, .str (if ws = [] then "-" else Txt.join "" (ws.map fun w => if w = true then "1" else "0"))])) (s2.trans (same_new hl))
        unfold fmt at z
        rw [← em] at z
        exact z
    refine ⟨⟨_, rfl⟩, _, rfl, _, rfl, b, rfl, ?_⟩
    cases b with
    | true => exact iteT ⟨_, rfl, (by show 3 ≤ sizeLine; decide), fun l hl => fin "1" rfl rfl l hl⟩
    | false => exact iteF ⟨_, rfl, (by show 3 ≤ sizeLine; decide), fun l hl => fin "0" rfl rfl l hl⟩
end
end Lw
set_option Elab.async false
set_option linter.all false
set_option maxRecDepth 100000
set_option maxHeartbeats 4000000
namespace Lw
open PySem L2 GL
/-! ### a written choice is read back -/
theorem str_ext {x y : Str} (h : x.cps.toList = y.cps.toList) : x = y := by
  cases x; cases y
  exact congrArg Str.mk (Array.toList_inj.mp h)
def Nm (z : Str) : Prop := 1 ≤ z.length ∧ z.length ≤ 8 ∧ ∀ c ∈ z.cps.toList, 97 ≤ c ∧ c ≤ 122
theorem Nm.small {z : Str} (h : Nm z) : Small 20 z := ⟨by have := h.2.1; omega, fun c hc => by have := h.2.2 c hc; omega⟩
def asked (ns : List Str) : Str := if ns = [] then "-" else Txt.join "," ns
def bitT (w : Bool) : Str := if w = true then "1" else "0"
def bitC (w : Bool) : Nat := if w = true then 49 else 48
def taken (ws : List Bool) : Str := if ws = [] then "-" else Txt.join "" (ws.map fun w => if w = true then "1" else "0")
theorem bitT_l (w : Bool) : (bitT w).cps.toList = [bitC w] := by cases w <;> decide
theorem join_bits : ∀ ws : List Bool, (Txt.join "" (ws.map fun w => if w = true then "1" else "0")).cps.toList = ws.map bitC := by
  intro ws
  rw [show Txt.join "" (ws.map fun w => if w = true then ("1" : Str) else "0") = Str.join "" (ws.map fun w => if w = true then ("1" : Str) else "0") from StrLaws.glued_eq_join _ _]
  induction ws with
  | nil => rfl
  | cons x r ih =>
    cases r with
    | nil => exact bitT_l x
    | cons y r =>
      show ((bitT x ++ "") ++ Str.join "" ((y :: r).map fun w => if w = true then ("1" : Str) else "0")).cps.toList = bitC x :: (y :: r).map bitC
      rw [PyProof.Rows.cps_toList_append, PyProof.Rows.cps_toList_append, bitT_l, ih]
      rfl
theorem fmt_l (ns : List Str) (b : Bool) (ws : List Bool) : (fmt ns b ws).cps.toList = (asked ns).cps.toList ++ ([32] ++ ((bitT b).cps.toList ++ ([32] ++ (taken ws).cps.toList))) := by
  show (Txt.join " " [asked ns, bitT b, taken ws]).cps.toList = _
  rw [show Txt.join " " [asked ns, bitT b, taken ws] = Str.join " " [asked ns, bitT b, taken ws] from StrLaws.glued_eq_join _ _]
  show (asked ns ++ " " ++ (bitT b ++ " " ++ taken ws)).cps.toList = _
  simp only [PyProof.Rows.cps_toList_append, List.append_assoc]
  rfl
theorem join_signs {ns : List Str} (h : ∀ x ∈ ns, Nm x) : ∀ c ∈ (Txt.join "," ns).cps.toList, c = 44 ∨ (97 ≤ c ∧ c ≤ 122) := by
  intro c hc
  rw [show Txt.join "," ns = Str.join "," ns from StrLaws.glued_eq_join _ _, PyProof.Rows.mem_join] at hc
  rcases hc with ⟨x, hx, hc⟩ | ⟨_, hc⟩
  · exact .inr ((h x hx).2.2 c hc)
  · exact .inl (List.mem_singleton.mp hc)
theorem join_pos {x : Str} {r : List Str} (h : 1 ≤ x.length) : 1 ≤ (Txt.join "," (x :: r)).length := by
  rw [show Txt.join "," (x :: r) = Str.join "," (x :: r) from StrLaws.glued_eq_join _ _]
  cases r with
  | nil => exact h
  | cons y r =>
    show 1 ≤ (x ++ "," ++ Str.join "," (y :: r)).length
    rw [Str.length_append, Str.length_append]
    omega
theorem asked_signs {ns : List Str} (h : ∀ x ∈ ns, Nm x) : ∀ c ∈ (asked ns).cps.toList, c = 45 ∨ c = 44 ∨ (97 ≤ c ∧ c ≤ 122) := by
  intro c hc
  unfold asked at hc
  split at hc
  · exact .inl (List.mem_singleton.mp hc)
  · exact .inr (join_signs h c hc)
theorem taken_signs (ws : List Bool) : ∀ c ∈ (taken ws).cps.toList, c = 45 ∨ c = 48 ∨ c = 49 := by
  intro c hc
  unfold taken at hc
  split at hc
  · exact .inl (List.mem_singleton.mp hc)
  · rw [join_bits] at hc
    obtain ⟨w, _, rfl⟩ := List.mem_map.mp hc
    cases w <;> simp [bitC]
theorem asked_pos {ns : List Str} (h : ∀ x ∈ ns, Nm x) : 1 ≤ (asked ns).length := by
  unfold asked
  cases ns with
  | nil => decide
  | cons x r =>
    rw [if_neg (by simp)]
    exact join_pos (h x List.mem_cons_self).1
theorem taken_pos (ws : List Bool) : 1 ≤ (taken ws).length := by
  unfold taken
  cases ws with
  | nil => decide
  | cons x r =>
    rw [if_neg (by simp)]
    have e := join_bits (x :: r)
    show 1 ≤ (Txt.join "" ((x :: r).map fun w => if w = true then ("1" : Str) else "0")).cps.size
    rw [← Array.length_toList, e, List.length_map]
    exact Nat.le_add_left 1 _
theorem ne_empty {z : Str} (h : 1 ≤ z.length) : z ≠ "" := fun e => by
  rw [e] at h
  exact absurd h (by decide)
theorem names_asked {ns : List Str} (h : ∀ x ∈ ns, Nm x) : names (asked ns) = ns := by
  cases ns with
  | nil => rfl
  | cons x r =>
    have ea : asked (x :: r) = Txt.join "," (x :: r) := if_neg (by simp)
    have hd : asked (x :: r) ≠ "-" := fun e => by
      have hj := join_signs h 45 (by rw [← ea, e]; decide)
      omega
    unfold names
    rw [if_neg hd, ea]
    refine TL.split_join (s := 44) (S := []) (by decide) (by decide +kernel) (by simp) fun p hp hc => ?_
    have := (h p hp).2.2 44 hc
    omega
theorem res_fmt {ns : List Str} (b : Bool) (ws : List Bool) (h : ∀ x ∈ ns, Nm x) : res (fmt ns b ws) = some (ns, b, ws) := by
  have es : Txt.split (fmt ns b ws) " " = [asked ns, bitT b, taken ws] := by
    show Txt.split (Txt.join " " [asked ns, bitT b, taken ws]) " " = _
    refine TL.split_join (s := 32) (S := []) (by decide) (by decide +kernel) (by simp) fun p hp hc => ?_
    simp only [List.mem_cons, List.not_mem_nil, or_false] at hp
    rcases hp with rfl | rfl | rfl
    · have := asked_signs h 32 hc
      omega
    · have h2 : 32 ∈ (bitT b).cps.toList := hc
      rw [bitT_l] at h2
      cases b <;> simp [bitC] at h2
    · have := taken_signs ws 32 hc
      omega
  have n1 := ne_empty (asked_pos h)
  have n3 := ne_empty (taken_pos ws)
  have n2 : bitT b ≠ "" := by cases b <;> decide
  rw [res_three es, if_neg (by
    simp only [List.contains_cons, List.contains_nil, Bool.or_false, Bool.or_eq_true, beq_iff_eq, not_or]
    exact ⟨fun e => n1 e.symm, fun e => n2 e.symm, fun e => n3 e.symm⟩)]
  have c1 : (names (asked ns)).contains "" = false := by
    rw [names_asked h]
    refine Bool.eq_false_iff.mpr fun hc => ?_
    have hm : ("" : Str) ∈ ns := by simpa using hc
    exact ne_empty (h _ hm).1 rfl
  have c2 : (decide (bitT b = "0") || decide (bitT b = "1")) = true := by cases b <;> decide
  have c3 : decide (taken ws = "") = false := decide_eq_false n3
  have ew : (ways (taken ws)).cps.toList = ws.map bitC := by
    cases ws with
    | nil => rfl
    | cons x r =>
      have et : taken (x :: r) = Txt.join "" ((x :: r).map fun w => if w = true then "1" else "0") := if_neg (by simp)
      have hd : taken (x :: r) ≠ "-" := fun e => by
        have hj : 45 ∈ (taken (x :: r)).cps.toList := by rw [e]; decide
        rw [et, join_bits] at hj
        obtain ⟨w, _, ew⟩ := List.mem_map.mp hj
        cases w <;> simp [bitC] at ew
      unfold ways
      rw [if_neg hd, et, join_bits]
  have c4 : ((ways (taken ws)).cps.toList.all fun c => decide (c ∈ ("01" : Str).cps.toList)) = true := by
    rw [ew, List.all_eq_true]
    intro c hc
    obtain ⟨w, _, rfl⟩ := List.mem_map.mp hc
    cases w <;> decide
  unfold res3
  rw [c1, c2, c3, c4, if_neg (by decide), names_asked h]
  have e2 : decide (bitT b = "1") = b := by cases b <;> decide
  have e3 : bits (ways (taken ws)) = ws := by
    unfold bits
    rw [ew, List.map_map]
    have : ∀ l : List Bool, l.map ((fun c => decide ((⟨#[c]⟩ : Str) = "1")) ∘ bitC) = l := by
      intro l
      induction l with
      | nil => rfl
      | cons x r ih =>
        rw [List.map_cons, ih]
        cases x
        · exact congrArg (· :: r) (by decide)
        · exact congrArg (· :: r) (by decide)
    exact this ws
  rw [e2, e3]
/-! ### a drawn name -/
abbrev s_law_name : Stmt := topS 10
theorem sc_law_name : FnScope ["_law_pool", "_law_letters", "_law_name_here", "_law_k"] ["_law_pool"] (defScope s_law_name) := ⟨rfl, rfl, rfl, by decide +kernel, rfl, by decide +kernel, by decide +kernel⟩
def spName : Sp := fun vs H Q _ => ∃ (p c : Addr), vs = [.ref p] ∧ PoolAt H p c ∧ ∀ (H' : Hp) (z : Str), Keep p c H H' → PoolAt H' p c → Nm z → Q (.str z) H'
structure TxN (mg : Str → Option Value) : Prop where
  range : mg "range" = none
section
variable {P : Program} {w : World} {K : PySem.W.Frag} {mg : Str → Option Value} {base : Heap}
theorem ok_name {f : Addr} {fd : FuncData} (F : Fun K "_law_name" "_law_name" s_law_name f fd) (T : TxN mg) (G_pull : Fx P w K mg base CX0 1 "_law_pull" ["_law_pool", "_law_many"] spPull) : FnOk P w K mg base CX0 2 f fd ["_law_pool"] spName := by
  refine F.ok sc_law_name (fun vs H Q E h => ?_) (fun cdv A outer s H vs Q E hr h => ?_)
  · obtain ⟨p, c, rfl, _⟩ := h
    rfl
  · obtain ⟨p, c, rfl, hP, q⟩ := h
    refine ⟨_, (pss_cons (ps_set (i := 1) sc_law_name.nd rfl (.inl rfl) pe_str)
      (pss_cons (ps_set (i := 2) sc_law_name.nd rfl (.inl rfl) pe_str)
      (pss_cons (ps_for PassesOwn.never rfl (pi_range1 (by rfl) T.range (pa_cons (pe_op op_add pe_int (pe_callF G_pull (hr.mono (by decide)) (by rfl) pass0 (pa_cons (pv 0) (pa_cons pe_int pa_nil)))) pa_nil)) (pg_name (i := 3) sc_law_name.nd rfl (.inl rfl))
      (pss_one (ps_set (i := 2) sc_law_name.nd rfl (.inl rfl) (pe_op op_add_str (pv 2) (pe_ix ix_str (pv 1) (pe_callF G_pull (hr.mono (by decide)) (by rfl) pass0 (pa_cons (pv 0) (pa_cons pe_int pa_nil))) (fun _ _ => rfl))))))
      (pss_one (ps_ret (pv 2)))))), ?_⟩
    refine ⟨_, rfl, p, c, 8, rfl, hP, by decide, by decide, fun H1 n k1 p1 n0 n8 => ?_⟩
    refine ⟨_, _, rfl, rfl, 1 + n, rfl, by omega, by omega, for_range (lo := 0) (n := (1 + n).toNat) (fun i σ' H' => ∃ (y : Option V) (z : Str), σ' = [some (.ref p), some (.str "abcdefghijklmnopqrstuvwxyz"), some (.str z), y] ∧ Keep p c H H' ∧ PoolAt H' p c ∧ z.length = i ∧ ∀ c ∈ z.cps.toList, 97 ≤ c ∧ c ≤ 122) ⟨none, "", rfl, k1, p1, rfl, by decide⟩ ?_ ?_⟩
    · rintro i σ' H2 hi ⟨y, z, rfl, k2, p2, lz, hz⟩
      refine ⟨_, rfl, _, rfl, _, rfl, p, c, 26, rfl, p2, by decide, by decide, fun H3 v k3 p3 v0 v1 => ?_⟩
      obtain ⟨ch, mc, ec⟩ := atI_mem (xs := ("abcdefghijklmnopqrstuvwxyz" : Str).cps.toList) v0 v1
      refine ⟨"abcdefghijklmnopqrstuvwxyz", v, ch, rfl, rfl, by decide, ec, _, _, rfl, rfl, ?_, ?_⟩
      · show z.length + 1 ≤ sizeLine
        rw [sizeLine_eq]
        omega
      · refine ⟨_, z ++ ⟨#[ch]⟩, rfl, k2.trans k3, p3, ?_, ?_⟩
        · rw [Str.length_append, lz]
          rfl
        · intro c hc
          rw [PyProof.Rows.cps_toList_append] at hc
          rcases List.mem_append.mp hc with h | h
          · exact hz c h
          · rw [List.mem_singleton.mp h]
            exact (by decide : ∀ x ∈ ("abcdefghijklmnopqrstuvwxyz" : Str).cps.toList, 97 ≤ x ∧ x ≤ 122) ch mc
    · rintro σ' H2 ⟨y, z, rfl, k2, p2, lz, hz⟩
      exact ⟨_, rfl, q _ _ k2 p2 ⟨by omega, by omega, hz⟩⟩
end
end Lw
set_option Elab.async false
set_option linter.all false
set_option maxRecDepth 100000
set_option maxHeartbeats 4000000
namespace Lw
open PySem L2 GL
abbrev s_law : Stmt := topS 11
theorem sc_law : FnScope ["_law_script", "_law_pool", "_law_turn", "_law_names", "_law_k", "_law_over", "_law_ways", "_law_choice", "_law_text", "_law_way"] ["_law_script"] (defScope s_law) := ⟨rfl, rfl, rfl, by decide +kernel, rfl, by decide +kernel, by decide +kernel⟩
def spLaw (K : PySem.W.Frag) : Sp := fun vs H Q _ => ∃ (a : Addr) (ns : List Int), vs = [.ref a] ∧ SqL K H a (ns.map V.int) ∧ ns.length ≤ 63 ∧ ∀ H', Q (.bl true) H'
structure TxL (mg : Str → Option Value) : Prop where
  list : mg "list" = none
  range : mg "range" = none
  repr : mg "repr" = none
  tuple : mg "tuple" = none
  str : mg "str" = none
  int : mg "int" = none
theorem nm_total : ∀ {ns : List Str}, (∀ x ∈ ns, Nm x) → (ns.map (·.length)).sum ≤ 8 * ns.length
  | [], _ => Nat.le_refl _
  | x :: l, hn => by
    have z1 := (hn x List.mem_cons_self).2.1
    have z2 := nm_total fun z hz => hn z (List.mem_cons_of_mem _ hz)
    rw [List.map_cons, List.sum_cons, List.length_cons]
    omega
theorem nice_choice {ns : List Str} {b : Bool} {ws : List Bool} (hn : ∀ x ∈ ns, Nm x) (ln : ns.length ≤ 10) (lw : ws.length ≤ 20) : Nice (dat (some (ns, b, ws))) := by
  have sg : ∀ x ∈ ns, ∀ c ∈ x.cps.toList, c < 128 := fun x hx => (hn x hx).small.2
  have total := nm_total hn
  refine ⟨?_, ?_, ?_, ?_⟩
  · show (PyData.showableAll (ns.map PyData.str) && (true && (PyData.showableAll (ws.map PyData.bool) && true))) = true
    rw [strs_show, bools_show]; rfl
  · show max (PyData.depthAll (ns.map PyData.str) + 1) (max 0 (max (PyData.depthAll (ws.map PyData.bool) + 1) 0)) + 1 ≤ 60
    rw [strs_depth, bools_depth]; decide
  · show (PyData.leavesShortAll 13 (ns.map PyData.str) && (true && (PyData.leavesShortAll 13 (ws.map PyData.bool) && true))) = true
    rw [strs_short (n := 0) sg, bools_short]; rfl
  · show PyData.weightAll (ns.map PyData.str) + 1 + (0 + 1 + (PyData.weightAll (ws.map PyData.bool) + 1 + 0)) ≤ 2 ^ 20
    rw [strs_weight, bools_weight]
    have e20 : (2 : Nat) ^ 20 = 1048576 := by decide
    omega
theorem fmt_small {ns : List Str} {b : Bool} {ws : List Bool} (hn : ∀ x ∈ ns, Nm x) (ln : ns.length ≤ 10) (lw : ws.length ≤ 20) : Small 600 (fmt ns b ws) := by
  have ea : Small 210 (asked ns) := by
    unfold asked
    split
    · decide
    · exact (small_join (n := 20) (sep := ",") (by decide) fun x hx => (hn x hx).small).mono (by omega)
  have et : Small 21 (taken ws) := by
    unfold taken
    split
    · decide
    · refine ⟨?_, fun c hc => ?_⟩
      · show (Txt.join "" (ws.map fun w => if w = true then ("1" : Str) else "0")).cps.size ≤ 21
        rw [← Array.length_toList, join_bits, List.length_map]
        omega
      · rw [join_bits] at hc
        obtain ⟨w, _, rfl⟩ := List.mem_map.mp hc
        cases w <;> decide
  have eb : Small 1 (bitT b) := by cases b <;> decide
  have e := (small_join (n := 210) (sep := " ") (by decide) (xs := [asked ns, bitT b, taken ws]) (by
    intro x hx
    simp only [List.mem_cons, List.not_mem_nil, or_false] at hx
    rcases hx with rfl | rfl | rfl
    · exact ea
    · exact eb.mono (by decide)
    · exact et.mono (by decide)))
  exact ⟨by
    have h1 : (fmt ns b ws).length ≤ (asked ns).length + (1 + ((bitT b).length + (1 + (taken ws).length))) := by
      have := fmt_l ns b ws
      show (fmt ns b ws).cps.size ≤ _
      rw [← Array.length_toList, this]
      simp only [List.length_append, List.length_cons, List.length_nil, Array.length_toList]
      exact Nat.le_refl _
    have := ea.1; have := eb.1; have := et.1
    omega, e.2⟩
section
variable {P : Program} {w : World} {K : PySem.W.Frag} {mg : Str → Option Value} {base : Heap}
theorem ok_law {f C : Addr} {fd : FuncData} (F : Fun K "law" "law" s_law f fd) (T : TxL mg) (G_pull : Fx P w K mg base CX0 1 "_law_pull" ["_law_pool", "_law_many"] spPull) (G_name : Fx P w K mg base CX0 2 "_law_name" ["_law_pool"] spName)
    (G_format_choice : Fx P w K mg base CX0 1 "format_choice" ["choice"] (spFmt K)) (G_parse_choice : Fx P w K mg base (L2.CX P w) 3 "parse_choice" ["text"] (spParse K C)) : FnG P w K mg base CX0 4 f fd ["_law_script"] (spLaw K) := by
  refine okG F sc_law (fun vs H Q E h => ?_) (fun cdv A outer s H vs Q E gd hr h => ?_)
  · obtain ⟨a, ns, rfl, _⟩ := h
    rfl
  · obtain ⟨a, ns, rfl, hS, hlen, q⟩ := h
    refine ⟨_, (pss_cons (ps_set (i := 1) sc_law.nd rfl (.inl rfl) (pe_lst (pa_cons (pe_callTy call_list_of (by rfl) T.list (by decide +kernel) (pa_cons (pv 0) pa_nil)) (pa_cons pe_int (pa_cons pe_int pa_nil)))))
      (pss_cons (ps_for PassesOwn.never rfl (pi_range1 (by rfl) T.range (pa_cons pe_int pa_nil)) (pg_name (i := 2) sc_law.nd rfl (.inl rfl))
      (pss_cons (ps_set (i := 3) sc_law.nd rfl (.inl rfl) (pe_lst pa_nil))
        (pss_cons (ps_for PassesOwn.never rfl (pi_range1 (by rfl) T.range (pa_cons (pe_callF G_pull (hr.mono (by decide)) (by rfl) pass0 (pa_cons (pv 1) (pa_cons pe_int pa_nil))) pa_nil)) (pg_name (i := 4) sc_law.nd rfl (.inl rfl))
        (pss_one (ps_expr (pe_bm PySem.F.plainAttrs_list PySem.F.slot_list_append PySem.F.type_list_append mt_append (pv 3) (pa_cons (pe_callF G_name (hr.mono (by decide)) (by rfl) pass0 (pa_cons (pv 1) pa_nil)) pa_nil)))))
        (pss_cons (ps_set (i := 5) sc_law.nd rfl (.inl rfl) (pe_cmpR op_eq (pe_callF G_pull (hr.mono (by decide)) (by rfl) pass0 (pa_cons (pv 1) (pa_cons pe_int pa_nil))) pe_int (nomark _)))
        (pss_cons (ps_set (i := 6) sc_law.nd rfl (.inl rfl) (pe_lst pa_nil))
        (pss_cons (ps_for PassesOwn.never rfl (pi_range1 (by rfl) T.range (pa_cons (pe_callF G_pull (hr.mono (by decide)) (by rfl) pass0 (pa_cons (pv 1) (pa_cons pe_int pa_nil))) pa_nil)) (pg_name (i := 4) sc_law.nd rfl (.inl rfl))
        (pss_one (ps_expr (pe_bm PySem.F.plainAttrs_list PySem.F.slot_list_append PySem.F.type_list_append mt_append (pv 6) (pa_cons (pe_cmpR op_eq (pe_callF G_pull (hr.mono (by decide)) (by rfl) pass0 (pa_cons (pv 1) (pa_cons pe_int pa_nil))) pe_int (nomark _)) pa_nil)))))
        (pss_cons (ps_set (i := 7) sc_law.nd rfl (.inl rfl) (pe_tup (pa_cons (pe_callTy call_tuple_of (by rfl) T.tuple (by decide +kernel) (pa_cons (pv 3) pa_nil)) (pa_cons (pv 5) (pa_cons (pe_callTy call_tuple_of (by rfl) T.tuple (by decide +kernel) (pa_cons (pv 6) pa_nil)) pa_nil)))))
        (pss_cons (ps_set (i := 8) sc_law.nd rfl (.inl rfl) (pe_join pe_str (pv 3)))
        (Evl.pss_cut (ps_if (pt_cmpR (op_eqD (by exact hr.units)) (pv 3) (pe_lst pa_nil) (nomark _))
        (pss_one (ps_set (i := 8) sc_law.nd rfl (.inl rfl) pe_str))
        pss_nil)
        (pss_cons (ps_set (i := 8) sc_law.nd rfl (.inl rfl) (pe_op op_add_str (pe_op op_add_str (pe_op op_add_str (pv 8) pe_str) (pe_callTy call_str_int (by rfl) T.str (by decide +kernel) (pa_cons (pe_callTy call_int1 (by rfl) T.int (by decide +kernel) (pa_cons (pv 5) pa_nil)) pa_nil))) pe_str))
        (pss_cons (ps_for PassesOwn.never rfl (pi_list (pv 6)) (pg_name (i := 9) sc_law.nd rfl (.inl rfl))
        (pss_one (ps_set (i := 8) sc_law.nd rfl (.inl rfl) (pe_op op_add_str (pv 8) (pe_callTy call_str_int (by rfl) T.str (by decide +kernel) (pa_cons (pe_callTy call_int1 (by rfl) T.int (by decide +kernel) (pa_cons (pv 9) pa_nil)) pa_nil))))))
        (Evl.pss_cut (ps_if (pt_cmpR (op_eqD (by exact hr.units)) (pv 6) (pe_lst pa_nil) (nomark _))
        (pss_one (ps_set (i := 8) sc_law.nd rfl (.inl rfl) (pe_op op_add_str (pv 8) pe_str)))
        pss_nil)
        (Evl.pss_cut (ps_if (PW.pt (pw_or (pt_cmpR op_ne (pe_callB (call_reprD (by exact gd) (by exact hr.units)) (by rfl) T.repr (by decide +kernel) (pa_cons (pe_callF G_format_choice (hr.mono (by decide)) (by rfl) pass0 (pa_cons (pv 7) pa_nil)) pa_nil)) (pe_callB (call_reprD (by exact gd) (by exact hr.units)) (by rfl) T.repr (by decide +kernel) (pa_cons (pv 8) pa_nil)) (nomark _)) (pw_or1 (pt_cmpR op_ne (pe_callB (call_reprD (by exact gd) (by exact hr.units)) (by rfl) T.repr (by decide +kernel) (pa_cons (pe_callF G_parse_choice (hr.mono (by decide)) (by rfl) passL (pa_cons (pv 8) pa_nil)) pa_nil)) (pe_callB (call_reprD (by exact gd) (by exact hr.units)) (by rfl) T.repr (by decide +kernel) (pa_cons (pv 7) pa_nil)) (nomark _)))))
        (pss_one (ps_ret pe_bl))
        pss_nil)
        (pss_one (ps_if (pt_cmpR op_ne (pe_callF G_format_choice (hr.mono (by decide)) (by rfl) pass0 (pa_cons (pe_callF G_parse_choice (hr.mono (by decide)) (by rfl) passL (pa_cons (pv 8) pa_nil)) pa_nil)) (pv 8) (nomark _))
        (pss_one (ps_ret pe_bl))
        pss_nil)))))))))))))))
      (pss_one (ps_ret pe_bl)))), ?_⟩
    refine ⟨_, rfl, a, _, rfl, .inl hS, fun cc hcc => ⟨(by show 3 ≤ sizeLine; decide), fun p hp => ?_⟩⟩
    have hP : PoolAt (upd (upd H cc (.lst (ns.map V.int))) p (.lst [.ref cc, .int 0, .int 0])) p cc :=
      ⟨0, 0, ns, upd_same, same_new (o := .lst [.ref cc, .int 0, .int 0]) hp _ _ upd_same, hlen⟩
    refine ⟨2, rfl, by decide, by decide, for_range (lo := 0) (n := 2) (fun i σ' H' => ∃ y2 y3 y4 y5 y6 y7 y8 y9, σ' = [some (.ref a), some (.ref p), y2, y3, y4, y5, y6, y7, y8, y9] ∧ PoolAt H' p cc) ⟨none, none, none, none, none, none, none, none, rfl, hP⟩ ?_ ?_⟩
    rotate_left
    · rintro σ' H' ⟨y2, y3, y4, y5, y6, y7, y8, y9, rfl, _⟩
      exact q _
    rintro i σ' H1 hi ⟨y2, y3, y4, y5, y6, y7, y8, y9, rfl, P1⟩
    generalize hti : (0 + (i : Int)) = ti
    -- names
    refine ⟨Nat.zero_le _, fun l hl => ?_⟩
    have nl := P1.np hl
    refine ⟨_, rfl, p, cc, 6, rfl, P1.fresh hl, by decide, by decide, fun H2 n2 k2 p2 n20 n26 => ?_⟩
    have hl2 := k2 _ _ nl.1 nl.2 upd_same
    refine ⟨n2, rfl, by omega, by omega, for_range (lo := 0) (n := n2.toNat) (fun i σ' H' => ∃ (y4 : Option V) (ns : List Str), σ' = [some (.ref a), some (.ref p), some (.int ti), some (.ref l), y4, y5, y6, y7, y8, y9] ∧ PoolAt H' p cc ∧ H' l = some (.lst (ns.map V.str)) ∧ ns.length = i ∧ ∀ x ∈ ns, Nm x)
      ⟨y4, [], rfl, p2, hl2, rfl, fun x hx => nomatch hx⟩ ?_ ?_⟩
    · rintro j σ' H3 hj ⟨y4', ms, rfl, p3, hl3, lm, hm⟩
      refine ⟨_, rfl, .inl ⟨rfl, _, SqL.of hl3⟩, _, rfl, p, cc, rfl, p3, fun H4 z k4 p4 nz => ?_⟩
      have hl4 := k4 _ _ nl.1 nl.2 hl3
      refine ⟨l, _, _, rfl, rfl, hl4, ?_, ?_⟩
      · rw [List.length_map, lm]
        exact Nat.lt_of_lt_of_le (show j < 6 by omega) (by decide)
      · refine ⟨_, ms ++ [z], rfl, p4.put nl.1 nl.2, ?_, ?_, ?_⟩
        · rw [upd_same, List.map_append]
          rfl
        · rw [List.length_append, lm]
          rfl
        · intro x hx
          rcases List.mem_append.mp hx with h | h
          · exact hm x h
          · rw [List.mem_singleton.mp h]
            exact nz
    rintro σ' H3 ⟨y4', ms, rfl, p3, hl3, lm, hm⟩
    have lms : ms.length ≤ 5 := by omega
    -- over
    refine ⟨_, rfl, p, cc, 2, rfl, p3, by decide, by decide, fun H4 n4 k4 p4 _ _ => ⟨rfl, ?_⟩⟩
    have hl4 := k4 _ _ nl.1 nl.2 hl3
    generalize hb : decide (V.int n4 = V.int 1) = b
    -- ways
    refine ⟨Nat.zero_le _, fun m hmn => ?_⟩
    have nm := p4.np hmn
    have nlm : l ≠ m := ne_of_none hl4 hmn
    have hl5 := same_new (o := .lst []) hmn _ _ hl4
    refine ⟨_, rfl, p, cc, 10, rfl, p4.fresh hmn, by decide, by decide, fun H6 n6 k6 p6 n60 n61 => ?_⟩
    have hl6 := k6 _ _ nl.1 nl.2 hl5
    have hm6 := k6 _ _ nm.1 nm.2 upd_same
    refine ⟨n6, rfl, by omega, by omega, for_range (lo := 0) (n := n6.toNat) (fun i σ' H' => ∃ (y4 : Option V) (ws : List Bool), σ' = [some (.ref a), some (.ref p), some (.int ti), some (.ref l), y4, some (.bl b), some (.ref m), y7, y8, y9] ∧ PoolAt H' p cc ∧ H' l = some (.lst (ms.map V.str)) ∧ H' m = some (.lst (ws.map V.bl)) ∧ ws.length = i)
      ⟨y4', [], rfl, p6, hl6, hm6, rfl⟩ ?_ ?_⟩
    · rintro j σ' H7 hj ⟨y4'', ws, rfl, p7, hl7, hm7, lw⟩
      refine ⟨_, rfl, .inl ⟨rfl, _, SqL.of hm7⟩, _, rfl, p, cc, 2, rfl, p7, by decide, by decide, fun H8 n8 k8 p8 _ _ => ⟨rfl, ?_⟩⟩
      have hl8 := k8 _ _ nl.1 nl.2 hl7
      have hm8 := k8 _ _ nm.1 nm.2 hm7
      refine ⟨m, _, _, rfl, rfl, hm8, ?_, ?_⟩
      · rw [List.length_map, lw]
        exact Nat.lt_of_lt_of_le (show j < 10 by omega) (by decide)
      · refine ⟨_, ws ++ [decide (V.int n8 = V.int 1)], rfl, p8.put nm.1 nm.2, ?_, ?_, ?_⟩
        · rw [upd_ne nlm]
          exact hl8
        · rw [upd_same, List.map_append]
          rfl
        · rw [List.length_append, lw]
          rfl
    rintro σ' H7 ⟨y4'', ws, rfl, p7, hl7, hm7, lw⟩
    have lws : ws.length ≤ 9 := by omega
    -- choice
    refine ⟨_, rfl, l, _, rfl, .inl ⟨SqL.of hl7, fun t1 h1 => ?_⟩⟩
    have s1 := same_new (o := .tup (ms.map V.str)) h1
    refine ⟨_, rfl, _, rfl, m, _, rfl, .inl ⟨SqL.of (s1 _ _ hm7), fun t2 h2 => ⟨(by show 3 ≤ sizeLine; decide), fun t3 h3 => ?_⟩⟩⟩
    have s2 := same_new (o := .tup (ws.map V.bl)) h2
    have s3 := same_new (o := .tup [V.ref t1, .bl b, .ref t2]) h3
    generalize hH8 : upd (upd (upd H7 t1 (.tup (ms.map V.str))) t2 (.tup (ws.map V.bl))) t3 (.tup [V.ref t1, .bl b, .ref t2]) = H8
    have dc : Dp K H8 (.ref t3) (dat (some (ms, b, ws))) := by
      rw [← hH8]
      exact dp_tup upd_same (.cons (dp_tup (s3 _ _ (s2 _ _ upd_same)) (dps_strs _)) (.cons (.bl _) (.cons (dp_tup (s3 _ _ upd_same) (dps_bools _)) .nil)))
    have s8 : Same H7 H8 := by
      rw [← hH8]
      exact s1.trans (s2.trans s3)
    have p8 : PoolAt H8 p cc := by
      rw [← hH8]
      exact ((p7.fresh h1).fresh h2).fresh h3
    have hl8 := s8 _ _ hl7
    have hm8 := s8 _ _ hm7
    -- text = ','.join(names)
    have smn : ∀ x ∈ ms, Small 20 x := fun x hx => (hm x hx).small
    have total := nm_total hm
    refine ⟨⟨_, rfl⟩, _, rfl, ",", l, ms, rfl, rfl, .inl (SqL.of hl8), ?_, ?_⟩
    · show (ms.map (·.length)).sum + ms.length * 1 ≤ 16777216
      omega
    -- if names == []: text = '-'
    refine ⟨fun σ' H' => σ' = [some (.ref a), some (.ref p), some (.int ti), some (.ref l), y4'', some (.bl b), some (.ref m), some (.ref t3), some (.str (asked ms)), y9] ∧ Same H8 H', ?_, ?_⟩
    · refine ⟨_, rfl, Nat.zero_le _, fun e1 he1 => ?_⟩
      have s0 := same_new (o := .lst []) he1
      refine ⟨.list (ms.map PyData.str), .list [], .lst (SqL.of (s0 _ _ hl8)) (dps_strs _), dp_lst upd_same .nil, shaped_of (strs_lay fun x hx => (smn x hx).2) ?_, rfl, _, rfl, ?_⟩
      · show PyData.depthAll (ms.map PyData.str) + 1 ≤ 64
        rw [strs_depth]
        decide
      show if PyData.eqvAll (ms.map PyData.str) [] = true then _ else _
      rw [eqvAll_nil]
      cases ms with
      | nil => exact iteT ⟨rfl, s0⟩
      | cons x r => exact iteF ⟨rfl, s0⟩
    rintro σ' H9 ⟨rfl, s9⟩
    have sa : Small 210 (asked ms) := by
      unfold asked
      split
      · decide
      · exact (small_join (n := 20) (sep := ",") (by decide) smn).mono (by omega)
    have la := sa.1
    -- text = text + ' ' + str(int(over)) + ' '
    have eint : ∀ x : Bool, Str.ofString (toString (if x = true then (1 : Int) else 0)) = bitT x := fun x => by cases x <;> decide
    refine ⟨_, rfl, _, _, rfl, rfl, ?_, _, rfl, .inr ⟨_, rfl, _, rfl, ?_, _, _, rfl, rfl, ?_, _, _, rfl, rfl, ?_, ?_⟩⟩
    · show (asked ms).length + 1 ≤ sizeLine
      rw [sizeLine_eq]
      omega
    · cases b <;> decide
    · rw [eint, Str.length_append]
      have : (bitT b).length = 1 := by cases b <;> decide
      show (asked ms).length + 1 + (bitT b).length ≤ sizeLine
      rw [sizeLine_eq]
      omega
    · rw [eint, Str.length_append, Str.length_append]
      have : (bitT b).length = 1 := by cases b <;> decide
      show (asked ms).length + 1 + (bitT b).length + 1 ≤ sizeLine
      rw [sizeLine_eq]
      omega
    rw [eint]
    generalize hT : asked ms ++ " " ++ bitT b ++ " " = T1
    have eT : T1.cps.toList = (asked ms).cps.toList ++ ([32] ++ ((bitT b).cps.toList ++ [32])) := by
      rw [← hT]
      simp only [PyProof.Rows.cps_toList_append, List.append_assoc]
      rfl
    have lT : T1.cps.toList.length ≤ 213 := by
      rw [eT, bitT_l]
      simp only [List.length_append, List.length_cons, List.length_nil]
      have : (asked ms).cps.toList.length = (asked ms).length := Array.length_toList
      omega
    have hm9 := s9 _ _ hm8
    -- for way in ways
    refine ⟨_, rfl, m, rfl, ⟨_, SqL.of hm9⟩, for_list (K := K) (a := m) (xs := ws.map V.bl) (fun i σ' H' => ∃ (y : Option V) (z : Str), σ' = [some (.ref a), some (.ref p), some (.int ti), some (.ref l), y4'', some (.bl b), some (.ref m), some (.ref t3), some (.str z), y] ∧ H' = H9 ∧ z.cps.toList = T1.cps.toList ++ (ws.take i).map bitC)
      ⟨y9, T1, rfl, rfl, (List.append_nil _).symm⟩ (fun i σ H' _ ⟨_, _, _, e, _⟩ => by rw [e]; exact SqL.of hm9) ?_ ?_⟩
    · rintro j x σ' H' hj ⟨y, z, rfl, rfl, ez⟩
      rw [List.getElem?_map] at hj
      cases hw : ws[j]? with
      | none =>
        rw [hw] at hj
        cases hj
      | some bb =>
        rw [hw] at hj
        have ex : V.bl bb = x := Option.some.inj hj
        subst ex
        have lz : z.length ≤ 230 := by
          show z.cps.size ≤ 230
          rw [← Array.length_toList, ez, List.length_append, List.length_map, List.length_take]
          omega
        refine ⟨_, rfl, _, rfl, .inr ⟨_, rfl, _, rfl, ?_, _, _, rfl, rfl, ?_, ?_⟩⟩
        · cases bb <;> decide
        · rw [eint]
          have : (bitT bb).length = 1 := by cases bb <;> decide
          rw [sizeLine_eq]
          omega
        · refine ⟨_, _, rfl, rfl, ?_⟩
          rw [eint, PyProof.Rows.cps_toList_append, ez, bitT_l, List.take_add_one, hw, List.map_append, List.append_assoc]
          rfl
    rintro σ' H' ⟨y, z, rfl, rfl, ez⟩
    rw [List.length_map, List.take_length] at ez
    -- if ways == []: text = text + '-'
    refine ⟨fun σ' H'' => σ' = [some (.ref a), some (.ref p), some (.int ti), some (.ref l), y4'', some (.bl b), some (.ref m), some (.ref t3), some (.str (fmt ms b ws)), y] ∧ Same H' H'', ?_, ?_⟩
    · refine ⟨_, rfl, Nat.zero_le _, fun e1 he1 => ?_⟩
      have s0 := same_new (o := .lst []) he1
      refine ⟨.list (ws.map PyData.bool), .list [], .lst (SqL.of (s0 _ _ hm9)) (dps_bools _), dp_lst upd_same .nil, shaped_of (bools_lay ws) ?_, rfl, _, rfl, ?_⟩
      · show PyData.depthAll (ws.map PyData.bool) + 1 ≤ 64
        rw [bools_depth]
        decide
      show if PyData.eqvAll (ws.map PyData.bool) [] = true then _ else _
      rw [eqvAll_nil]
      cases ws with
      | nil =>
        refine iteT ⟨_, rfl, _, _, rfl, rfl, ?_, ?_⟩
        · have lz : z.length ≤ 230 := by
            show z.cps.size ≤ 230
            rw [← Array.length_toList, ez, List.length_append]
            show T1.cps.toList.length + 0 ≤ 230
            omega
          show z.length + 1 ≤ sizeLine
          rw [sizeLine_eq]
          omega
        · have e : z ++ "-" = fmt ms b [] := by
            refine str_ext ?_
            rw [PyProof.Rows.cps_toList_append, ez, eT, fmt_l]
            simp only [List.append_assoc, List.map_nil, List.append_nil]
            rfl
          rw [e]
          exact ⟨rfl, s0⟩
      | cons x r =>
        have e : z = fmt ms b (x :: r) := by
          refine str_ext ?_
          have et : taken (x :: r) = Txt.join "" ((x :: r).map fun w => if w = true then "1" else "0") := if_neg (by simp)
          rw [ez, eT, fmt_l, et, join_bits]
          simp only [List.append_assoc]
        rw [e]
        exact iteF ⟨rfl, s0⟩
    rintro σ' HA ⟨rfl, sA⟩
    have sHA : Same H8 HA := s9.trans sA
    have dcA := dp_mono sHA dc
    have nc := nice_choice (b := b) hm (by omega : ms.length ≤ 10) (by omega : ws.length ≤ 20)
    have sf := fmt_small (b := b) hm (by omega : ms.length ≤ 10) (by omega : ws.length ≤ 20)
    have nf := nice_str sf (by decide)
    have rf := res_fmt b ws hm
    -- the comparisons
    refine ⟨fun σ' H'' => σ' = [some (.ref a), some (.ref p), some (.int ti), some (.ref l), y4'', some (.bl b), some (.ref m), some (.ref t3), some (.str (fmt ms b ws)), y] ∧ Same HA H'', ?_, ?_⟩
    · refine ⟨_, rfl, .ref t3, ms, b, ws, rfl, dcA, by omega, smn, by omega, fun HB sB => ?_⟩
      refine ⟨_, .str (fmt ms b ws), rfl, .str _, nf.1, nf.2.1, nf.fits, _, rfl, _, .str (fmt ms b ws), rfl, .str _, nf.1, nf.2.1, nf.fits, rfl, _, rfl, ?_⟩
      show if (!decide (V.str (PyData.str (fmt ms b ws)).shown = V.str (PyData.str (fmt ms b ws)).shown)) = true then _ else _
      rw [decide_eq_true rfl]
      refine iteF ⟨_, rfl, _, .str (fmt ms b ws), rfl, .str _, fun z e => by cases e; exact Nat.le_trans sf.1 (by decide), fun h => ?_, fun r hr HC u sC hu => ?_⟩
      · have h' : res (fmt ms b ws) = none := h
        rw [rf] at h'
        exact nomatch h'
      · have er : some (ms, b, ws) = some r := rf.symm.trans hr
        rw [← er] at hu
        refine ⟨u, _, rfl, hu, nc.1, nc.2.1, nc.fits, _, rfl, .ref t3, _, rfl, dp_mono (sB.trans sC) dcA, nc.1, nc.2.1, nc.fits, rfl, _, rfl, ?_⟩
        show if (!decide (V.str (dat (some (ms, b, ws))).shown = V.str (dat (some (ms, b, ws))).shown)) = true then _ else _
        rw [decide_eq_true rfl]
        exact iteF ⟨rfl, sB.trans sC⟩
    rintro σ' HD ⟨rfl, sD⟩
    refine ⟨_, rfl, _, .str (fmt ms b ws), rfl, .str _, fun z e => by cases e; exact Nat.le_trans sf.1 (by decide), fun h => ?_, fun r hr HE u sE hu => ?_⟩
    · have h' : res (fmt ms b ws) = none := h
      rw [rf] at h'
      exact nomatch h'
    have er : some (ms, b, ws) = some r := rf.symm.trans hr
    rw [← er] at hu
    refine ⟨u, ms, b, ws, rfl, hu, by omega, smn, by omega, fun HF sF => ⟨_, rfl, rfl, _, rfl, ?_⟩⟩
    show if (!decide (V.str (fmt ms b ws) = V.str (fmt ms b ws))) = true then _ else _
    rw [decide_eq_true rfl]
    refine iteF ⟨_, _, _, _, _, _, _, _, rfl, ?_⟩
    obtain ⟨n, sd, ns', e1, e2, e3⟩ := p8
    have sAll : Same H8 HF := sHA.trans (sD.trans (sE.trans sF))
    exact ⟨n, sd, ns', sAll _ _ e1, sAll _ _ e2, e3⟩
end
end Lw
set_option Elab.async false
set_option linter.all false
set_option maxRecDepth 100000
set_option maxHeartbeats 4000000
namespace Lw
open PySem L2 GL
theorem all_mk {l : PySem.W.OpenLaw} {w : World} {K : PySem.W.Frag} {h : Heap} {mg : Str → Option Value} {fa : Addr} {R_RunError C_ParseError fI_ParseError f_format_choice f_choice_of f_read_choice f_parse_choice f_law_pull f_law_name f_law : Addr} (X : K.In h) (G : h.Ns mainGlobals mg) (hfa : mg "law" = some (.ref fa))
    {nm_ParseError q_ParseError : Str} {N_ParseError : Addr} {bs_ParseError : List Value} {sn_ParseError : List Str} {sb_ParseError : List Value} {ab_ParseError : Bool} {co_ParseError : Option Bool} {dd_ParseError : Option Addr} {m0_ParseError m1_ParseError m2_ParseError m3_ParseError m5_ParseError : Option Value}
    {od_ParseError___init__ an_ParseError___init__ : Option Addr} {sl_ParseError___init__ : Array (Option Value)} {oc_ParseError___init__ kV_ParseError___init__ dc_ParseError___init__ pm_ParseError___init__ cd_ParseError___init__ ct_ParseError___init__ : Value}
    {od_format_choice an_format_choice : Option Addr} {sl_format_choice : Array (Option Value)} {oc_format_choice kV_format_choice dc_format_choice pm_format_choice cd_format_choice ct_format_choice : Value}
    {od_choice_of an_choice_of : Option Addr} {sl_choice_of : Array (Option Value)} {oc_choice_of kV_choice_of dc_choice_of pm_choice_of cd_choice_of ct_choice_of : Value}
    {od_read_choice an_read_choice : Option Addr} {sl_read_choice : Array (Option Value)} {oc_read_choice kV_read_choice dc_read_choice pm_read_choice cd_read_choice ct_read_choice : Value}
    {od_parse_choice an_parse_choice : Option Addr} {sl_parse_choice : Array (Option Value)} {oc_parse_choice kV_parse_choice dc_parse_choice pm_parse_choice cd_parse_choice ct_parse_choice : Value}
    {od_law_pull an_law_pull : Option Addr} {sl_law_pull : Array (Option Value)} {oc_law_pull kV_law_pull dc_law_pull pm_law_pull cd_law_pull ct_law_pull : Value}
    {od_law_name an_law_name : Option Addr} {sl_law_name : Array (Option Value)} {oc_law_name kV_law_name dc_law_name pm_law_name cd_law_name ct_law_name : Value}
    {od_law an_law : Option Addr} {sl_law : Array (Option Value)} {oc_law kV_law dc_law pm_law cd_law ct_law : Value}
    (a_RunError : PySem.W.nsIn K mainGlobals "RunError" = some (some (.ref R_RunError)))
    (rd_RunError : PySem.W.readsIn K R_RunError (.type "type") = true)
    (ga_RunError : PySem.W.specialIn K (.ref R_RunError) "__getattribute__" = some (some (.builtin "type.__getattribute__")))
    (tb_RunError : PySem.W.typeIn K (.ref R_RunError) = some (.type "type"))
    (ib_RunError : PySem.W.isClsIn K R_RunError = true)
    (at_RunError : PySem.W.findCls K (.ref R_RunError) (.type "type") "__init__" = some (.val (.builtin "ValueError.__init__")))
    (a_ParseError : PySem.W.nsIn K mainGlobals "ParseError" = some (some (.ref C_ParseError)))
    (x_ParseError : K.lookup C_ParseError = some (excClassObj nm_ParseError q_ParseError C_ParseError N_ParseError bs_ParseError [.ref R_RunError, .type "ValueError", .type "Exception", .type "BaseException", .type "object"] true sn_ParseError sb_ParseError ab_ParseError co_ParseError dd_ParseError m0_ParseError m1_ParseError m2_ParseError m3_ParseError m5_ParseError "ValueError.__new__"))
    (sa_ParseError : PySem.W.findIn K (.ref C_ParseError) "__setattr__" = some (some (.builtin "object.__setattr__")))
    (gt_ParseError : PySem.W.findIn K (.ref C_ParseError) "__getattribute__" = some (some (.builtin "BaseException.__getattribute__")))
    (gg_ParseError : PySem.W.findIn K (.ref C_ParseError) "__getattr__" = some none)
    (nf_ParseError : PySem.W.findIn K (.ref C_ParseError) "line" = some none)
    (kC_ParseError : PySem.W.keepIn K (.ref C_ParseError) = true)
    (eC_ParseError : PySem.W.subIn K (.ref C_ParseError) (.type "BaseException") = some true)
    (tC_ParseError : PySem.W.typeIn K (.ref C_ParseError) = some (.type "type"))
    (hC_ParseError : PySem.W.hasDictIn K C_ParseError = true)
    (sC_ParseError : PySem.W.subIn K (.ref C_ParseError) (.ref C_ParseError) = some true)
    (ca_ParseError : PySem.W.findIn K (.ref C_ParseError) "__class__" = some (some (.builtin "object.__class__")))
    (cm_ParseError : PySem.W.mroIn K C_ParseError (.type "object") = some true)
    (kr_ParseError : PySem.W.subIn K (.ref C_ParseError) (.ref R_RunError) = some true)
    (i_ParseError : PySem.W.findIn K (.ref C_ParseError) "__init__" = some (some (.ref fI_ParseError)))
    (ti_ParseError : PySem.W.typeIn K (.ref fI_ParseError) = some (.type "function"))
    (l_ParseError___init__ : K.lookup fI_ParseError = some ⟨oc_ParseError___init__, od_ParseError___init__, .func (PySem.W.fnOf "__init__" "ParseError.__init__" (defArgs s_ParseError___init__) (defBody s_ParseError___init__) (defScope s_ParseError___init__) .none kV_ParseError___init__ dc_ParseError___init__ pm_ParseError___init__ an_ParseError___init__ cd_ParseError___init__ ct_ParseError___init__), sl_ParseError___init__⟩)
    (c_ParseError___init__ : PySem.W.codeIn K cd_ParseError___init__ "ParseError.__init__" = true)
    (k_ParseError___init__ : PySem.W.keepIn K (.ref fI_ParseError) = true)
    (o_get : PySem.W.specialIn K (.builtin "object.__class__") "__get__" = some (some (.builtin "getset_descriptor.__get__")))
    (o_tak : PySem.W.takesIn K (.builtin "object.__class__") = some true)
    (a_format_choice : PySem.W.nsIn K mainGlobals "format_choice" = some (some (.ref f_format_choice)))
    (l_format_choice : K.lookup f_format_choice = some ⟨oc_format_choice, od_format_choice, .func (PySem.W.fnOf "format_choice" "format_choice" (defArgs s_format_choice) (defBody s_format_choice) (defScope s_format_choice) .none kV_format_choice dc_format_choice pm_format_choice an_format_choice cd_format_choice ct_format_choice), sl_format_choice⟩)
    (c_format_choice : PySem.W.codeIn K cd_format_choice "format_choice" = true)
    (k_format_choice : PySem.W.keepIn K (.ref f_format_choice) = true)
    (a_choice_of : PySem.W.nsIn K mainGlobals "choice_of" = some (some (.ref f_choice_of)))
    (l_choice_of : K.lookup f_choice_of = some ⟨oc_choice_of, od_choice_of, .func (PySem.W.fnOf "choice_of" "choice_of" (defArgs s_choice_of) (defBody s_choice_of) (defScope s_choice_of) .none kV_choice_of dc_choice_of pm_choice_of an_choice_of cd_choice_of ct_choice_of), sl_choice_of⟩)
    (c_choice_of : PySem.W.codeIn K cd_choice_of "choice_of" = true)
    (k_choice_of : PySem.W.keepIn K (.ref f_choice_of) = true)
    (a_read_choice : PySem.W.nsIn K mainGlobals "read_choice" = some (some (.ref f_read_choice)))
    (l_read_choice : K.lookup f_read_choice = some ⟨oc_read_choice, od_read_choice, .func (PySem.W.fnOf "read_choice" "read_choice" (defArgs s_read_choice) (defBody s_read_choice) (defScope s_read_choice) .none kV_read_choice dc_read_choice pm_read_choice an_read_choice cd_read_choice ct_read_choice), sl_read_choice⟩)
    (c_read_choice : PySem.W.codeIn K cd_read_choice "read_choice" = true)
    (k_read_choice : PySem.W.keepIn K (.ref f_read_choice) = true)
    (a_parse_choice : PySem.W.nsIn K mainGlobals "parse_choice" = some (some (.ref f_parse_choice)))
    (l_parse_choice : K.lookup f_parse_choice = some ⟨oc_parse_choice, od_parse_choice, .func (PySem.W.fnOf "parse_choice" "parse_choice" (defArgs s_parse_choice) (defBody s_parse_choice) (defScope s_parse_choice) .none kV_parse_choice dc_parse_choice pm_parse_choice an_parse_choice cd_parse_choice ct_parse_choice), sl_parse_choice⟩)
    (c_parse_choice : PySem.W.codeIn K cd_parse_choice "parse_choice" = true)
    (k_parse_choice : PySem.W.keepIn K (.ref f_parse_choice) = true)
    (a_law_pull : PySem.W.nsIn K mainGlobals "_law_pull" = some (some (.ref f_law_pull)))
    (l_law_pull : K.lookup f_law_pull = some ⟨oc_law_pull, od_law_pull, .func (PySem.W.fnOf "_law_pull" "_law_pull" (defArgs s_law_pull) (defBody s_law_pull) (defScope s_law_pull) .none kV_law_pull dc_law_pull pm_law_pull an_law_pull cd_law_pull ct_law_pull), sl_law_pull⟩)
    (c_law_pull : PySem.W.codeIn K cd_law_pull "_law_pull" = true)
    (k_law_pull : PySem.W.keepIn K (.ref f_law_pull) = true)
    (a_law_name : PySem.W.nsIn K mainGlobals "_law_name" = some (some (.ref f_law_name)))
    (l_law_name : K.lookup f_law_name = some ⟨oc_law_name, od_law_name, .func (PySem.W.fnOf "_law_name" "_law_name" (defArgs s_law_name) (defBody s_law_name) (defScope s_law_name) .none kV_law_name dc_law_name pm_law_name an_law_name cd_law_name ct_law_name), sl_law_name⟩)
    (c_law_name : PySem.W.codeIn K cd_law_name "_law_name" = true)
    (k_law_name : PySem.W.keepIn K (.ref f_law_name) = true)
    (a_law : PySem.W.nsIn K mainGlobals "law" = some (some (.ref f_law)))
    (l_law : K.lookup f_law = some ⟨oc_law, od_law, .func (PySem.W.fnOf "law" "law" (defArgs s_law) (defBody s_law) (defScope s_law) .none kV_law dc_law pm_law an_law cd_law ct_law), sl_law⟩)
    (c_law : PySem.W.codeIn K cd_law "law" = true)
    (k_law : PySem.W.keepIn K (.ref f_law) = true)
    (z_len : PySem.W.nsIn K mainGlobals "len" = some none)
    (z_int : PySem.W.nsIn K mainGlobals "int" = some none)
    (z_all : PySem.W.nsIn K mainGlobals "all" = some none)
    (z_tuple : PySem.W.nsIn K mainGlobals "tuple" = some none)
    (z_bool : PySem.W.nsIn K mainGlobals "bool" = some none)
    (z_isinstance : PySem.W.nsIn K mainGlobals "isinstance" = some none)
    (z_str : PySem.W.nsIn K mainGlobals "str" = some none)
    (z_list : PySem.W.nsIn K mainGlobals "list" = some none)
    (z_range : PySem.W.nsIn K mainGlobals "range" = some none)
    (z_repr : PySem.W.nsIn K mainGlobals "repr" = some none)
    : ∃ fd : FuncData, (∀ (s : Shared) (v : Value), BindsTo s fd ⟨[v], []⟩ [("_law_script", v)]) ∧ ∀ base : Heap, K.In base → base.Ns mainGlobals mg → FnG l.prog w K mg base CX0 4 fa fd ["_law_script"] (spLaw K) := by
  have e := hfa.symm.trans (PySem.W.mg_of X G a_law)
  cases e
  have F_ParseError___init__ := fun_mk (st := s_ParseError___init__) l_ParseError___init__ c_ParseError___init__ k_ParseError___init__
  have b_ParseError___init__ := F_ParseError___init__.binds (ps := ["self", "line"]) fun _ _ _ _ _ _ us hl => match us, hl with | [_, _], _ => rfl
  have F_format_choice := fun_mk (st := s_format_choice) l_format_choice c_format_choice k_format_choice
  have b_format_choice := F_format_choice.binds (ps := ["choice"]) fun _ _ _ _ _ _ us hl => match us, hl with | [_], _ => rfl
  have g_format_choice := PySem.W.mg_of X G a_format_choice
  have F_choice_of := fun_mk (st := s_choice_of) l_choice_of c_choice_of k_choice_of
  have b_choice_of := F_choice_of.binds (ps := ["words"]) fun _ _ _ _ _ _ us hl => match us, hl with | [_], _ => rfl
  have g_choice_of := PySem.W.mg_of X G a_choice_of
  have F_read_choice := fun_mk (st := s_read_choice) l_read_choice c_read_choice k_read_choice
  have b_read_choice := F_read_choice.binds (ps := ["text"]) fun _ _ _ _ _ _ us hl => match us, hl with | [_], _ => rfl
  have g_read_choice := PySem.W.mg_of X G a_read_choice
  have F_parse_choice := fun_mk (st := s_parse_choice) l_parse_choice c_parse_choice k_parse_choice
  have b_parse_choice := F_parse_choice.binds (ps := ["text"]) fun _ _ _ _ _ _ us hl => match us, hl with | [_], _ => rfl
  have g_parse_choice := PySem.W.mg_of X G a_parse_choice
  have F_law_pull := fun_mk (st := s_law_pull) l_law_pull c_law_pull k_law_pull
  have b_law_pull := F_law_pull.binds (ps := ["_law_pool", "_law_many"]) fun _ _ _ _ _ _ us hl => match us, hl with | [_, _], _ => rfl
  have g_law_pull := PySem.W.mg_of X G a_law_pull
  have F_law_name := fun_mk (st := s_law_name) l_law_name c_law_name k_law_name
  have b_law_name := F_law_name.binds (ps := ["_law_pool"]) fun _ _ _ _ _ _ us hl => match us, hl with | [_], _ => rfl
  have g_law_name := PySem.W.mg_of X G a_law_name
  have F_law := fun_mk (st := s_law) l_law c_law k_law
  have b_law := F_law.binds (ps := ["_law_script"]) fun _ _ _ _ _ _ us hl => match us, hl with | [_], _ => rfl
  have g_law := PySem.W.mg_of X G a_law
  have n_len := PySem.W.mg_none_of X G z_len
  have n_int := PySem.W.mg_none_of X G z_int
  have n_all := PySem.W.mg_none_of X G z_all
  have n_tuple := PySem.W.mg_none_of X G z_tuple
  have n_bool := PySem.W.mg_none_of X G z_bool
  have n_isinstance := PySem.W.mg_none_of X G z_isinstance
  have n_str := PySem.W.mg_none_of X G z_str
  have n_list := PySem.W.mg_none_of X G z_list
  have n_range := PySem.W.mg_none_of X G z_range
  have n_repr := PySem.W.mg_none_of X G z_repr
  have B : BaseC K mg R_RunError := ⟨PySem.W.mg_of X G a_RunError, ⟨rd_RunError, ga_RunError⟩, at_RunError⟩
  have O_ParseError : OexC K C_ParseError := ⟨⟨nm_ParseError, q_ParseError, N_ParseError, bs_ParseError, _, sn_ParseError, sb_ParseError, ab_ParseError, co_ParseError, dd_ParseError, m0_ParseError, m1_ParseError, m2_ParseError, m3_ParseError, m5_ParseError, x_ParseError, by rfl⟩, sa_ParseError, eC_ParseError, tC_ParseError, kC_ParseError⟩
  have M_ParseError : XfC K C_ParseError := ⟨gt_ParseError, gg_ParseError, eC_ParseError, hC_ParseError⟩
  have Y_ParseError : ExcC K C_ParseError := ⟨gt_ParseError, gg_ParseError, eC_ParseError, hC_ParseError, ca_ParseError, o_get, o_tak, cm_ParseError⟩
  have W_ParseError := kit_sub ib_RunError tb_RunError kr_ParseError
  have U_ParseError := PySem.W.exm_ref eC_ParseError hC_ParseError tC_ParseError sC_ParseError
  refine ⟨PySem.W.fnOf "law" "law" (defArgs s_law) (defBody s_law) (defScope s_law) .none kV_law dc_law pm_law an_law cd_law ct_law, fun s v => .of_eq rfl, fun base _ _ => ?_⟩
  have E : ErrC l.prog w K mg base "ParseError" "line" C_ParseError := ⟨PySem.W.mg_of X G a_ParseError, O_ParseError, M_ParseError, nf_ParseError, U_ParseError, ⟨fI_ParseError, _, 1, "line", rfl, i_ParseError, ti_ParseError, ok_errInit F_ParseError___init__ B O_ParseError nf_ParseError, b_ParseError___init__⟩⟩
  have TC : TxC mg := ⟨n_all, n_tuple, n_bool, n_len, n_isinstance, n_str⟩
  have GP : Fx l.prog w K mg base CX0 1 "_law_pull" ["_law_pool", "_law_many"] spPull := ⟨_, _, ok_pull F_law_pull ⟨n_len, n_int⟩, g_law_pull, k_law_pull, b_law_pull⟩
  have GC : Fx l.prog w K mg base CX0 1 "choice_of" ["words"] (spChoice K) := ⟨_, _, ok_choice F_choice_of TC, g_choice_of, k_choice_of, b_choice_of⟩
  have GR : Fx l.prog w K mg base CX0 2 "read_choice" ["text"] (spRead K) := ⟨_, _, ok_read F_read_choice TC GC, g_read_choice, k_read_choice, b_read_choice⟩
  have GA : Fx l.prog w K mg base (L2.CX l.prog w) 3 "parse_choice" ["text"] (spParse K C_ParseError) := ⟨_, _, ok_parse F_parse_choice { TC with e_ParseError := E } GR, g_parse_choice, k_parse_choice, b_parse_choice⟩
  have GF : Fx l.prog w K mg base CX0 1 "format_choice" ["choice"] (spFmt K) := ⟨_, _, ok_fmt F_format_choice, g_format_choice, k_format_choice, b_format_choice⟩
  have GN : Fx l.prog w K mg base CX0 2 "_law_name" ["_law_pool"] spName := ⟨_, _, ok_name F_law_name ⟨n_range⟩ GP, g_law_name, k_law_name, b_law_name⟩
  exact ok_law F_law ⟨n_list, n_range, n_repr, n_tuple, n_str, n_int⟩ GP GN GF GA
end Lw
open PySem PySem.W PyProof.Rows
set_option maxRecDepth 100000 in
set_option maxHeartbeats 0 in
theorem PySem.Challenge.cw_interruptruns_k86_choice_texts_holds : PySem.Challenge.rw_interruptruns_k86_choice_texts.Holds := by
  w_on; o_law; k_head; (case hw => w_witness2)
  k_fill
  refine GL.walk_ofG (l := PySem.Challenge.rw_interruptruns_k86_choice_texts) (n := 63) (k := 4) (x := "_law_script") (sp := Lw.spLaw) rfl (by decide) rfl ⟨rfl, by decide, by decide⟩ (fun w h Y => PySem.W.kIn_of Y) ?F (fun K H a ns hl hS => ⟨a, ns, rfl, hS, hl, fun _ => rfl⟩)
  case F =>
    intro w mg fa h KX G hmg
    refine' Lw.all_mk KX G hmg ?a_RunError ?rd_RunError ?ga_RunError ?tb_RunError ?ib_RunError ?at_RunError ?a_ParseError ?x_ParseError ?sa_ParseError ?gt_ParseError ?gg_ParseError ?nf_ParseError ?kC_ParseError ?eC_ParseError ?tC_ParseError ?hC_ParseError ?sC_ParseError ?ca_ParseError ?cm_ParseError ?kr_ParseError ?i_ParseError ?ti_ParseError ?l_ParseError___init__ ?c_ParseError___init__ ?k_ParseError___init__ ?o_get ?o_tak ?a_format_choice ?l_format_choice ?c_format_choice ?k_format_choice ?a_choice_of ?l_choice_of ?c_choice_of ?k_choice_of ?a_read_choice ?l_read_choice ?c_read_choice ?k_read_choice ?a_parse_choice ?l_parse_choice ?c_parse_choice ?k_parse_choice ?a_law_pull ?l_law_pull ?c_law_pull ?k_law_pull ?a_law_name ?l_law_name ?c_law_name ?k_law_name ?a_law ?l_law ?c_law ?k_law ?z_len ?z_int ?z_all ?z_tuple ?z_bool ?z_isinstance ?z_str ?z_list ?z_range ?z_repr
    (case a_RunError => k_is)
    (case rd_RunError => k_is)
    (case ga_RunError => k_is)
    (case tb_RunError => k_is)
    (case ib_RunError => k_is)
    (case at_RunError => k_is)
    (case a_ParseError => k_is)
    (case x_ParseError => k_is)
    (case sa_ParseError => k_is)
    (case gt_ParseError => k_is)
    (case gg_ParseError => k_is)
    (case nf_ParseError => k_is)
    (case kC_ParseError => k_is)
    (case eC_ParseError => k_is)
    (case tC_ParseError => k_is)
    (case hC_ParseError => k_is)
    (case sC_ParseError => k_is)
    (case ca_ParseError => k_is)
    (case cm_ParseError => k_is)
    (case kr_ParseError => k_is)
    (case i_ParseError => k_is)
    (case ti_ParseError => k_is)
    (case l_ParseError___init__ => k_is)
    (case c_ParseError___init__ => k_is)
    (case k_ParseError___init__ => k_is)
    (case o_get => k_is)
    (case o_tak => k_is)
    (case a_format_choice => k_is)
    (case l_format_choice => k_is)
    (case c_format_choice => k_is)
    (case k_format_choice => k_is)
    (case a_choice_of => k_is)
    (case l_choice_of => k_is)
    (case c_choice_of => k_is)
    (case k_choice_of => k_is)
    (case a_read_choice => k_is)
    (case l_read_choice => k_is)
    (case c_read_choice => k_is)
    (case k_read_choice => k_is)
    (case a_parse_choice => k_is)
    (case l_parse_choice => k_is)
    (case c_parse_choice => k_is)
    (case k_parse_choice => k_is)
    (case a_law_pull => k_is)
    (case l_law_pull => k_is)
    (case c_law_pull => k_is)
    (case k_law_pull => k_is)
    (case a_law_name => k_is)
    (case l_law_name => k_is)
    (case c_law_name => k_is)
    (case k_law_name => k_is)
    (case a_law => k_is)
    (case l_law => k_is)
    (case c_law => k_is)
    (case k_law => k_is)
    (case z_len => k_is)
    (case z_int => k_is)
    (case z_all => k_is)
    (case z_tuple => k_is)
    (case z_bool => k_is)
    (case z_isinstance => k_is)
    (case z_str => k_is)
    (case z_list => k_is)
    (case z_range => k_is)
    (case z_repr => k_is)
