import PyProof.Rows.All
import Wide.All
import OpenK.AllK
import Wide.FinOn
import HandS.ForMost
import HandS.IsInst
import HandS.Style
import HandS.StrMore
import HandS.Wide
import HandS.Zip
import HandS.Flow
import HandS.Set
import HandS.Strs
import PyProof.Rows.SortShellAny
import HandS.Walk
import HandS.Sort
import PyProof.StrBlock2
import HandS.SlotsOwn
import HandS.Star
import KE.KCallOwn
import PyProof.InstNe
import KE.GoesZip
import KE.KDictZip
import HandS.Zip0
import HandS.TryOnly
import HandS.ExcInit
import HandS.ExcIs
import HandS.ExcField
import HandS.ExcValue
import HandS.ExcBuiltin
import KE.KExcInit
import KE.KExcIs
import HandS.HotCalls
import HandS.FStr
import HandS.Lambda
import HandS.EndTab
import KE.KNestM
import HandS.DictTup
import HandS.Conv
import HandS.DictComp
import KE.SortData
import HandS.SetBool
import HandS.ListItems
import KE.KDictList
import PyProof.P3Eq
import PyProof.Rows.StrMeet
import HandS.WordsDict
import HandS.TupAny
import PySem.Challenge.RW_lastprices_k07_whole_renamed_machines
set_option Elab.async false
set_option linter.all false
set_option maxRecDepth 100000
set_option maxHeartbeats 4000000
/-! LPG: defs that run where no repr is under way (guards known empty), so that repr of data can be told. -/
namespace LP
open PySem PySem.Spec L2
open PyProof.Rows hiding St

/-- a def's promise, kept wherever no guarded call is under way -/
structure FnG (P : Program) (w : World) (K : PySem.W.Frag) (mg : Str → Option Value) (base : Heap) (CX : CXT)
    (k : Nat) (f : Addr) (fd : FuncData) (ps : List Str) (sp : Sp) : Prop where
  len : ∀ vs H Q E, sp vs H Q E → vs.length = ps.length
  go : ∀ (A : Around) (outer : List Env) (s : Shared) (H : Hp) (args : Args) (us : List Value) (vs : List V)
    (Q : VK) (E : XK), A.guards = some [] → Room k A → Env0 P w K mg base A outer s H →
    BindsTo s fd args (ps.zip us) → Vals vs us → sp vs H Q E →
    codeAny (model P w) A (.call (.ref f) args) (CR CX outer P w H s Q E) s

section
variable {P : Program} {w : World} {K : PySem.W.Frag} {mg : Str → Option Value} {base : Heap} {CX : CXT}
  {k : Nat} {f : Addr} {fd : FuncData} {ps : List Str} {sp : Sp}

theorem FnG.of (F : FnOk P w K mg base CX k f fd ps sp) : FnG P w K mg base CX k f fd ps sp :=
  ⟨F.len, fun A outer s H args us vs Q E _ hr e0 hb r h => F.run A outer s H args us vs Q E hr e0 hb r h⟩

theorem FnG.mono {j : Nat} (F : FnG P w K mg base CX j f fd ps sp) (h : j ≤ k) : FnG P w K mg base CX k f fd ps sp :=
  ⟨F.len, fun A outer s H args us vs Q E g hr e0 hb r h' => F.go A outer s H args us vs Q E g (hr.mono h) e0 hb r h'⟩
end

/-- a def's body, where no guarded call is under way -/
theorem fnG_of {CX : CXT} {P : Program} {w : World} {K : PySem.W.Frag} {mg : Str → Option Value} {base : Heap} {k : Nat}
    {f : Addr} {name qual : Str} {params : Arguments} {body : List Stmt} {scope : Scope} {dV kV doc pm cdv ct oc : Value}
    {an od : Option Addr} {osl : Array (Option Value)} {N ps : List Str} {sp : Sp}
    (lk : K.lookup f = some ⟨oc, od, .func (PySem.W.fnOf name qual params body scope dV kV doc pm an cdv ct), osl⟩)
    (hcd : PySem.W.codeIn K cdv qual = true) (S : FnScope N ps scope)
    (len : ∀ vs H Q E, sp vs H Q E → vs.length = ps.length)
    (hbody : ∀ (A : Around) (outer : List Env) (s : Shared) (H : Hp) (vs : List V) (Q : VK) (E : XK),
      A.guards = some [] → Room k (A.deeper (envOfC qual scope s.heap.objs.size f cdv)) → sp vs H Q E →
      ∃ t, PSs (cxOf CX P w K mg base N qual scope f cdv A outer s H E) body t ∧
        t { nx := fun _ H' => Q .non H', rt := Q } (start N vs) H) :
    FnG P w K mg base CX (k + 1) f (PySem.W.fnOf name qual params body scope dV kV doc pm an cdv ct) ps sp := by
  constructor
  · exact len
  intro A outer s H args us vs Q E gd hr e0 hb r hsp
  have hl := len _ _ _ _ hsp
  have KX : K.In s.heap := e0.mod.kin.keeps fun b o e => (e0.bs b o e).1
  have lim : s.heap.NoLimit := e0.mod.nolimit.keeps fun b o e => (e0.bs b o e).1
  have hk : ∀ y ∈ ps.zip us, scope.names.lookup y.1 = some .local ∨
      (scope.names.lookup y.1 = some .cell ∧
        ((cellsFrom (s.heap.objs.size + 1) scope.names []).lookup y.1).isSome = true) := by
    rintro ⟨n, v⟩ hy
    rcases S.par n (List.of_mem_zip hy).1 with q | q
    · exact .inl q
    · exact .inr ⟨q, PySem.W.cellsFrom_some _ _ _ (.inl q)⟩
  refine codeAny_call_function hr.depth (KX _ _ lk) rfl S.co S.gen rfl (PySem.W.codeRec_of KX hcd) ?_
  refine hb _ _ _ _ (wpAny_newFunctionEnv_cells S.kind hk ?_)
  intro env he s1 x
  subst he
  refine ⟨lim.keeps x.toInCall.keep, ?_⟩
  refine codeAny_func ?_
  obtain ⟨t, ht, hq⟩ := hbody A outer s H vs Q E gd (hr.deeper _) hsp
  have I := inv_start (CX := CX) (N := N) (E := E) S hr.hd e0 hl r x
  refine wpAny_mono (ht.run [] s1 (start N vs) H _ I hq) ?_ (fun e s' hs => hs)
  intro fl s' hs
  cases fl with
  | ret u =>
    obtain ⟨v, σ', H', J, rv, q⟩ := hs
    exact ⟨v, H', J.os, J.bare, J.base, J.hok, rv, q⟩
  | next =>
    obtain ⟨σ', H', J, q⟩ := hs
    exact ⟨V.non, H', J.os, J.bare, J.base, J.hok, rfl, q⟩
  | brk =>
    obtain ⟨_, _, _, q⟩ := hs
    exact q.elim
  | cont =>
    obtain ⟨_, _, _, q⟩ := hs
    exact q.elim

section
variable {P : Program} {w : World} {K : PySem.W.Frag} {mg : Str → Option Value} {base : Heap}
/-- the same for a def of the text that lets no exception out -/
theorem okG {x qual : Str} {st : Stmt} {f : Addr} {fd : FuncData} {N ps : List Str} {k : Nat} {sp : Sp}
    (F : Fun K x qual st f fd) (S : FnScope N ps (defScope st)) (len : ∀ vs H Q E, sp vs H Q E → vs.length = ps.length)
    (hbody : ∀ (cdv : Value) (A : Around) (outer : List Env) (s : Shared) (H : Hp) (vs : List V) (Q : VK) (E : XK),
      A.guards = some [] → Room k (A.deeper (envOfC qual (defScope st) s.heap.objs.size f cdv)) → sp vs H Q E →
      ∃ t, PSs (cxOf CX0 P w K mg base N qual (defScope st) f cdv A outer s H E).nox (defBody st) t ∧
        t { nx := fun _ H' => Q .non H', rt := Q } (start N vs) H) :
    FnG P w K mg base CX0 (k + 1) f fd ps sp := by
  obtain ⟨oc, od, kV, doc, pm, an, cdv, ct, osl, rfl, lk, hcd⟩ := F.ex
  refine fnG_of lk hcd S len ?_
  intro A outer s H vs Q E g hr hsp
  obtain ⟨t, h, q⟩ := hbody cdv A outer s H vs Q E g hr hsp
  exact ⟨t, h.nox, q⟩
end

section
variable {X : Cx} {CX : CXT} {k : Nat} {f C : Addr} {fd : FuncData} {ps : List Str} {sp : Sp} {dvs : List V}
  {ds : List Value} {E : XK} {x m : Str} {p pos apos : Pos} {e o : Expr} {es : List Expr} {ta : TE} {t : TA}

/-- such a callee runs -/
theorem run_fnG {pins : List (Addr × Obj)} {σ : St} {H : Hp} {s : Shared} {Q : VK} {us : List Value} {vs : List V}
    (F : FnG X.prog X.w X.K X.mg X.base CX k f fd ps sp) (gd : X.A.guards = some []) (hr : Room k X.A)
    (hb : Binds X.K fd ps ds) (hd : Vals dvs ds) (hx : Passes CX X E)
    (I : Inv X pins σ H s) (r : Vals vs us) (h : sp (vs ++ dvs) H Q E) :
    wpAny (model X.prog X.w) X.A (call (.ref f) us) (EP X pins σ Q) X.xe s := by
  have r2 : Vals (vs ++ dvs) (us ++ ds) := r.append hd
  have hl : (us ++ ds).length = ps.length := r2.length.symm.trans (F.len _ _ _ _ h)
  have run := F.go X.A X.stack s H ⟨us, []⟩ (us ++ ds) (vs ++ dvs) Q E gd hr I.env0 (hb s us I.kIn hl) r2 h
  refine wpAny_call (codeAny_mono run ?_)
  intro r s' hq
  cases r with
  | error e => exact hx pins σ H s e s' I hq
  | ok fl =>
    cases fl with
    | ret u => exact I.after hq
    | next => exact hq.elim
    | brk => exact hq.elim
    | cont => exact hq.elim

theorem pe_callG (F : FnG X.prog X.w X.K X.mg X.base CX k f fd ps sp) (gd : X.A.guards = some []) (hr : Room k X.A)
    (hg : Gl X x) (hm : X.mg x = some (.ref f)) (hk : PySem.W.keepIn X.K (.ref f) = true) (hb : Binds X.K fd ps ds)
    (hd : Vals dvs ds) (hx : Passes CX X E) (ha : PA X (e :: es) t)
    (hdb : (x == ("__debug__" : Str)) = false := by decide)
    (he : starEach (e :: es) X.env = (false, eval e X.env) :: starEach es X.env := by rfl)
    (hpl : (backTo pos (starEach es X.env)).any (·.1) = false := by rfl) :
    PE X (.Call (.Name x p) (e :: es) [] pos) (tCall sp dvs E t) := by
  constructor
  intro pins s σ H Q I h
  refine wpAny_Call_Name_kw (ld_glob I hg hm ?_ hdb)
  refine PySem.W.callWith_K (h₀ := X.base) I.ok.mod.kin hk (thn (ha.run pos pins s σ H _ I h) ?_) he hpl
  rintro us s1 ⟨vs, H1, I1, r, q⟩
  exact ⟨I1.kIn, run_fnG F gd hr hb hd hx I1 r q⟩

theorem pe_callG0 (F : FnG X.prog X.w X.K X.mg X.base CX k f fd ps sp) (gd : X.A.guards = some []) (hr : Room k X.A)
    (hg : Gl X x) (hm : X.mg x = some (.ref f)) (hk : PySem.W.keepIn X.K (.ref f) = true) (hb : Binds X.K fd ps ds)
    (hd : Vals dvs ds) (hx : Passes CX X E) (hdb : (x == ("__debug__" : Str)) = false := by decide) :
    PE X (.Call (.Name x p) [] [] pos) (tCall sp dvs E tNil) := by
  constructor
  intro pins s σ H Q I h
  refine wpAny_Call_Name_kw (ld_glob I hg hm ?_ hdb)
  exact PySem.W.callWith_K0 I.kIn hk (run_fnG (us := []) F gd hr hb hd hx I .nil h)

/-- what repr asks: data that is read, and its text -/
def rReprD (K : PySem.W.Frag) : List V → Hp → VK → Prop := fun xs H Q =>
  ∃ x d, xs = [x] ∧ Dp K H x d ∧ d.showable = true ∧ d.hasDict = false ∧ d.depth ≤ 60 ∧ d.shown.length ≤ sizeLine ∧
    Q (.str d.shown) H

theorem call_reprD (gd : X.A.guards = some []) (hu : X.A.units + 64 < cLine) : CallR X (.builtin "repr") (rReprD X.K) := by
  intro pins s σ H xs us Q I r h
  obtain ⟨x, d, rfl, hd, hs, hn, hz, hl, q⟩ := h
  obtain ⟨u, rfl, r1⟩ := vals1 r
  cases hd with
  | non =>
    cases (show u = Value.none from r1)
    exact PySem.P.repr_of_none ⟨.str _, H, I.tok _, ⟨_, rfl⟩, q⟩
  | bl b =>
    cases (show u = Value.bool b from r1)
    exact PySem.P.repr_of_bool ⟨.str _, H, I.tok _, ⟨_, rfl⟩, q⟩
  | int i =>
    obtain ⟨t, rfl⟩ := (show ∃ t, u = Value.int i t from r1)
    have hi : i.natAbs.log2 < 1920 := by simpa [PyData.showable] using hs
    exact PySem.P.repr_of_int hi ⟨.str _, H, I.tok _, ⟨_, rfl⟩, q⟩
  | str y =>
    obtain ⟨t, rfl⟩ := (show ∃ t, u = Value.str y t from r1)
    exact PySem.P.repr_of_str ⟨.str _, H, I.tok _, ⟨_, rfl⟩, q⟩ hl
  | @lst a ys ds h1 h2 =>
    have e0 : Dp X.K H (.ref a) (.list ds) := .lst h1 h2
    cases (show u = Value.ref a from r1)
    obtain ⟨as, rd⟩ := Dp.reads I _ _ _ e0 rfl
    refine repr_of_reads' rd hs (fun z => ?_) gd (by omega) (fun _ _ e => e) (fun h' v tk hk => ?_) hl
    · rw [hn] at z
      cases z
    · exact ⟨.str _, H, I.kept hk, ⟨_, rfl⟩, q⟩
  | @tup a ys ds h1 h2 =>
    have e0 : Dp X.K H (.ref a) (.tuple ds) := .tup h1 h2
    cases (show u = Value.ref a from r1)
    obtain ⟨as, rd⟩ := Dp.reads I _ _ _ e0 rfl
    refine repr_of_reads' rd hs (fun z => ?_) gd (by omega) (fun _ _ e => e) (fun h' v tk hk => ?_) hl
    · rw [hn] at z
      cases z
    · exact ⟨.str _, H, I.kept hk, ⟨_, rfl⟩, q⟩
end

/-- the law's call, of such a def -/
theorem law_callG {P : Program} {w : World} {K : PySem.W.Frag} {mg mb : Str → Option Value} {k : Nat} {fa a : Addr}
    {fd : FuncData} {x : Str} {sp : Sp} {s₁ : Shared} {vs : List Value} {ns : List Int}
    (KX : K.In s₁.heap) (hns : s₁.heap.Ns mainGlobals mg) (hb : s₁.heap.Ns builtinsNs mb)
    (hbb : ∀ x : Str, x ≠ "__name__" → mb x = bootBuiltins x) (hlim : s₁.heap.NoLimit) (hg : s₁.gens = #[])
    (ha : s₁.heap.get? a = some { cls := .type "list", data := .seq vs.toArray }) (hi : IntsAre vs ns)
    (hl : ns.length ≤ sizeLine) (hr : Room k callerA)
    (F : ∀ base : Heap, K.In base → base.Ns mainGlobals mg → FnG P w K mg base CX0 k fa fd [x] sp)
    (hbind : ∀ (s : Shared) (u : Value), BindsTo s fd ⟨[u], []⟩ [(x, u)])
    (hsp : ∀ H : Hp, Only H → SqL K H a (ns.map V.int) → sp [.ref a] H (fun v _ => v = .bl true) fun _ _ _ => False) :
    codeAny (model P w) callerA (.call (.ref fa) ⟨[.ref a], []⟩) (fun r s' => r = .ok (.ret (.bool true)) ∧
      OldK s₁.heap s'.heap ∧ s'.os = s₁.os ∧ AllBare s'.gens) s₁ := by
  have rv := vals_ints hi
  have lenV := hi.length
  have core : ∀ H : Hp, Only H → SqL K H a (ns.map V.int) → HOk P w H s₁.heap → (∀ b, H b ≠ none → b = a) →
      (H a ≠ none → K.lookup a = none) →
      codeAny (model P w) callerA (.call (.ref fa) ⟨[.ref a], []⟩) (fun r s' => r = .ok (.ret (.bool true)) ∧
        OldK s₁.heap s'.heap ∧ s'.os = s₁.os ∧ AllBare s'.gens) s₁ := by
    intro H hO hS hok hA hK
    have noA : ∀ {b : Addr} {o : Obj} {es : Array DictEntry} {ep : Nat}, s₁.heap.get? b = some o →
        o.data = .dict es ep → H b = none := by
      intro b o es ep e d
      by_cases q : H b = none
      · exact q
      · have e' := hA b q
        subst e'
        rw [ha] at e
        cases e
        cases (show Data.seq vs.toArray _ = Data.dict es ep from d)
    have nsK : ∀ {b : Addr} {m : Str → Option Value}, s₁.heap.Ns b m → (hidT s₁.heap H).Ns b m := by
      rintro b m ⟨o, es, ep, e, d, r⟩
      exact ⟨o, es, ep, hidT_get e (noA e d), d, r⟩
    have hKb : K.In (hidT s₁.heap H) := by
      intro b o e
      refine hidT_get (KX b o e) ?_
      by_cases q : H b = none
      · exact q
      · have e' := hA b q
        subst e'
        rw [hK q] at e
        cases e
    obtain ⟨mc, hc1, hc2⟩ := hlim
    have hM : Mod K mg (hidT s₁.heap H) := ⟨hKb, nsK hns, ⟨mb, nsK hb, hbb⟩, ⟨mc, nsK hc1, hc2⟩⟩
    have e0 : Env0 P w K mg (hidT s₁.heap H) callerA [] s₁ H :=
      ⟨rfl, hM, fun b o e => of_hidT e, Nat.le_of_eq (hidT_size _ _), trivial,
        fun b hb => absurd (show b ∈ ([] : List Addr) from hb) (by simp), hok, .of_eq hg⟩
    have G := F _ hKb (nsK hns)
    refine codeAny_mono (G.go callerA [] s₁ H ⟨[.ref a], []⟩ [.ref a] [.ref a] _ _ rfl hr e0 (hbind s₁ (.ref a))
      (.cons rfl .nil) (hsp H hO hS)) ?_
    intro r s' h
    cases r with
    | error e => exact h.elim
    | ok fl =>
      cases fl with
      | next => exact h.elim
      | brk => exact h.elim
      | cont => exact h.elim
      | ret u =>
        obtain ⟨v, H', os, bare, un, hok', r', q⟩ := h
        have q' : v = .bl true := q
        subst q'
        obtain rfl : u = Value.bool true := r'
        refine ⟨rfl, OldK.of_keep ?_, os, bare⟩
        intro b o e
        rcases hO b with z | ⟨ob, xs, z⟩
        · exact un.keep b o e z (fun y => absurd (show b ∈ ([] : List Addr) from y) (by simp)) (by simp)
        · obtain ⟨e1, _⟩ := hok b _ z
          obtain ⟨e2, _⟩ := hok' b _ (un.frzs b ob _ z)
          rw [e] at e1
          cases e1
          exact e2
  by_cases hk : K.lookup a = none
  · let O : Obj := { cls := .type "list", data := .seq vs.toArray }
    let HH : Hp := fun b => if b = a then some (.frz O (.lst (ns.map V.int))) else none
    have h1 : HH a = some (.frz O (.lst (ns.map V.int))) := if_pos rfl
    have h2 : ∀ b, b ≠ a → HH b = none := fun b hb => if_neg hb
    refine core HH ?_ (.inl (.inr ⟨O, h1⟩)) ?_ ?_ (fun _ => hk)
    · intro b
      by_cases hb : b = a
      · subst hb
        exact .inr ⟨_, _, h1⟩
      · exact .inl (h2 b hb)
    · intro b u z
      by_cases hb : b = a
      · subst hb
        rw [h1] at z
        cases z
        exact ⟨ha, by rw [List.length_map]; exact hl, vs, _, rv, ha⟩
      · rw [h2 b hb] at z
        cases z
    · intro b z
      by_cases hb : b = a
      · exact hb
      · exact absurd (h2 b hb) z
  · obtain ⟨o, ho⟩ := Option.ne_none_iff_exists'.mp hk
    have e := KX a o ho
    rw [ha] at e
    cases e
    refine core (fun _ => none) (fun _ => .inl rfl) (.inr ⟨_, vs.toArray, _, ho, rfl, rfl, rfl, ?_, ?_⟩) ?_ ?_ ?_
    · rw [List.size_toArray, lenV]
      exact hl
    · simpa using rv
    · intro b u z
      cases (show (none : Option HO) = some u from z)
    · intro b z
      exact absurd rfl z
    · intro z
      exact absurd rfl z

/-- the goal that the head leaves, from the law's promise -/
theorem walk_ofG {l : PySem.W.OpenLaw} {n k : Nat} {q : Program} {loose : List Str} {XP : (Str → Option Value) → Heap → Prop}
    {YP : World → Heap → Prop} {d : DefRec} {K : Params → PySem.W.Frag} {sp : PySem.W.Frag → Sp} {x : Str}
    (hn : l.most = some n) (hn2 : n ≤ sizeLine) (hdf : d.params.defaults = []) (hr : Room k callerA)
    (hY : ∀ (w : World) (h : Heap), YP w h → (K w.params).In h)
    (F : ∀ (w : World) (mg : Str → Option Value) (fa : Addr) (h : Heap), (K w.params).In h → h.Ns mainGlobals mg →
      mg d.name = some (.ref fa) → ∃ fd : FuncData, (∀ (s : Shared) (u : Value), BindsTo s fd ⟨[u], []⟩ [(x, u)]) ∧
        ∀ base : Heap, (K w.params).In base → base.Ns mainGlobals mg →
          FnG l.prog w (K w.params) mg base CX0 k fa fd [x] (sp (K w.params)))
    (hsp : ∀ (K : PySem.W.Frag) (H : Hp) (a : Addr) (ns : List Int), ns.length ≤ n → Only H → SqL K H a (ns.map V.int) →
      sp K [.ref a] H (fun v _ => v = .bl true) fun _ _ _ => False) :
    PySem.W.WalkO q loose XP YP l.row.toRowW d [] (fun f vs => PySem.call f vs) := by
  refine Att.attach_call hn hdf ?_
  intro w s₀ s₁ mg mb fa o pm cd doc a vs ns G Y ho hd hcd hmg hobj hints hlen hg
  have KX := hY w _ Y
  obtain ⟨fd, hb, hF⟩ := F w mg fa _ KX G.T.g hmg
  exact law_callG KX G.T.g G.T.b G.T.builtins G.T.nolimit hg hobj hints (Nat.le_trans hlen hn2) hr hF hb
    (fun H hO hS => hsp (K w.params) H a ns hlen hO hS)
end LP

set_option Elab.async false
set_option linter.all false
set_option maxRecDepth 100000
set_option maxHeartbeats 4000000
/-! LPC: defs of a linked text, calls of them, heaps. -/
namespace LP
open PySem PySem.Spec L2
open PyProof.Rows hiding St

/-- a def of the text: where it stands, its name, how its arguments bind -/
structure Df (K : PySem.W.Frag) (mg : Str → Option Value) (x : Str) (st : Stmt) (ps : List Str) (f : Addr) (fd : FuncData) : Prop where
  F : Fun K x x st f fd
  g : mg x = some (.ref f)
  b : Binds K fd ps []

section
variable {X : Cx} {k : Nat} {f : Addr} {fd : FuncData} {ps : List Str} {sp : Sp} {x : Str} {st : Stmt} {p pos : Pos}
  {e : Expr} {es : List Expr} {t : TA}
theorem pe_df (D : Df X.K X.mg x st ps f fd) (G : FnOk X.prog X.w X.K X.mg X.base CX0 k f fd ps sp) (hr : Room k X.A)
    (hg : Gl X x) (ha : PA X (e :: es) t) (hdb : (x == ("__debug__" : Str)) = false := by decide)
    (he : starEach (e :: es) X.env = (false, eval e X.env) :: starEach es X.env := by rfl)
    (hpl : (backTo pos (starEach es X.env)).any (·.1) = false := by rfl) :
    PE X (.Call (.Name x p) (e :: es) [] pos) (tCall sp [] E0 t) := pe_call G hr hg D.g D.F.kp D.b .nil pass0 ha hdb he hpl
theorem pe_df0 (D : Df X.K X.mg x st ps f fd) (G : FnOk X.prog X.w X.K X.mg X.base CX0 k f fd ps sp) (hr : Room k X.A)
    (hg : Gl X x) (hdb : (x == ("__debug__" : Str)) = false := by decide) :
    PE X (.Call (.Name x p) [] [] pos) (tCall sp [] E0 tNil) := pe_call0 G hr hg D.g D.F.kp D.b .nil pass0 hdb
theorem pe_dfG (D : Df X.K X.mg x st ps f fd) (G : FnG X.prog X.w X.K X.mg X.base CX0 k f fd ps sp)
    (gd : X.A.guards = some []) (hr : Room k X.A)
    (hg : Gl X x) (ha : PA X (e :: es) t) (hdb : (x == ("__debug__" : Str)) = false := by decide)
    (he : starEach (e :: es) X.env = (false, eval e X.env) :: starEach es X.env := by rfl)
    (hpl : (backTo pos (starEach es X.env)).any (·.1) = false := by rfl) :
    PE X (.Call (.Name x p) (e :: es) [] pos) (tCall sp [] E0 t) := pe_callG G gd hr hg D.g D.F.kp D.b .nil pass0 ha hdb he hpl
end

/-! ### heaps -/
theorem upd_none {H : Hp} {a b : Addr} {o : HO} : upd H a o b = none ↔ b ≠ a ∧ H b = none := by
  unfold upd
  by_cases h : b = a <;> simp [h]
theorem upd_at {H : Hp} {a b : Addr} {o : HO} : upd H a o b = if b = a then some o else H b := rfl
theorem Same.new {H : Hp} {p : Addr} {o : HO} (h : H p = none) : Same H (upd H p o) := fun b u e => by
  rw [upd_ne (ne_of_none e h)]
  exact e
theorem Same.tup {K : PySem.W.Frag} {H H' : Hp} {a : Addr} {xs : List V} (e : Same H H') (h : SqT K H a xs) : SqT K H' a xs := by
  rcases h with (h | ⟨o, h⟩) | h
  · exact .inl (.inl (e _ _ h))
  · exact .inl (.inr ⟨o, e _ _ h⟩)
  · exact .inr h

/-! ### values that can be asked for their class -/
/-- the built-in class of a plain value -/
inductive Pl (K : PySem.W.Frag) (H : Hp) : V → String → Prop
  | non : Pl K H .non "NoneType"
  | bl (b : Bool) : Pl K H (.bl b) "bool"
  | int (i : Int) : Pl K H (.int i) "int"
  | str (x : Str) : Pl K H (.str x) "str"
  | lst {a : Addr} {xs : List V} (h : H a = some (.lst xs)) : Pl K H (.ref a) "list"
  | tup {a : Addr} {xs : List V} (h : H a = some (.tup xs)) : Pl K H (.ref a) "tuple"
  | dct {a : Addr} {xs : List (Key × V)} (h : H a = some (.dK xs)) : Pl K H (.ref a) "dict"
theorem Pl.ty {K : PySem.W.Frag} {H : Hp} {v : V} {t : String} (h : Pl K H v t) : TyX K H v (.type t) := by
  cases h with
  | non => exact .base .non
  | bl b => exact .base (.bl b)
  | int i => exact .base (.int i)
  | str x => exact .base (.str x)
  | lst h => exact .base (.lst h)
  | tup h => exact .base (.tup h)
  | dct h => exact .base (.dK h)
theorem Pl.same {K : PySem.W.Frag} {H H' : Hp} {v : V} {t : String} (e : Same H H') (h : Pl K H v t) : Pl K H' v t := by
  cases h with
  | non => exact .non
  | bl b => exact .bl b
  | int i => exact .int i
  | str x => exact .str x
  | lst h => exact .lst (e _ _ h)
  | tup h => exact .tup (e _ _ h)
  | dct h => exact .dct (e _ _ h)
/-- isinstance of a plain value, told -/
def isiB (t c : String) : Bool := (t == c) || (t == "bool" && c == "int")
theorem isi_int {K : PySem.W.Frag} {H : Hp} {v : V} {t : String} (h : Pl K H v t) : PySem.W.kitOne K (.type t) (.type "int") = some (isiB t "int") := by
  refine kit_ty ?_
  cases h <;> decide +kernel
theorem isi_bool {K : PySem.W.Frag} {H : Hp} {v : V} {t : String} (h : Pl K H v t) : PySem.W.kitOne K (.type t) (.type "bool") = some (isiB t "bool") := by
  refine kit_ty ?_
  cases h <;> decide +kernel
theorem isi_str {K : PySem.W.Frag} {H : Hp} {v : V} {t : String} (h : Pl K H v t) : PySem.W.kitOne K (.type t) (.type "str") = some (isiB t "str") := by
  refine kit_ty ?_
  cases h <;> decide +kernel
theorem isi_tuple {K : PySem.W.Frag} {H : Hp} {v : V} {t : String} (h : Pl K H v t) : PySem.W.kitOne K (.type t) (.type "tuple") = some (isiB t "tuple") := by
  refine kit_ty ?_
  cases h <;> decide +kernel
theorem isi_dict {K : PySem.W.Frag} {H : Hp} {v : V} {t : String} (h : Pl K H v t) : PySem.W.kitOne K (.type t) (.type "dict") = some (isiB t "dict") := by
  refine kit_ty ?_
  cases h <;> decide +kernel
theorem rd_isi {K : PySem.W.Frag} {H : Hp} {v : V} {t c : String} {Q : VK} (h : Pl K H v t) (k : PySem.W.kitOne K (.type t) (.type c) = some (isiB t c))
    (q : Q (.bl (isiB t c)) H) : rIsi K [v, .ty c] H Q := ⟨v, .ty c, .type t, .type c, _, rfl, .ty c, h.ty, k, q⟩

/-! ### readings that are told by what is tracked -/
section
variable {X : Cx}
theorem call_imp {f : Value} {r r' : List V → Hp → VK → Prop} (F : CallR X f r) (h : ∀ xs H Q, r' xs H Q → r xs H Q) : CallR X f r' :=
  fun pins s σ H xs us Q I rv q => F pins s σ H xs us Q I rv (h xs H Q q)
theorem op_imp {f : Value → Value → Sem Value} {r r' : R2} (F : OpR X f r) (h : ∀ x y H Q, r' x y H Q → r x y H Q) : OpR X f r' :=
  fun pins s σ H x y v u Q I rx ry q => F pins s σ H x y v u Q I rx ry (h x y H Q q)
theorem ix_imp {r r' : R2} (F : IxR X r) (h : ∀ x y H Q, r' x y H Q → r x y H Q) : IxR X r' :=
  fun va sl pins s σ H x y v u Q I rx ry q hs => F va sl pins s σ H x y v u Q I rx ry (h x y H Q q) hs
def rIxM : R2 := fun x y H Q => ∃ p xs i v, x = .ref p ∧ y = .int i ∧ H p = some (.lst xs) ∧ atI xs i = some v ∧ Q v H
theorem ix_M : IxR X rIxM := ix_imp ix_list fun x y H Q ⟨p, xs, i, v, h1, h2, h3, h4, q⟩ => ⟨p, xs, i, v, h1, h2, SqL.of h3, h4, q⟩
def rLenM : List V → Hp → VK → Prop := fun xs H Q => ∃ p ys, xs = [.ref p] ∧ H p = some (.lst ys) ∧ Q (.int (ys.length : Int)) H
theorem call_lenM : CallR X (.builtin "len") rLenM := call_imp call_len_seq fun xs H Q ⟨p, ys, h1, h2, q⟩ => ⟨p, ys, h1, .inl (SqL.of h2), q⟩
def rInt : List V → Hp → VK → Prop := fun xs H Q => ∃ i, xs = [.int i] ∧ Q (.int i) H
theorem call_intI : CallR X (.type "int") rInt := call_imp call_int1 fun xs H Q h => .inl h
def rIntB : List V → Hp → VK → Prop := fun xs H Q => ∃ k, xs = [.bl k] ∧ Q (.int (if k then 1 else 0)) H
theorem call_intB : CallR X (.type "int") rIntB := call_imp call_int1 fun xs H Q h => .inr h
end

theorem pe_imp {X : Cx} {e : Expr} {t t' : TE} (h : PE X e t) (i : ∀ σ H Q, t' σ H Q → t σ H Q) : PE X e t' :=
  ⟨fun pins s σ H Q I q => h.run pins s σ H Q I (i σ H Q q)⟩
/-- a method of a text, of a tracked list, of a tracked dict -/
def tSM (r : V → List V → Hp → VK → Prop) (to : TE) (t : TA) : TE := fun σ H Q => to σ H fun x H1 => ∃ a, x = .str a ∧ t σ H1 fun xs H2 => r x xs H2 Q
def tLM (r : V → List V → Hp → VK → Prop) (to : TE) (t : TA) : TE := fun σ H Q => to σ H fun x H1 => ∃ p ys, x = .ref p ∧ H1 p = some (.lst ys) ∧ t σ H1 fun xs H2 => r x xs H2 Q
section
variable {X : Cx} {o e : Expr} {es : List Expr} {to : TE} {t : TA} {name : Str} {apos cpos : Pos} {id : String} {r : V → List V → Hp → VK → Prop}
/-- a reading closed under what follows from what is wanted -/
def tUp (to : TE) : TE := fun σ H Q => ∃ Q1 : VK, to σ H Q1 ∧ ∀ v H1, Q1 v H1 → Q v H1
theorem pe_up (h : PE X o to) : PE X o (tUp to) := by
  constructor
  rintro pins s σ H Q I ⟨Q1, q1, i⟩
  refine thn (h.run pins s σ H Q1 I q1) ?_
  rintro v s1 ⟨x, H1, I1, r1, q⟩
  exact ⟨x, H1, I1, r1, i x H1 q⟩
theorem pe_sm (pa : PlainAttrs "str") (slot : Slot "str" name id) (hty : typeOf (.builtin id) = pure (.type "method_descriptor")) (hm : MtR X id r) (ho : PE X o to) (ha : PA X (e :: es) t)
    (hbase : attributeBase o name X.env (eval o X.env) = eval o X.env := by rfl)
    (hfew : ((backTo cpos (starEach (e :: es) X.env)).all (fun x => !x.1) && (backToKw cpos (keywordEach [] X.env)).all (fun x => x.1.isSome) &&
      decide ((e :: es).length + ([] : List Keyword).length + (if ([] : List Keyword).isEmpty then 0 else 1) < 30)) = true := by rfl)
    (hline : (apos.endLine == cpos.line) = true := by rfl) (hs : starEach (e :: es) X.env = (false, eval e X.env) :: starEach es X.env := by rfl)
    (hplain : (backTo cpos (starEach es X.env)).any (·.1) = false := by rfl) : PE X (.Call (.Attribute o name apos) (e :: es) [] cpos) (tSM r to t) := by
  refine pe_imp (pe_bm pa slot hty hm (pe_up ho) ha hbase hfew hline hs hplain) ?_
  intro σ H Q h
  refine ⟨_, h, ?_⟩
  rintro v H1 ⟨a, rfl, q⟩
  exact ⟨rfl, q⟩
theorem pe_lm (pa : PlainAttrs "list") (slot : Slot "list" name id) (hty : typeOf (.builtin id) = pure (.type "method_descriptor")) (hm : MtR X id r) (ho : PE X o to) (ha : PA X (e :: es) t)
    (hbase : attributeBase o name X.env (eval o X.env) = eval o X.env := by rfl)
    (hfew : ((backTo cpos (starEach (e :: es) X.env)).all (fun x => !x.1) && (backToKw cpos (keywordEach [] X.env)).all (fun x => x.1.isSome) &&
      decide ((e :: es).length + ([] : List Keyword).length + (if ([] : List Keyword).isEmpty then 0 else 1) < 30)) = true := by rfl)
    (hline : (apos.endLine == cpos.line) = true := by rfl) (hs : starEach (e :: es) X.env = (false, eval e X.env) :: starEach es X.env := by rfl)
    (hplain : (backTo cpos (starEach es X.env)).any (·.1) = false := by rfl) : PE X (.Call (.Attribute o name apos) (e :: es) [] cpos) (tLM r to t) := by
  refine pe_imp (pe_bm pa slot hty hm (pe_up ho) ha hbase hfew hline hs hplain) ?_
  intro σ H Q h
  refine ⟨_, h, ?_⟩
  rintro v H1 ⟨p, ys, rfl, hp, q⟩
  exact ⟨.inl ⟨rfl, ys, SqL.of hp⟩, q⟩
end
/-! ### the rest of a block, folded -/
def Later (u : TS) (D : Ends) (σ : St) (H : Hp) : Prop := u D σ H
theorem later {u : TS} {D : Ends} {σ : St} {H : Hp} (h : u D σ H) : Later u D σ H := h
theorem tSeq_eq (t u : TS) (D : Ends) (σ : St) (H : Hp) : tSeq t u D σ H = t { D with nx := Later u D } σ H := rfl
theorem tIfS_eq (c : TT) (t u : TS) (D : Ends) (σ : St) (H : Hp) :
  tIfS c t u D σ H = c σ H fun b H1 => if b = true then Later t D σ H1 else Later u D σ H1 := rfl
/-! ### loops -/
def Loop (J : It) (g : TG) (tb : TS) (D : Ends) (σ : St) (H1 : Hp) : Prop := ∃ W : Nat → Nat → St → Hp → Prop, (∃ m, W 0 m σ H1) ∧ ∀ i m σ H, W i m σ H →
  (J.stop i H ∧ D.nx σ H) ∨ (J.go i H ∧ ∃ N : St → Hp → Prop, (∀ σ' H', N σ' H' → ∃ m', m' < m ∧ W (i + 1) m' σ' H') ∧
    ∀ x H', J.yld i H x H' → g x σ H' fun σ2 H2 => tb { D with nx := N, ct := N, bk := D.nx } σ2 H2)
theorem tFor_eq (wi : TI) (g : TG) (tb : TS) (D : Ends) (σ : St) (H : Hp) : tFor wi g tb D σ H = wi σ H fun J H1 => Loop J g tb D σ H1 := rfl
theorem loop_range {n : Nat} {g : TG} {tb : TS} {D : Ends} {σ : St} {H : Hp} (Pv : Nat → St → Hp → Prop) (h0 : Pv 0 σ H)
    (hs : ∀ (i : Nat) (σ : St) (H : Hp), i < n → Pv i σ H → g (.int (i : Int)) σ H fun σ2 H2 => Later tb { D with nx := Pv (i + 1), ct := Pv (i + 1), bk := D.nx } σ2 H2)
    (hd : ∀ σ H, Pv n σ H → D.nx σ H) : Loop (Itr 0 n) g tb D σ H :=
  for_range (lo := 0) (n := n) Pv h0 (fun i σ H hi p => by rw [Int.zero_add]; exact hs i σ H hi p) hd
theorem loop_list {K : PySem.W.Frag} {a : Addr} {xs : List V} {g : TG} {tb : TS} {D : Ends} {σ : St} {H : Hp} (Pv : Nat → St → Hp → Prop) (h0 : Pv 0 σ H)
    (hl : ∀ i σ H, i ≤ xs.length → Pv i σ H → SqL K H a xs)
    (hs : ∀ (i : Nat) (x : V) (σ : St) (H : Hp), xs[i]? = some x → Pv i σ H → g x σ H fun σ2 H2 => Later tb { D with nx := Pv (i + 1), ct := Pv (i + 1), bk := D.nx } σ2 H2)
    (hd : ∀ σ H, Pv xs.length σ H → D.nx σ H) : Loop (Itl K a) g tb D σ H :=
  for_list (K := K) (a := a) (xs := xs) Pv h0 hl hs hd
/-- an invariant, folded -/
theorem inv_of {α : Type} (P : α → St → Hp → Prop) : ∃ Pv : α → St → Hp → Prop, ∀ i σ H, Pv i σ H ↔ P i σ H := ⟨P, fun _ _ _ => Iff.rfl⟩
def LcLoop (J : It) (g : TG) (tt : TT) (te : TE) (vs : List Nat) (σ : St) (H1 : Hp) (Q : VK) : Prop := ∀ D, H1 D = none → ∃ W : Nat → Nat → Hp → Prop, (∃ m, W 0 m (upd H1 D (.lst []))) ∧ ∀ i m H, W i m H →
  (J.stop i H ∧ Q (.ref D) H) ∨ (J.go i H ∧ ∃ Nx : Hp → Prop, (∀ H', Nx H' → ∃ m', m' < m ∧ W (i + 1) m' H') ∧ ∀ x H', J.yld i H x H' → g x (wipe σ vs) H' fun σ2 H2 => wipe σ2 vs = wipe σ vs ∧
    tt σ2 H2 fun b H3 => if b = true then te σ2 H3 fun y H4 => ∃ acc, H4 D = some (.lst acc) ∧ acc.length < sizeLine ∧ Nx (upd H4 D (.lst (acc ++ [y]))) else Nx H3)
theorem tLc_eq (wi : TI) (g : TG) (tt : TT) (te : TE) (vs : List Nat) (σ : St) (H : Hp) (Q : VK) : tLc wi g tt te vs σ H Q = wi σ H fun J H1 => LcLoop J g tt te vs σ H1 Q := rfl

theorem loop_zip {K : PySem.W.Frag} {a b : Addr} {xs ys : List V} {g : TG} {tb : TS} {D : Ends} {σ : St} {H : Hp} (hl : xs.length = ys.length) (Pv : Nat → St → Hp → Prop) (h0 : Pv 0 σ H)
    (hq : ∀ i σ H, Pv i σ H → SqL K H a xs ∧ SqL K H b ys)
    (hs : ∀ (i : Nat) (x y : V) (T : Addr) (σ : St) (H : Hp), xs[i]? = some x → ys[i]? = some y → Pv i σ H → H T = none →
      g (.ref T) σ (upd H T (.tup [x, y])) fun σ2 H2 => Later tb { D with nx := Pv (i + 1), ct := Pv (i + 1), bk := D.nx } σ2 H2)
    (hd : ∀ σ H, Pv xs.length σ H → D.nx σ H) : Loop (Itz K a b) g tb D σ H :=
  RZ.for_zipL (K := K) (a := a) (b := b) hl Pv h0 hq hs hd
/-- a comprehension whose test and element leave what is known -/
theorem lc_pure {K : PySem.W.Frag} {a : Addr} {xs : List V} {j : Nat} {tt : TT} {te : TE} {vs : List Nat} {σ : St} {H : Hp} {Q : VK} (hx : SqL K H a xs) (hz : xs.length ≤ 1000000) (f : V → Bool) (v : V → V)
    (hw : ∀ x, wipe ((wipe σ vs).set j (some x)) vs = wipe σ vs)
    (ht : ∀ x, x ∈ xs → ∀ H1, Same H H1 → ∀ R : Bool → Hp → Prop, (∀ H2, Same H1 H2 → R (f x) H2) → tt ((wipe σ vs).set j (some x)) H1 R)
    (he : ∀ x, x ∈ xs → f x = true → ∀ H1, Same H H1 → ∀ R : VK, (∀ H2, Same H1 H2 → R (v x) H2) → te ((wipe σ vs).set j (some x)) H1 R)
    (q : ∀ p H2, H p = none → Same H H2 → H2 p = some (.lst ((xs.filter f).map v)) → Q (.ref p) H2) : LcLoop (Itl K a) (gName j) tt te vs σ H Q := by
  intro D hD
  refine lc_list (K := K) (a := a) (xs := xs) (fun i H' => Same H H' ∧ H' D = some (.lst (((xs.take i).filter f).map v))) ⟨Same.new hD, upd_same⟩ (fun i H' _ p => p.1.seq hx) ?_ ?_
  · rintro i x H1 hi ⟨e1, d1⟩
    have hm : x ∈ xs := List.mem_of_getElem? hi
    have htk : xs.take (i + 1) = xs.take i ++ [x] := by rw [List.take_add_one, hi]; rfl
    refine ⟨hw x, ht x hm H1 e1 _ fun H2 e2 => ?_⟩
    cases hf : f x with
    | true =>
      show te _ H2 _
      refine he x hm hf H2 (e1.trans e2) _ fun H3 e3 => ?_
      refine ⟨_, e3 _ _ (e2 _ _ d1), ?_, ?_, ?_⟩
      · have h1 : (((xs.take i).filter f).map v).length ≤ xs.length := by
          rw [List.length_map]
          exact Nat.le_trans (List.length_filter_le _ _) (by rw [List.length_take]; omega)
        exact Nat.lt_of_le_of_lt (Nat.le_trans h1 hz) (by decide)
      · intro b o e
        rw [upd_ne (ne_of_none e hD)]
        exact e3 _ _ (e2 _ _ (e1 _ _ e))
      · rw [htk, upd_same, List.filter_append, List.map_append, List.filter_cons, if_pos hf]
        rfl
    | false =>
      show Same H H2 ∧ _
      refine ⟨e1.trans e2, ?_⟩
      rw [htk, List.filter_append, List.filter_cons, if_neg (by rw [hf]; decide), List.map_append]
      show H2 D = some (.lst (_ ++ []))
      rw [List.append_nil]
      exact e2 _ _ d1
  · rintro H1 ⟨e1, d1⟩
    rw [List.take_length] at d1
    exact q D H1 hD e1 d1

/-! ### repr of truths -/
def reprBB (a b : Bool) : Str := (PyData.list [.bool a, .bool b]).shown
theorem repr_bb {K : PySem.W.Frag} {H : Hp} {p : Addr} {a b : Bool} {Q : VK} (h : H p = some (.lst [.bl a, .bl b])) (q : Q (.str (reprBB a b)) H) : rReprD K [.ref p] H Q := by
  refine ⟨.ref p, .list [.bool a, .bool b], rfl, .lst (SqL.of h) (.cons (.bl a) (.cons (.bl b) .nil)), ?_, ?_, ?_, ?_, q⟩
  · cases a <;> cases b <;> decide
  · cases a <;> cases b <;> decide
  · cases a <;> cases b <;> decide
  · cases a <;> cases b <;> decide +kernel
theorem repr_b {K : PySem.W.Frag} {H : Hp} {a : Bool} {Q : VK} (q : Q (.str (PyData.bool a).shown) H) : rReprD K [.bl a] H Q := by
  refine ⟨.bl a, .bool a, rfl, .bl a, ?_, ?_, ?_, ?_, q⟩
  · cases a <;> decide
  · cases a <;> decide
  · cases a <;> decide
  · cases a <;> decide +kernel
theorem scal_str (x y : Str) : scal (.str x) (.str y) = true := rfl

theorem cx_K {CX : CXT} {P : Program} {w : World} {K : PySem.W.Frag} {mg : Str → Option Value} {base : Heap} {N : List Str} {qual : Str}
    {scope : Scope} {f : Addr} {cd : Value} {A : Around} {outer : List Env} {s : Shared} {H : Hp} {E : XK} :
    (cxOf CX P w K mg base N qual scope f cd A outer s H E).K = K := rfl
theorem cx_w {CX : CXT} {P : Program} {w : World} {K : PySem.W.Frag} {mg : Str → Option Value} {base : Heap} {N : List Str} {qual : Str}
    {scope : Scope} {f : Addr} {cd : Value} {A : Around} {outer : List Env} {s : Shared} {H : Hp} {E : XK} :
    (cxOf CX P w K mg base N qual scope f cd A outer s H E).w = w := rfl
theorem atI0 {α : Type} (x : α) (r : List α) : atI (x :: r) 0 = some x := atI_nat (j := 0) rfl
theorem atI1 {α : Type} (x y : α) (r : List α) : atI (x :: y :: r) 1 = some y := atI_nat (j := 1) rfl
theorem atI2 {α : Type} (x y z : α) (r : List α) : atI (x :: y :: z :: r) 2 = some z := atI_nat (j := 2) rfl
theorem atI_of {α : Type} {xs : List α} {r : Int} (h0 : 0 ≤ r) (h : r.toNat < xs.length) : atI xs r = some xs[r.toNat] := by
  have e : atI xs ((r.toNat : Nat) : Int) = some xs[r.toNat] := atI_nat (List.getElem?_eq_getElem h)
  rw [Int.toNat_of_nonneg h0] at e
  exact e
theorem ixN30 : ixN 3 0 = some 0 := by decide
theorem ixN32 : ixN 3 2 = some 2 := by decide
/-! ### powers of ten in the draws -/
theorem cpow59 : CPow 10 59 := ⟨by decide, by decide, by decide⟩
theorem cpow17 : CPow 10 17 := ⟨by decide, by decide, by decide⟩
theorem cpow60 : CPow 10 60 := ⟨by decide, by decide, by decide⟩
theorem mul60 : CMulW (10 ^ Int.toNat 60) (10 ^ Int.toNat 60) := wide_mul (a := 200) (b := 200) (by decide) (by decide) (by decide) (by decide) (by decide)
end LP

set_option Elab.async false
set_option linter.all false
set_option maxRecDepth 100000
set_option maxHeartbeats 4000000
/-! LPT: texts of numbers, stripped texts (mathematics). -/
namespace LP
open PySem PySem.Spec L2
open PyProof.Rows hiding St
open PySem.Builtin.Str TL

theorem tl_ofString (s : String) : tl (Str.ofString s) = s.toList.map Char.toNat := by
  show (Str.ofString s).cps.toList = _
  rw [Str.ofString_eq_toList]
theorem tl_neg (m : Nat) : tl (Str.ofString (toString (Int.negSucc m))) = 45 :: numL (m + 1) := by
  rw [tl_ofString]
  have e : toString (Int.negSucc m) = "-" ++ Nat.repr (m + 1) := rfl
  rw [e, String.toList_append, List.map_append]
  have e2 : (Nat.repr (m + 1)).toList = Nat.toDigits 10 (m + 1) := Nat.toList_repr
  rw [e2]
  rfl
theorem tl_int (i : Int) : tl (Str.ofString (toString i)) = if i < 0 then 45 :: numL i.natAbs else numL i.natAbs := by
  cases i with
  | ofNat m =>
    rw [if_neg (by show ¬ (Int.ofNat m) < 0; simp)]
    exact tl_num m
  | negSucc m =>
    rw [if_pos (Int.negSucc_lt_zero m)]
    exact tl_neg m
theorem numL_le {n k : Nat} (hk : 0 < k) : (numL n).length ≤ k ↔ n < 10 ^ k := by
  unfold numL
  rw [List.length_map]
  exact Nat.length_toDigits_le_iff (by decide) hk
theorem len_tl' (x : Str) : x.length = (tl x).length := by
  show x.cps.size = x.cps.toList.length
  rw [Array.length_toList]
theorem getD_tl (x : Str) (k : Nat) : x.cps.getD k 0 = (tl x).getD k 0 := (getD_list x k).symm
theorem strSub_len (x : Str) (i j : Nat) (h1 : i ≤ j) (h2 : j ≤ x.length) : (strSub x i j).length = j - i := by
  show (x.cps.extract i j).size = j - i
  rw [Array.size_extract]
  have : j ≤ x.cps.size := h2
  omega
/-- what is stripped is empty just if all signs go -/
theorem strip_nil (x y : Str) : (Txt.stripChars x y).length = 0 ↔ ∀ c ∈ tl x, y.cps.contains c = true := by
  unfold Txt.stripChars
  rw [stripBy_eq]
  obtain ⟨a0, a1, a2⟩ := lo_facts y.cps.contains x
  obtain ⟨b0, b1, b2, b3⟩ := hi_facts y.cps.contains x _ a0
  rw [strSub_len _ _ _ b0 b1]
  have key : ∀ k, k < x.length → x.cps.getD k 0 ∈ tl x := by
    intro k hk
    rw [getD_tl]
    have hk' : k < (tl x).length := by rw [← len_tl']; exact hk
    rw [List.getD_eq_getElem?_getD, List.getElem?_eq_getElem hk']
    exact List.getElem_mem hk'
  constructor
  · intro h c hc
    obtain ⟨k, hk, e⟩ := List.mem_iff_getElem.mp hc
    have hkx : k < x.length := by rw [len_tl']; exact hk
    have e' : x.cps.getD k 0 = c := by
      rw [getD_tl, List.getD_eq_getElem?_getD, List.getElem?_eq_getElem hk]
      exact e
    rw [← e']
    by_cases hl : k < stripLo y.cps.contains true x
    · exact a1 k hl
    · exact b2 k (by omega) hkx
  · intro h
    rcases a2 with e | e
    · omega
    · by_cases hl : stripLo y.cps.contains true x < x.length
      · rw [h _ (key _ hl)] at e
        cases e
      · omega
/-- the figures of a number, its sign stripped -/
theorem len_let (i : Int) : (Txt.stripChars (Str.ofString (toString i)) "-").length = (numL i.natAbs).length := by
  have e := tl_int i
  generalize Str.ofString (toString i) = x at e
  unfold Txt.stripChars
  rw [stripBy_eq]
  obtain ⟨a0, a1, a2⟩ := lo_facts ((Str.ofString "-").cps.contains) x
  obtain ⟨b0, b1, b2, b3⟩ := hi_facts ((Str.ofString "-").cps.contains) x _ a0
  rw [strSub_len _ _ _ b0 b1]
  have hgo : ∀ c : Nat, (Str.ofString "-").cps.contains c = decide (c = 45) := by
    intro c
    have : (Str.ofString "-").cps = #[45] := by decide +kernel
    rw [this]
    by_cases h : c = 45
    · subst h; simp
    · simp [h]
  have hne := numL_ne i.natAbs
  have hpos : 0 < (numL i.natAbs).length := List.length_pos_iff.mpr hne
  have hdig : ∀ k, k < (numL i.natAbs).length → (numL i.natAbs).getD k 0 ≠ 45 := by
    intro k hk h
    rw [List.getD_eq_getElem?_getD, List.getElem?_eq_getElem hk] at h
    have hm : (numL i.natAbs)[k] ∈ numL i.natAbs := List.getElem_mem hk
    have h' : (numL i.natAbs)[k] = 45 := h
    rw [h'] at hm
    exact numL_free (.inl (by decide)) hm
  have hlen := len_tl' x
  by_cases hi : i < 0
  · rw [if_pos hi] at e
    rw [e, List.length_cons] at hlen
    have x0 : x.cps.getD 0 0 = 45 := by rw [getD_tl, e]; rfl
    have xs : ∀ k, x.cps.getD (k + 1) 0 = (numL i.natAbs).getD k 0 := by intro k; rw [getD_tl, e]; rfl
    have lo1 : stripLo ((Str.ofString "-").cps.contains) true x = 1 := by
      by_cases h0 : stripLo ((Str.ofString "-").cps.contains) true x = 0
      · rcases a2 with z | z
        · omega
        · rw [h0, x0, hgo] at z
          simp at z
      · by_cases h2 : 1 < stripLo ((Str.ofString "-").cps.contains) true x
        · have z := a1 1 h2
          rw [xs 0, hgo] at z
          exact absurd (of_decide_eq_true z) (hdig 0 hpos)
        · omega
    have hi1 : stripHi ((Str.ofString "-").cps.contains) true x (stripLo ((Str.ofString "-").cps.contains) true x) = x.length := by
      by_cases h0 : stripHi ((Str.ofString "-").cps.contains) true x (stripLo ((Str.ofString "-").cps.contains) true x) < x.length
      · have z := b2 (x.length - 1) (by omega) (by omega)
        have e3 : x.length - 1 = (numL i.natAbs).length - 1 + 1 := by omega
        rw [e3, xs, hgo] at z
        exact absurd (of_decide_eq_true z) (hdig _ (by omega))
      · omega
    rw [hi1, lo1]
    omega
  · rw [if_neg hi] at e
    rw [e] at hlen
    have xs : ∀ k, x.cps.getD k 0 = (numL i.natAbs).getD k 0 := by intro k; rw [getD_tl, e]
    have lo1 : stripLo ((Str.ofString "-").cps.contains) true x = 0 := by
      by_cases h0 : stripLo ((Str.ofString "-").cps.contains) true x = 0
      · exact h0
      · have z := a1 0 (by omega)
        rw [xs 0, hgo] at z
        exact absurd (of_decide_eq_true z) (hdig 0 hpos)
    have hi1 : stripHi ((Str.ofString "-").cps.contains) true x (stripLo ((Str.ofString "-").cps.contains) true x) = x.length := by
      by_cases h0 : stripHi ((Str.ofString "-").cps.contains) true x (stripLo ((Str.ofString "-").cps.contains) true x) < x.length
      · have z := b2 (x.length - 1) (by omega) (by omega)
        rw [xs, hgo] at z
        exact absurd (of_decide_eq_true z) (hdig _ (by omega))
      · omega
    rw [hi1, lo1]
    omega
/-- the first sign of a number -/
theorem head_int (i : Int) : ∃ c, atI (tl (Str.ofString (toString i))) 0 = some c ∧ (c = 45 ↔ i < 0) := by
  rw [tl_int i]
  by_cases hi : i < 0
  · rw [if_pos hi]
    exact ⟨45, atI0 _ _, by simp [hi]⟩
  · rw [if_neg hi]
    cases h : numL i.natAbs with
    | nil => exact absurd h (numL_ne _)
    | cons c r =>
      refine ⟨c, atI0 _ _, ?_⟩
      have : c ≠ 45 := by
        intro z
        have hm : c ∈ numL i.natAbs := by rw [h]; exact List.mem_cons_self
        rw [z] at hm
        exact numL_free (.inl (by decide)) hm
      simp [this, hi]
theorem log2_of {n : Nat} {k : Nat} (h : n < 2 ^ k) (hk : 0 < k) : n.log2 < k := PySem.Flt.log2_lt_of hk h
end LP

set_option Elab.async false
set_option linter.all false
set_option maxRecDepth 100000
set_option maxHeartbeats 8000000
/-! LPS: sets of texts: set(list of texts), sorted of such a set. -/
namespace LP
open PySem PySem.Spec L2
open PyProof.Rows hiding St

/-! ### what a set of texts is -/
def tkey (e : Int × Value) : Str := match e.2 with
  | .str x _ => x
  | _ => Str.empty
def GoodT (w : World) (e : Int × Value) : Prop := ∃ x tk, e.2 = Value.str x tk ∧ e.1 = hashStr w x
/-- the table rises, and the order of a walk is told by it -/
def Walked (w : World) (t : SetTable) : Prop := Ris t.place.toList ∧ (w.params.followText "set-order" = true ∨ t.led = true)
structure TxIn (w : World) (es : Array (Int × Value)) (S : Str → Bool) : Prop where
  good : ∀ e ∈ es.toList, GoodT w e
  nd : (es.toList.map tkey).Nodup
  mem : ∀ k, S k = true ↔ k ∈ es.toList.map tkey
  few : es.size < scanBound
def SetT (w : World) (h : Heap) (a : Addr) (S : Str → Bool) (n : Nat) : Prop := ∃ o es ep t,
  h.get? a = some o ∧ o.ExactSet ∧ o.data = .set es ep t ∧ TxIn w es S ∧ t.fits es.size = true ∧ es.size = n ∧ Walked w t

section
variable {P : Program} {w : World} {h h' : Heap} {a : Addr} {S : Str → Bool} {n : Nat}
theorem SetT.at (R : SetT w h a S n) (k : ∀ o, h.get? a = some o → h'.get? a = some o) : SetT w h' a S n := by
  obtain ⟨o, es, ep, t, ho, r⟩ := R
  exact ⟨o, es, ep, t, k o ho, r⟩
theorem SetT.congr {S' : Str → Bool} {n' : Nat} (R : SetT w h a S n) (e : ∀ k, S' k = S k) (en : n' = n) : SetT w h a S' n' := by
  have q : S' = S := funext e
  rw [q, en]
  exact R
theorem tx_elems {l : List (Int × Value)} (g : ∀ e ∈ l, GoodT w e) : ElemsOf (strKind P w) l := by
  intro e he
  obtain ⟨x, tk, h1, h2⟩ := g e he
  constructor
  · refine ⟨x, ?_, h2⟩
    rw [h1]
    exact strKind_is P w x tk
  · rw [h1]
    rfl
theorem tx_is {e : Int × Value} (g : GoodT w e) (k : Str) : (strKind P w).is k e.2 = true ↔ tkey e = k := by
  obtain ⟨x, tk, h1, _⟩ := g
  unfold tkey
  rw [h1]
  constructor
  · intro q
    obtain ⟨u, e2⟩ := Value.isStrOf_shape (show Value.isStrOf k (.str x tk) = true from q)
    injection e2
  · intro q
    have q' : x = k := q
    rw [q']
    exact strKind_is P w k tk
theorem tx_mem {l : List (Int × Value)} (g : ∀ e ∈ l, GoodT w e) (k : Str) : k ∈ l.map tkey ↔ ∃ e ∈ l, (strKind P w).is k e.2 = true := by
  rw [List.mem_map]
  constructor
  · rintro ⟨e, he, q⟩
    exact ⟨e, he, (tx_is (P := P) (g e he) k).2 q⟩
  · rintro ⟨e, he, q⟩
    exact ⟨e, he, (tx_is (P := P) (g e he) k).1 q⟩
end

section
variable {P : Program} {w : World} {A : Around} {E : Value → Shared → Prop} {s : Shared} {a : Addr} {S : Str → Bool} {n : Nat}

theorem setT_tail {g : Bool → Sem Unit}
    (hg : ∀ (b : Bool) (s₁ : Shared) (Q' : Unit → Shared → Prop), Q' () s₁ → wpAny (model P w) A (g b) Q' E s₁)
    {o : Obj} {es : Array (Int × Value)} {ep : Nat} {t : SetTable} (ho : s.heap.get? a = some o) (hex : o.ExactSet) (hd : o.data = .set es ep t)
    {es1 : Array (Int × Value)} {t2 : SetTable} {S' : Str → Bool} (T1 : TxIn w es1 S') (hf2 : t2.fits es1.size = true) (hw : Walked w t2)
    {wasDummy : Bool} {R : Option Bool → Shared → Prop}
    (hR : ∀ h', Heap.SameBut a s.heap h' → SetT w h' a S' es1.size → R (some true) { s with heap := h' }) :
    wpAny (model P w) A (do
        storeSet a es1 t2
        if (!wasDummy && t2.tooFull) = true then do
            g (relayAll t2 es1 (SetTable.grown es1.size)).2.2
            storeSet a (relayAll t2 es1 (SetTable.grown es1.size)).1
              (relayAll t2 es1 (SetTable.grown es1.size)).2.1
            pure (some true)
          else pure (some true)) R E s := by
  refine wpAny_bind (wpAny_storeSet_of ho hd ?_ (fits_of_scanBound T1.few))
  have ho1 := store_at (es' := es1) (t' := t2) ho hd
  have sb1 := Heap.SameBut.update s.heap a (Obj.putSet es1 t2)
  split
  · have pm := relayAll_perm t2 es1 (SetTable.grown es1.size)
    have q1 := relayAll_fits t2 es1 (SetTable.grown es1.size)
    have q2 := relayAll_ris t2 es1 (SetTable.grown es1.size)
    have q3 := relayAll_led t2 es1 (SetTable.grown es1.size)
    generalize relayAll t2 es1 (SetTable.grown es1.size) = Z at pm q1 q2 q3 ⊢
    obtain ⟨es2, t3, gave⟩ := Z
    dsimp only at pm q1 q2 q3 ⊢
    have hsz : es2.size = es1.size := by
      have := pm.length_eq
      rw [Array.length_toList, Array.length_toList] at this
      exact this
    have few2 : es2.size < scanBound := hsz ▸ T1.few
    refine wpAny_bind (hg _ _ _ ?_)
    refine wpAny_bind (wpAny_storeSet_of ho1 rfl ?_ (fits_of_scanBound few2))
    have ho2 := store_at (es' := es2) (t' := t3) ho1 rfl
    refine wpAny_pure (hR _ (sb1.trans (Heap.SameBut.update _ a _)) ?_)
    have pk := pm.map tkey
    have T2 : TxIn w es2 S' := ⟨fun e he => T1.good e (pm.mem_iff.mp he), pk.nodup_iff.mpr T1.nd, fun k => (T1.mem k).trans pk.mem_iff.symm, few2⟩
    refine ⟨_, es2, _, t3, ho2, hex, rfl, T2, q1, hsz, q2, ?_⟩
    rcases hw.2 with z | z
    · exact .inl z
    · exact .inr (q3.trans z)
  · exact wpAny_pure (hR _ sb1 ⟨_, es1, _, t2, ho1, hex, rfl, T1, hf2, rfl, hw⟩)

theorem setT_add {k : Str} {tk : Tok} {Q : Bool → Shared → Prop} (R : SetT w s.heap a S n) (room : n + 1 < scanBound)
    (hQ : ∀ h', Heap.SameBut a s.heap h' → SetT w h' a (fun j => S j || decide (j = k)) (if S k = true then n else n + 1) →
      Q (!S k) { s with heap := h' }) :
    wpAny (model P w) A (setAddHashed a (.str k tk) ((strKind P w).hash k)) Q E s := by
  obtain ⟨o, es, ep, t, ho, hex, hd, T, hf, hn, hw⟩ := R
  have hkey : (strKind P w).is k (.str k tk) = true := strKind_is P w k tk
  have hsc : (Value.str k tk).scannable = true := rfl
  have hel : ElemsOf (strKind P w) es.toList := tx_elems T.good
  unfold setAddHashed setAddHashedIn
  refine wpAny_holding (wpAny_bind (wpAny_setState_of ho hd hf ?_))
  dsimp only
  rw [byScan_of hsc T.few hel]
  simp only [↓reduceIte]
  unfold setAddByScan
  refine wpAny_bind ?_
  refine wpAny_bind (wpAny_rule ?_)
  refine wpAny_bind (wpAny_setScan_of hkey ho hd hf hel ?_)
  cases hfi : List.findIdx? (fun e => (strKind P w).is k e.2) es.toList with
  | some j =>
    dsimp only
    obtain ⟨hj, pj, _⟩ := List.findIdx?_eq_some_iff_getElem.mp hfi
    have hSk : S k = true := (T.mem k).2 ((tx_mem (P := P) T.good k).2 ⟨es.toList[j], List.getElem_mem hj, pj⟩)
    refine wpAny_pure (wpAny_pure ?_)
    have mem' : ∀ i, (S i || decide (i = k)) = true ↔ i ∈ es.toList.map tkey := by
      intro i
      rw [Bool.or_eq_true, decide_eq_true_eq, ← T.mem i]
      constructor
      · rintro (z | z)
        · exact z
        · rw [z]; exact hSk
      · exact .inl
    have q := hQ s.heap (Heap.SameBut.refl a s.heap) ⟨o, es, ep, t, ho, hex, hd, ⟨T.good, T.nd, mem', T.few⟩, hf, by rw [if_pos hSk]; exact hn, hw⟩
    rw [hSk] at q
    exact q
  | none =>
    dsimp only
    have hnk : k ∉ es.toList.map tkey := by
      intro z
      obtain ⟨e, he, q⟩ := (tx_mem (P := P) T.good k).1 z
      have c := List.findIdx?_eq_none_iff.mp hfi e he
      rw [q] at c
      cases c
    have hSk : S k = false := by
      cases q : S k with
      | false => rfl
      | true => exact absurd ((T.mem k).1 q) hnk
    have hgw : ∀ (b : Bool) {s₁ : Shared} {Q' : Unit → Shared → Prop}, Q' () s₁ →
        wpAny (model P w) A (match b with | true => rule "set.scan.the-table-gave-way" | false => pure ()) Q' E s₁ := by
      intro b s₁ Q' q
      cases b
      · exact wpAny_pure q
      · exact wpAny_rule q
    have pm := layNew_perm t es ((strKind P w).hash k) (.str k tk)
    have q1 := layNew_fits t es ((strKind P w).hash k) (.str k tk)
    have q2 := layNew_ris t es ((strKind P w).hash k) (.str k tk) hw.1
    have q3 := layNew_led t es ((strKind P w).hash k) (.str k tk)
    generalize layNew t es ((strKind P w).hash k) (.str k tk) = Z at pm q1 q2 q3 ⊢
    obtain ⟨es1, t1, wasDummy, gave⟩ := Z
    dsimp only at pm q1 q2 q3 ⊢
    rw [Array.toList_push] at pm
    have pc := pm.trans (List.perm_append_singleton _ _)
    have pk : (es1.toList.map tkey).Perm (k :: es.toList.map tkey) := pc.map tkey
    have hsz : es1.size = n + 1 := by
      have z := pc.length_eq
      rw [List.length_cons, Array.length_toList, Array.length_toList, hn] at z
      exact z
    have T1 : TxIn w es1 (fun j => S j || decide (j = k)) := by
      refine ⟨fun e he => ?_, pk.nodup_iff.mpr (List.nodup_cons.mpr ⟨hnk, T.nd⟩), fun i => ?_, hsz ▸ room⟩
      · rcases List.mem_cons.mp (pc.mem_iff.mp he) with z | z
        · rw [z]
          exact ⟨k, tk, rfl, rfl⟩
        · exact T.good e z
      · rw [Bool.or_eq_true, decide_eq_true_eq, T.mem i, pk.mem_iff, List.mem_cons]
        exact Or.comm
    have hw1 : Walked w t1 := by
      refine ⟨q2, ?_⟩
      rcases hw.2 with z | z
      · exact .inl z
      · exact .inr (q3.trans z)
    have fin : ∀ h', Heap.SameBut a s.heap h' → SetT w h' a (fun j => S j || decide (j = k)) es1.size → Q true { s with heap := h' } := by
      intro h' sb r
      have q := hQ h' sb
      rw [hSk] at q
      rw [hsz] at r
      exact q r
    refine wpAny_bind (hgw _ ?_)
    split
    · refine wpAny_bind ?_
      rw [hashByValue_scannable 8 hsc]
      refine wpAny_pure ?_
      refine setT_tail ?_ ho hex hd T1 ?_ ?_ ?_
      · intro b s₁ Q' q
        cases b
        · exact wpAny_pure q
        · exact wpAny_rule q
      · first | (split <;> first | exact q1 | exact SetTable.fits_plain_off q1) | exact q1
      · first | (split <;> exact hw1) | exact hw1
      · intro h' sb r
        dsimp only
        exact wpAny_pure (fin h' sb r)
    · refine wpAny_bind (wpAny_pure ?_)
      simp only [↓reduceIte]
      refine setT_tail ?_ ho hex hd T1 q1 hw1 ?_
      · intro b s₁ Q' q
        cases b
        · exact wpAny_pure q
        · exact wpAny_rule q
      · intro h' sb r
        dsimp only
        exact wpAny_pure (fin h' sb r)
end

/-! ### set(xs) -/
section
variable {prog : Program} {w : World} {A : Around} {R : Result → Shared → Prop} {I : Addr} {fp wr : List Addr}
  {G : Array GenState → Array GenState → Prop} {n : Nat} {P : Nat → Value → Prop} {St : Nat → Shared → Prop}

/-- the set at S holds just the first i of the texts -/
def HoldsT (w : World) (h : Heap) (S : Addr) (xs : List Str) (i : Nat) : Prop := ∃ (M : Str → Bool) (m : Nat), SetT w h S M m ∧ m ≤ i ∧ ∀ k, M k = true ↔ k ∈ xs.take i

theorem update_texts (W : WalksS prog w A.in1 I fp wr G n P St) (S : Addr) (hSf : S ∉ fp) (xs : List Str)
    (hval : ∀ (i : Nat) (v : Value), P i v → ∃ x t, xs[i]? = some x ∧ v = Value.str x t) (hb : n + 1 < scanBound) :
    ∀ (k i : Nat) (s : Shared), n - i = k → i ≤ n → St i s → HoldsT w s.heap S xs i →
      (∀ s', Moved (S :: wr) G s s' → HoldsT w s'.heap S xs n → R (.ok (.ret .none)) s') →
      codeAny (model prog w) A (.builtin "set.update.loop" ⟨[.ref S, .ref I], []⟩) R s := by
  have hSw : S ∉ wr := fun h => hSf (W.sub _ h)
  have hsub : ∀ b ∈ wr, b ∈ S :: wr := fun b hb => List.mem_cons_of_mem _ hb
  intro k
  induction k with
  | zero =>
    intro i s hk hi hst hS hR
    obtain rfl : i = n := by omega
    refine codeAny_builtin F.entry_set_update_loop ?_
    rw [Around.under_plainId F.plain_set_update_loop _]
    show wpAny _ A.in1 (pyNext (.ref I) >>= _) _ _ s
    refine wpAny_bind (W.done s _ _ hst ?_)
    intro s' hm
    show wpAny _ A.in1 (ret Value.none) _ _ s'
    refine wpAny_pure (hR s' (hm.mono hsub) ?_)
    obtain ⟨M, m, T, hmi, hM⟩ := hS
    exact ⟨M, m, T.at fun o ho => hm.heap S _ hSw ho, hmi, hM⟩
  | succ k ih =>
    intro i s hk hi hst hS hR
    have hlt : i < n := by omega
    refine codeAny_builtin F.entry_set_update_loop ?_
    rw [Around.under_plainId F.plain_set_update_loop _]
    show wpAny _ A.in1 (pyNext (.ref I) >>= _) _ _ s
    refine wpAny_bind (W.item i s _ _ hlt hst ?_)
    intro v s' hP hst' hm
    obtain ⟨x, t, hx, rfl⟩ := hval i v hP
    obtain ⟨M, m, T, hmi, hM⟩ := hS
    have T' : SetT w s'.heap S M m := T.at fun o ho => hm.heap S _ hSw ho
    show wpAny _ A.in1 (holding [Value.str x t] (setAdd S (.str x t)) >>= _) _ _ s'
    refine wpAny_bind (wpAny_holding ?_)
    unfold setAdd
    refine wpAny_holding ?_
    refine wpAny_bind ((strKind prog w).pyHash (k := x) (strKind_is _ _ _ _) ?_)
    refine setT_add (s := { s' with toks := s'.toks + 1 }) T' (by omega) ?_
    intro h' hsb T2
    have hSi : HoldsT w h' S xs (i + 1) := by
      refine ⟨_, _, T2, ?_, fun j => ?_⟩
      · split <;> omega
      · rw [Bool.or_eq_true, decide_eq_true_eq, hM j, List.take_add_one, hx, List.mem_append]
        show _ ↔ _ ∨ j ∈ [x]
        rw [List.mem_singleton]
    refine wpAny_pure ⟨plainId_quiet F.plain_set_update_loop _, ?_⟩
    refine ih (i + 1) _ (by omega) hlt (W.frame _ s' _ _ hst' (Nat.le_succ _) ?_) hSi ?_
    · intro b hb o e
      rw [hsb.2 b (fun h : b = S => hSf (by rw [← h]; exact hb))]
      exact e
    · intro s'' hm'' hS''
      refine hR s'' (Moved.trans W.gtrans ((hm.mono hsub).then_heap (Nat.le_succ _) ?_) hm'') hS''
      intro b o hb e
      rw [hsb.2 b (fun h : b = S => hb (by rw [h]; exact List.mem_cons_self))]
      exact e
end

section
variable {P : Program} {w : World} {A : Around} {E : Value → Shared → Prop} {s : Shared}
def freshSet (w : World) : Obj := { cls := .type "set", dict := none, data := .set #[] 0 (.fresh 0 0 (!w.params.followText "set-order")) }
theorem set_new1 (a : Value) {Q₁ : Value → Shared → Prop} (h : Q₁ (.ref s.heap.objs.size) { s with heap := s.heap.push (freshSet w) }) :
    codeAny (model P w) A (.call (.builtin "set.__new__") ⟨[.type "set", a], []⟩) (wants Q₁ E) s := by
  refine codeAny_of_tree ?_
  show wpAny _ A.in1 (do
    checkBuiltinCall "set.__new__" ⟨[.type "set", a], []⟩
    again (.builtin "set.__new__" ⟨[.type "set", a], []⟩)) _ _ s
  refine wpAny_bind (wpAny_of_eq (F.newCall_set_1 a) (wpAny_pure ⟨plainId_quiet F.plain_set_new _, ?_⟩))
  refine codeAny_builtin F.entry_set_new ?_
  rw [Around.under_plainId F.plain_set_new _]
  unfold Builtin.«set.__new__» Builtin.Frozenset.newClass
  have hsub := sub_set_self
  obtain ⟨hp, g, d, tk, os⟩ := s
  dsimp only
  wp_walk
  refine wpAny_askSetting (wpAny_pure ?_)
  dsimp only
  simp only [newObj]
  exact wpAny_bind (wpAny_alloc (wpAny_pure (wpAny_pure h)))
theorem setT_fresh {h : Heap} (w : World) (xs : List Str) : HoldsT w (h.push (freshSet w)) h.objs.size xs 0 := by
  refine ⟨fun _ => false, 0, ⟨_, #[], 0, _, Heap.get?_push_size _ rfl, ⟨rfl, rfl, rfl⟩, rfl, ⟨?_, ?_, ?_, ?_⟩, ?_, rfl, List.Pairwise.nil, ?_⟩, Nat.le_refl _, ?_⟩
  · intro e he
    simp at he
  · simp
  · intro k
    simp
  · decide
  · rfl
  · show _ ∨ (!w.params.followText "set-order") = true
    cases w.params.followText "set-order"
    · exact .inr rfl
    · exact .inl rfl
  · intro k
    simp

theorem call_set_texts {l : Addr} {items : Array Value} {xs : List Str} {Q : Value → Shared → Prop} (hh : A.handled = none)
    (hl : s.heap.IsList l items) (hi : ∀ (i : Nat) (v : Value), items[i]? = some v → ∃ x t, xs[i]? = some x ∧ v = Value.str x t) (hb : items.size + 1 < scanBound)
    (h : ∀ (h' : Heap) (tk : Nat), HoldsT w h' s.heap.objs.size xs items.size →
      (∀ b o, b < s.heap.objs.size → s.heap.get? b = some o → h'.get? b = some o) → Q (.ref s.heap.objs.size) { s with heap := h', toks := tk }) :
    wpAny (model P w) A (call (.type "set") [.ref l]) Q E s := by
  obtain ⟨c, tl, hmro⟩ := F.called_set.mro
  have hmade := F.called_set.made
  have hsub := F.called_set.sub
  refine wpAny_call (codeAny_of_tree ?_)
  show wpAny _ _ (callAny (.type "set") _) _ _ _
  refine wpAny_pure ⟨Code.quiet_builtin _ (by decide +kernel), ?_⟩
  refine codeAny_builtin F.entry_type_call ?_
  rw [Around.under_plain (weight_type_call_type "set" [.ref l] []) rfl]
  have h1 := F.called_set.notType
  have h2 := F.called_set.canCreate
  have hct := F.typeCall_set_1 (.ref l)
  repeat (any_goals (first | assumption | wp_step))
  refine codeAny_mono (set_new1 (.ref l) (E := E) (Q₁ := fun obj s₁ => obj = .ref s.heap.objs.size ∧ s₁ = { s with heap := s.heap.push (freshSet w) }) ⟨rfl, rfl⟩) ?_
  intro r s₁ hr
  cases r with
  | error e => exact hr
  | ok fl =>
    cases fl with
    | ret obj =>
      obtain ⟨rfl, rfl⟩ := hr
      have hS : (s.heap.push (freshSet w)).get? s.heap.objs.size = some (freshSet w) := Heap.get?_push_size _ rfl
      have hT : Shared.TypeIs { s with heap := s.heap.push (freshSet w) } (.ref s.heap.objs.size) "set" := ⟨_, hS, rfl⟩
      have hli := F.called_set.init.lookup
      have hbi := F.called_set.init.bind (.ref s.heap.objs.size)
      repeat (any_goals (first | assumption | wp_step))
      refine codeAny_mono (codeAny_call_builtin (R := wants (fun r s₂ => r = .none ∧ ∃ h' tk, s₂ = { s with heap := h', toks := tk } ∧
          HoldsT w h' s.heap.objs.size xs items.size ∧ (∀ b o, b < s.heap.objs.size → s.heap.get? b = some o → h'.get? b = some o)) E)
        F.called_set.init.plain F.entry_set_init (check_set_init_1 hT ?_)) ?_
      · obtain ⟨ol, hol, hcl, nl, hdl⟩ := hl
        obtain ⟨ocls, odict, odata, oslots⟩ := ol
        simp only at hcl hdl
        subst hcl
        subst hdl
        have hol' : (s.heap.push (freshSet w)).get? l = some { cls := .type "list", dict := odict, data := .seq items nl, slots := oslots } := Heap.get?_push_of_some _ hol
        have hsls := F.sub_list_set
        have hslf := F.sub_list_frozenset
        have hne : (Value.type "list" == Value.type "dict") = false := by decide
        have hl1 : (s.heap.push (freshSet w)).IsList l items := ⟨_, hol', rfl, nl, rfl⟩
        unfold Builtin.«set.__init__» noKeywords Builtin.Frozenset.updateFrom
        generalize hPI : pyIter = PI
        wp_walk
        subst hPI
        refine wpAny_pyIter_list hl1 ?_
        refine wpAny_bind (wpAny_runValue ?_)
        have hlS : l < s.heap.objs.size := Heap.lt_size hol
        have hh3 : A.in1.in1.in1.handled = none := by simp [hh]
        have hsz : (s.heap.push (freshSet w)).objs.size = s.heap.objs.size + 1 := Heap.size_push _ _
        have hneI : l ≠ (s.heap.push (freshSet w)).objs.size := by
          rw [hsz]
          exact Nat.ne_of_lt (Nat.lt_succ_of_lt hlS)
        have hSf : s.heap.objs.size ∉ [(s.heap.push (freshSet w)).objs.size, l] := by
          rw [hsz]
          simp only [List.mem_cons, List.not_mem_nil, or_false, not_or]
          exact ⟨Nat.ne_of_lt (Nat.lt_succ_self _), Nat.ne_of_gt hlS⟩
        refine update_texts ((Walks.list hh3 _ l hneI items).toS) s.heap.objs.size hSf xs hi hb (items.size - 0) 0 _ (by omega) (Nat.zero_le _)
          ⟨⟨_, Heap.get?_push_size _ rfl, rfl, rfl⟩, (hl1.push _)⟩ ?hS0 ?hR
        case hS0 =>
          obtain ⟨M, m, T, e1, e2⟩ := setT_fresh (h := s.heap) w xs
          exact ⟨M, m, T.at fun o ho => Heap.get?_push_of_some _ ho, e1, e2⟩
        case hR =>
          intro s' hm hS'
          obtain ⟨h', g', d', tk', os'⟩ := s'
          have eg : g' = s.gens := hm.gens
          have ed : d' = s.drawn := hm.drawn
          have eo : os' = s.os := hm.os
          subst eg
          subst ed
          subst eo
          show wpAny _ _ _ _ _ _
          refine wpAny_pure ?_
          show wpAny _ _ (ret Value.none) _ _ _
          refine wpAny_pure ⟨rfl, h', tk', rfl, hS', ?_⟩
          intro b o hb e
          have hb1 : b ≠ s.heap.objs.size := Nat.ne_of_lt hb
          have hb2 : b ≠ (s.heap.push (freshSet w)).objs.size := by
            rw [hsz]
            exact Nat.ne_of_lt (Nat.lt_succ_of_lt hb)
          refine hm.heap b o ?_ (Heap.get?_push_of_some _ (Heap.get?_push_of_some _ e))
          simp only [List.mem_cons, List.not_mem_nil, or_false, not_or]
          exact ⟨hb1, hb2⟩
      · intro r₂ s₂ hr₂
        cases r₂ with
        | error e => exact hr₂
        | ok fl₂ =>
          cases fl₂ with
          | ret r =>
            obtain ⟨rfl, h', tk, rfl, hS', hk'⟩ := hr₂
            repeat (any_goals (first | assumption | wp_step))
            exact h _ _ hS' hk'
          | _ => exact hr₂.elim
    | _ => exact hr.elim

/-! ### sorted(set) -/
def txtOf (v : Value) : Str := match v with
  | .str x _ => x
  | _ => Str.empty
theorem strs_of : ∀ (l : List Value), (∀ v ∈ l, ∃ x tk, v = Value.str x tk) → StrsAre l (l.map txtOf)
  | [], _ => .nil
  | v :: l, h => by
    obtain ⟨x, tk, rfl⟩ := h v List.mem_cons_self
    exact .cons x tk (strs_of l fun u hu => h u (List.mem_cons_of_mem _ hu))

theorem sorted_texts {a : Addr} {S : Str → Bool} {n : Nat} {Q : Value → Shared → Prop} (R : SetT w s.heap a S n) (hh : A.handled = none)
    (hQ : ∀ s' p (out : Array Value) (c : Nat) (ys : List Str), (∀ b o, s.heap.get? b = some o → s'.heap.get? b = some o) → s'.gens = s.gens → s'.os = s.os →
      s.heap.objs.size ≤ p → s'.heap.get? p = some (seqObj "list" out c) → StrsAre out.toList ys → sortedS ys = true → ys.Nodup → (∀ k, k ∈ ys ↔ S k = true) →
      ys.length = n → Q (.ref p) s') :
    wpAny (model P w) A (call (.builtin "sorted") [.ref a]) Q E s := by
  obtain ⟨o, es, ep, t, ho, hex, hd, T, hf, hn, hw⟩ := R
  refine Calls.call_function_entry kind_sorted plain_sorted entry_sorted (args_sorted1 _) ?_
  unfold Builtin.«sorted»
  refine wpAny_bind (m := checkCount "sorted" 1 1 _) (wpAny_pure ?_)
  refine wpAny_bind (collect_set (A := A.in1) hh ⟨o, ho, hex.1, hd⟩ hf T.few hw.1 hw.2 ?_)
  intro s1 vs k1 hz g1 o1 pm
  have hvl : vs.length = n := by
    rw [pm.length_eq, List.length_map, Array.length_toList]
    exact hn
  have hI : StrsAre vs (vs.map txtOf) := by
    refine strs_of vs fun v hv => ?_
    obtain ⟨e, he, q⟩ := List.mem_map.mp (pm.mem_iff.mp hv)
    obtain ⟨x, tk, h1, _⟩ := T.good e he
    exact ⟨x, tk, by rw [← q]; exact h1⟩
  have pk : (vs.map txtOf).Perm (es.toList.map tkey) := by
    have q := pm.map txtOf
    rw [List.map_map] at q
    exact q
  have hline : vs.length ≤ sizeLine := by
    rw [hvl, ← hn]
    exact fits_of_scanBound T.few
  refine wpAny_bind (wpAny_newList ?_ hline)
  have hoL : (s1.heap.push (seqObj "list" vs.toArray 0)).get? s1.heap.objs.size = some (seqObj "list" vs.toArray 0) := Heap.get?_push_size _ rfl
  refine wpAny_bind (wpAny_holding (wpAny_call_entry slot_list_sort ⟨_, hoL, rfl⟩ entry_list_sort
    (list_sort_treeKAny strKind_oneLt hoL hI.keysOf (fun v₁ v₂ rest e => keyKind_strs (by rw [← e]; exact hI)) hline ?_) (args_list_sort _)))
  intro st' hp hs
  obtain ⟨ys, a1, a2, a3⟩ := sorted_out_str hI hp hs
  refine ⟨_, rfl, ?_⟩
  obtain ⟨c, hc⟩ := sortedHeap_at (vs := vs) (out := (arrOf st').map (·.2)) hoL
  have pn : ys.Perm (es.toList.map tkey) := a2.trans pk
  refine wpAny_pure ⟨_, rfl, ?_⟩
  refine hQ _ s1.heap.objs.size _ c ys ?_ g1 o1 hz hc a1 a3 (pn.nodup_iff.mpr T.nd) (fun k => by rw [pn.mem_iff, ← T.mem k]) ?_
  · intro b u e
    have q := k1 b u e
    have hlt := Heap.lt_size q
    show (sortedHeap (s1.heap.push (seqObj "list" vs.toArray 0)) s1.heap.objs.size vs _).get? b = some u
    rw [sortedHeap_old (Nat.ne_of_lt hlt) (by rw [size_push']; exact Nat.lt_succ_of_lt hlt)]
    exact Heap.get?_push_of_some _ q
  · rw [pn.length_eq, List.length_map, Array.length_toList]
    exact hn
end

/-! ### over the layer -/
/-- a tracked set of just these texts -/
def TxS (w : World) (a : Addr) (xs : List Str) : HO := .ext fun h => HoldsT w h a xs xs.length
theorem txS_ok {P : Program} {w : World} {H : Hp} {h : Heap} {a : Addr} {xs : List Str} (T : HoldsT w h a xs xs.length) : ObjOk P w H h a (TxS w a xs) := by
  refine ⟨T, ?_, ?_⟩
  · obtain ⟨_, _, ⟨o, _, _, _, ho, _⟩, _⟩ := T
    exact ⟨o, ho⟩
  · rintro h1 h2 ⟨M, m, T1, e1, e2⟩ k
    exact ⟨M, m, T1.at k, e1, e2⟩
/-- sorted, each once, the same members -/
structure Sorted (ys xs : List Str) : Prop where
  up : sortedS ys = true
  nd : ys.Nodup
  mem : ∀ k, k ∈ ys ↔ k ∈ xs
  len : ys.length ≤ xs.length
def rSetT (w : World) : List V → Hp → VK → Prop := fun vs H Q => ∃ (l : Addr) (xs : List Str), vs = [.ref l] ∧ H l = some (.lst (xs.map V.str)) ∧ xs.length + 1 < scanBound ∧
  ∀ p, H p = none → Q (.ref p) (upd H p (TxS w p xs))
def rSortT (w : World) : List V → Hp → VK → Prop := fun vs H Q => ∃ (a : Addr) (xs : List Str), vs = [.ref a] ∧ H a = some (TxS w a xs) ∧
  ∀ ys p, Sorted ys xs → H p = none → Q (.ref p) (upd H p (.lst (ys.map V.str)))
theorem vals_str {xs : List Str} {us : List Value} (r : Vals (xs.map V.str) us) (i : Nat) (v : Value) (h : us[i]? = some v) : ∃ x t, xs[i]? = some x ∧ v = Value.str x t := by
  have hi : i < us.length := (List.getElem?_eq_some_iff.mp h).1
  have hx : i < xs.length := by
    have := r.length
    rw [List.length_map] at this
    omega
  obtain ⟨u, h1, h2⟩ := Vals.get (i := i) (x := V.str xs[i]) r (by rw [List.getElem?_map, List.getElem?_eq_getElem hx]; rfl)
  rw [h] at h1
  cases h1
  obtain ⟨t, e⟩ := h2
  exact ⟨xs[i], t, List.getElem?_eq_getElem hx, e⟩
section
variable {X : Cx}
theorem cr_setT (hc : X.calm = true) : CallR X (.type "set") (rSetT X.w) := by
  intro pins s σ H vs us Q I r h
  obtain ⟨l, xs, rfl, hl, hz, q⟩ := h
  obtain ⟨its, rv, pl, _⟩ := I.list (SqL.of hl)
  rw [Vals.ref1 r]
  have hlen : its.length = xs.length := by
    have := rv.length
    rw [List.length_map] at this
    exact this.symm
  refine call_set_texts (xs := xs) (I.ok.hd hc) pl.isList (fun i v hv => vals_str rv i v (by simpa using hv)) (by rw [List.size_toArray, hlen]; exact hz) ?_
  intro h' tk T k
  have ez : its.toArray.size = xs.length := by rw [List.size_toArray, hlen]
  rw [ez] at T
  have kk : ∀ b o, s.heap.get? b = some o → h'.get? b = some o := fun b o e => k b o (Heap.lt_size e) e
  exact ⟨.ref _, _, I.laid (t' := tk) kk (Nat.le_refl _) (txS_ok T), rfl, q _ (I.hok.fresh (Nat.le_refl _))⟩
theorem cr_sortT (hc : X.calm = true) : CallR X (.builtin "sorted") (rSortT X.w) := by
  intro pins s σ H vs us Q I r h
  obtain ⟨a, xs, rfl, ha, q⟩ := h
  have T : HoldsT X.w s.heap a xs xs.length := (I.hok a _ ha).1
  obtain ⟨M, m, T, hm, hM⟩ := T
  rw [List.take_length] at hM
  rw [Vals.ref1 r]
  refine sorted_texts T (I.ok.hd hc) ?_
  intro s' p out c ys k g o hp hg hs h1 h2 h3 h4
  have so : Sorted ys xs := ⟨h1, h2, fun j => (h3 j).trans (hM j), by rw [h4]; exact hm⟩
  have few : ys.length < scanBound := by
    obtain ⟨_, es, _, _, _, _, _, Tx, _, hn, _⟩ := T
    rw [h4, ← hn]
    exact Tx.few
  have hlen : (ys.map V.str).length ≤ sizeLine := by
    rw [List.length_map]
    exact fits_of_scanBound few
  have hn : H p = none := I.hok.fresh hp
  have J : Inv X pins σ (upd H p (.lst (ys.map V.str))) { s with heap := s'.heap, gens := s'.gens, drawn := s'.drawn, toks := s'.toks } :=
    I.call (ch := []) (Un.laid k hp hn) (I.hok.laid k hp ⟨hlen, out.toList, c, vals_of_strs hs, hg⟩) (by rw [g]; exact I.bare) (fun _ z => nomatch z)
  have e : s' = { s with heap := s'.heap, gens := s'.gens, drawn := s'.drawn, toks := s'.toks } := by
    cases s'
    cases s
    cases o
    rfl
  rw [e]
  exact ⟨.ref p, _, J, rfl, q ys p so hn⟩
end
end LP

set_option Elab.async false
set_option linter.all false
set_option maxRecDepth 100000
set_option maxHeartbeats 4000000
/-! LPX: further readings: texts repeated, signs of a text, tuples walked, all(..). -/
namespace LP
open PySem PySem.Spec L2
open PyProof.Rows hiding St

/-! ### a text repeated -/
def repS (z : Str) (n : Int) : Str := Txt.mul z n
theorem foldl_app {α : Type} : ∀ (l : List (Array α)) (a : Array α), (l.foldl (· ++ ·) a).toList = a.toList ++ (l.map Array.toList).flatten
  | [], a => by simp
  | x :: r, a => by
    rw [List.foldl_cons, foldl_app r (a ++ x)]
    simp
theorem tl_rep (z : Str) (n : Int) : TL.tl (repS z n) = (List.replicate n.toNat (TL.tl z)).flatten := by
  unfold repS Txt.mul
  by_cases h : n < 1
  · rw [if_pos h]
    have e : n.toNat = 0 := by omega
    rw [e]
    rfl
  · rw [if_neg h]
    by_cases h2 : (n == 1 || z.length == 0) = true
    · rw [if_pos h2]
      rw [Bool.or_eq_true, beq_iff_eq, beq_iff_eq] at h2
      rcases h2 with e | e
      · rw [e]
        simp
      · have e2 : TL.tl z = [] := List.length_eq_zero_iff.mp ((len_tl' z).symm.trans e)
        rw [e2]
        simp
    · rw [if_neg h2]
      show ((List.replicate n.toNat z.cps).foldl (· ++ ·) #[]).toList = _
      rw [foldl_app]
      simp
theorem len_rep (z : Str) (n : Int) : (repS z n).length = z.length * n.toNat := by
  rw [len_tl', tl_rep, List.length_flatten, len_tl']
  simp [Nat.mul_comm]
def rRepS : R2 := fun x y H Q => ∃ z n, x = .str z ∧ y = .int n ∧ (-(2 ^ 63) ≤ n ∧ n < 2 ^ 63 ∧ z.length * n.toNat ≤ sizeLine) ∧ Q (.str (repS z n)) H
section
variable {X : Cx}
theorem op_repS : OpR X (binaryOp .Mult) rRepS := by
  intro pins s σ H x y v u Q I rx ry h
  obtain ⟨z, n, rfl, rfl, ⟨h1, h2, h3⟩, q⟩ := h
  obtain ⟨t, rfl⟩ := rx
  obtain ⟨k, rfl⟩ := ry
  refine SB.mul ⟨?_, ?_, ?_⟩ (fun t' k' => ⟨.str _, H, I.tok _, ⟨_, rfl⟩, q⟩)
  · rw [Bool.or_eq_false_iff, decide_eq_false_iff_not, decide_eq_false_iff_not]
    omega
  · intro hn _ hc
    have e : sizeLine = 16777216 := sizeLine_eq
    rw [e] at h3
    have h5 : (z.length : Int) * n ≤ 16777216 := by
      have e2 : ((n.toNat : Nat) : Int) = n := Int.toNat_of_nonneg (by omega)
      have e3 := Int.ofNat_le.mpr h3
      rw [Int.natCast_mul, e2] at e3
      exact e3
    have h6 : (z.length : Int) ≤ (2 ^ 63 - 1) / n := by
      rw [Int.le_ediv_iff_mul_le (by omega)]
      omega
    omega
  · intro hn _
    show decide (z.length * n.toNat > sizeLine) = false
    rw [decide_eq_false_iff_not]
    exact Nat.not_lt_of_le h3
end

/-! ### the signs of a text -/
def sgn (c : Nat) : V := .str ⟨#[c]⟩
def signs (x : Str) : List V := x.cps.toList.map sgn
theorem signs_len (x : Str) : (signs x).length = x.length := by
  unfold signs
  rw [List.length_map, len_tl']
theorem walk_signs (x : Str) : Walk (Its x) (signs x).length (fun _ => True) (YAt (signs x)) := by
  have e : (signs x).length = x.cps.size := signs_len x
  refine ⟨fun i H hi _ => ?_, fun H _ => ?_, fun i H v H' hi _ y => ?_⟩
  · rw [e] at hi
    exact hi
  · exact Nat.le_of_eq e.symm
  · obtain ⟨e1, c, hc, e2⟩ := y
    refine ⟨e1, ?_⟩
    unfold signs
    rw [List.getElem?_map, Array.getElem?_toList, hc, e2]
    rfl

/-! ### comprehensions that leave what is known, over any walk -/
theorem lc_pureW {J : It} {G : Hp → Prop} {xs : List V} (W : Walk J xs.length G (YAt xs)) {j : Nat} {tt : TT} {te : TE} {vs : List Nat} {σ : St} {H : Hp} {Q : VK}
    (hG : ∀ H1, Same H H1 → G H1) (hz : xs.length ≤ 1000000) (f : V → Bool) (v : V → V)
    (hw : ∀ x, wipe ((wipe σ vs).set j (some x)) vs = wipe σ vs)
    (ht : ∀ x, x ∈ xs → ∀ H1, Same H H1 → ∀ R : Bool → Hp → Prop, (∀ H2, Same H1 H2 → R (f x) H2) → tt ((wipe σ vs).set j (some x)) H1 R)
    (he : ∀ x, x ∈ xs → f x = true → ∀ H1, Same H H1 → ∀ R : VK, (∀ H2, Same H1 H2 → R (v x) H2) → te ((wipe σ vs).set j (some x)) H1 R)
    (q : ∀ p H2, H p = none → Same H H2 → H2 p = some (.lst ((xs.filter f).map v)) → Q (.ref p) H2) : LcLoop J (gName j) tt te vs σ H Q := by
  intro D hD
  refine lc_it W (fun i H' => Same H H' ∧ H' D = some (.lst (((xs.take i).filter f).map v))) ⟨Same.new hD, upd_same⟩ (fun i H' _ p => hG H' p.1) ?_ ?_
  · rintro i x H1 H1' hi ⟨e1, d1⟩ ⟨rfl, hx⟩
    have hm : x ∈ xs := List.mem_of_getElem? hx
    have htk : xs.take (i + 1) = xs.take i ++ [x] := by rw [List.take_add_one, hx]; rfl
    refine ⟨hw x, ht x hm _ e1 _ fun H2 e2 => ?_⟩
    cases hf : f x with
    | true =>
      show te _ H2 _
      refine he x hm hf H2 (e1.trans e2) _ fun H3 e3 => ?_
      refine ⟨_, e3 _ _ (e2 _ _ d1), ?_, ?_, ?_⟩
      · have h1 : (((xs.take i).filter f).map v).length ≤ xs.length := by
          rw [List.length_map]
          exact Nat.le_trans (List.length_filter_le _ _) (by rw [List.length_take]; omega)
        exact Nat.lt_of_le_of_lt (Nat.le_trans h1 hz) (by decide)
      · intro b o e
        rw [upd_ne (ne_of_none e hD)]
        exact e3 _ _ (e2 _ _ (e1 _ _ e))
      · rw [htk, upd_same, List.filter_append, List.map_append, List.filter_cons, if_pos hf]
        rfl
    | false =>
      show Same H H2 ∧ _
      refine ⟨e1.trans e2, ?_⟩
      rw [htk, List.filter_append, List.filter_cons, if_neg (by rw [hf]; decide), List.map_append]
      show H2 D = some (.lst (_ ++ []))
      rw [List.append_nil]
      exact e2 _ _ d1
  · rintro H1 ⟨e1, d1⟩
    rw [List.take_length] at d1
    exact q D H1 hD e1 d1
/-- .. without a test -/
theorem lc_mapW {J : It} {G : Hp → Prop} {xs : List V} (W : Walk J xs.length G (YAt xs)) {j : Nat} {te : TE} {vs : List Nat} {σ : St} {H : Hp} {Q : VK}
    (hG : ∀ H1, Same H H1 → G H1) (hz : xs.length ≤ 1000000) (v : V → V)
    (hw : ∀ x, wipe ((wipe σ vs).set j (some x)) vs = wipe σ vs)
    (he : ∀ x, x ∈ xs → ∀ H1, Same H H1 → ∀ R : VK, (∀ H2, Same H1 H2 → R (v x) H2) → te ((wipe σ vs).set j (some x)) H1 R)
    (q : ∀ p H2, H p = none → Same H H2 → H2 p = some (.lst (xs.map v)) → Q (.ref p) H2) : LcLoop J (gName j) tYes te vs σ H Q := by
  refine lc_pureW W hG hz (fun _ => true) v hw (fun x _ H1 _ R h => h H1 (Same.refl _)) (fun x hx _ H1 e R h => he x hx H1 e R h) ?_
  intro p H2 hp e hl
  have ef : xs.filter (fun _ => true) = xs := List.filter_eq_self.mpr (fun _ _ => rfl)
  rw [ef] at hl
  exact q p H2 hp e hl

/-! ### loops over any walk -/
theorem loop_it {J : It} {n : Nat} {G : Hp → Prop} {Y : Nat → Hp → V → Hp → Prop} (W : Walk J n G Y) {g : TG} {tb : TS} {D : Ends} {σ : St} {H : Hp} (Pv : Nat → St → Hp → Prop) (h0 : Pv 0 σ H)
    (hG : ∀ i σ H, i ≤ n → Pv i σ H → G H)
    (hs : ∀ i x σ H H', i < n → Pv i σ H → Y i H x H' → g x σ H' fun σ2 H2 => Later tb { D with nx := Pv (i + 1), ct := Pv (i + 1), bk := D.nx } σ2 H2)
    (hd : ∀ σ H, Pv n σ H → D.nx σ H) : Loop J g tb D σ H := for_it W Pv h0 hG hs hd
theorem loop_tup {K : PySem.W.Frag} {a : Addr} {xs : List V} {g : TG} {tb : TS} {D : Ends} {σ : St} {H : Hp} (Pv : Nat → St → Hp → Prop) (h0 : Pv 0 σ H)
    (hl : ∀ i σ H, i ≤ xs.length → Pv i σ H → SqT K H a xs)
    (hs : ∀ (i : Nat) (x : V) (σ : St) (H : Hp), xs[i]? = some x → Pv i σ H → g x σ H fun σ2 H2 => Later tb { D with nx := Pv (i + 1), ct := Pv (i + 1), bk := D.nx } σ2 H2)
    (hd : ∀ σ H, Pv xs.length σ H → D.nx σ H) : Loop (Itt K a) g tb D σ H := for_tup (K := K) (a := a) (xs := xs) Pv h0 hl hs hd

/-! ### all(..), one sign in a text, ranges -/
def rAllM : List V → Hp → VK → Prop := fun vs H Q => ∃ (a : Addr) (bs : List Bool), vs = [V.ref a] ∧ H a = some (.lst (bs.map V.bl)) ∧ Q (.bl (bs.all id)) H
def rSgn : R2 := fun x y H Q => ∃ (c : Nat) (z : Str), x = sgn c ∧ y = .str z ∧ Q (.bl (decide (c ∈ z.cps.toList))) H
def rRng2 : List V → Hp → VK → Prop := fun vs H Q => ∃ i j, vs = [V.int i, V.int j] ∧ ∀ p, H p = none → Q (.ref p) (upd H p (.rng i j))
def rInRng : R2 := fun x y H Q => ∃ i a lo hi, x = V.int i ∧ y = V.ref a ∧ H a = some (.rng lo hi) ∧ Q (.bl (decide (lo ≤ i ∧ i < hi))) H
section
variable {X : Cx}
theorem op_eqK {K : PySem.W.Frag} (hK : X.K = K) (hu : X.A.units + 64 < cLine) : OpR X (compareOp .Eq) (rEqD K) := by
  subst hK
  exact op_eqD hu
theorem op_neK {K : PySem.W.Frag} (hK : X.K = K) (hu : X.A.units + 64 < cLine) : OpR X (compareOp .NotEq) (rNeD K) := by
  subst hK
  exact op_neD hu
theorem call_isiK' {K : PySem.W.Frag} (hK : X.K = K) : CallR X (.builtin "isinstance") (rIsi K) := by
  subst hK
  exact call_isi
theorem call_reprK {K : PySem.W.Frag} (hK : X.K = K) (gd : X.A.guards = some []) (hu : X.A.units + 64 < cLine) : CallR X (.builtin "repr") (rReprD K) := by
  subst hK
  exact call_reprD gd hu
theorem cr_allM (hc : X.calm = true) : CallR X (.builtin "all") rAllM := call_imp (cr_all hc) fun xs H Q ⟨a, bs, h1, h2, q⟩ => ⟨a, bs, h1, SqL.of h2, q⟩
theorem op_sgn : OpR X (compareOp .In) rSgn := op_imp op_in_sign fun x y H Q h => h
theorem cr_rng2 : CallR X (.type "range") rRng2 := cr_range2
theorem op_inRng : OpR X (compareOp .In) rInRng := op_in_rng
end
end LP

set_option Elab.async false
set_option linter.all false
set_option maxRecDepth 100000
set_option maxHeartbeats 2000000
/-! LPO: own operators of slotted instances: !=, binary operators, str(x), len(x), in. -/
namespace LPO
open PySem PySem.Spec PySem.W PyProof.Rows
section
variable {prog : Program} {w : World} {A : Around} {E : Value → Shared → Prop} {s : Shared} {K : Frag} {x C f : Addr} {ox : Obj} {od : Option Obj} {b tb : Value}
theorem bound_b {M : Model} {name : Str} {id : String} {args : List Value} {Q : Option Value → Shared → Prop} (X : K.In s.heap) (I : InstAt s.heap x ox C od) (hs : findIn K (.ref C) name = some (some (.builtin id)))
    (hb : ∀ self, bindSpecial (.builtin id) self = pure (.builtin id, [self])) (h : wpAny M A (call (.builtin id) (.ref x :: args)) (fun v => Q (some v)) E s) : wpAny M A (callSpecialIfBound? (.ref x) name args) Q E s := by
  simp only [callSpecialIfBound?, bindSpecialIfBound?]
  refine wpAny_holding (wpAny_bind (wpAny_bind (wpAny_bind (I.type.here ((looks_findIn X hs).here ?_)))))
  refine wpAny_bind (wpAny_askSetting (wpAny_ite ?_))
  have fin : wpAny M A (call (.builtin id) ([.ref x] ++ args) >>= fun v => pure (some v)) Q E s := wpAny_bind (wpAny_mono h (fun v s' h' => wpAny_pure h') fun _ _ h' => h')
  split
  · exact wpAny_bind ((Looks.of_pure (hb _)).here (wpAny_pure (by exact fin)))
  · exact wpAny_tryCatch (wpAny_bind ((Looks.of_pure (hb _)).here (wpAny_pure (by exact fin))))
theorem bind_ne (self : Value) : bindSpecial (.builtin "object.__ne__") self = pure (.builtin "object.__ne__", [self]) := by kernel_rfl
theorem plain_ne : plainId "object.__ne__" = true := by decide +kernel
/-- x != b by an own == -/
theorem ne_own {Q : Value → Shared → Prop} (hu : A.units + 1 < cLine) (X : K.In s.heap) (I : InstAt s.heap x ox C od) (hb : Looks (model prog w) s.heap (typeOf b) tb) (hn : notFirst K C tb = true) (hm : mroIn K C (.type "object") = some true)
    (hne : findIn K (.ref C) "__ne__" = some (some (.builtin "object.__ne__"))) (hs : findIn K (.ref C) "__eq__" = some (some (.ref f))) (hf : isFn K (.ref f) = true)
    (h : wpAny (model prog w) A.in1 (call (.ref f) [.ref x, b]) (fun v s' => ∃ c, v = .bool c ∧ Q (.bool (!c)) s') E s) : wpAny (model prog w) A (compareOp .NotEq (.ref x) b) Q E s := by
  have one : wpAny (model prog w) A (tryCompare (.ref x) "__ne__" b) (fun r s' => ∃ v, r = some v ∧ Q v s') E s := by
    unfold tryCompare
    refine wpAny_bind (bound_b X I hne bind_ne (wpAny_call (codeAny_call_builtin plain_ne F.cmpEntry_ne (check_slot (i := "object.__ne__") (owner := "object") (n := "__ne__") F.cmpKind_ne F.cmpSplit_ne (I.type.andThen (looks_mroIn X hm)) (F.cmpArgs_ne _ _) ?_))))
    unfold Builtin.«object.__ne__»
    refine wpAny_bind (m := slotArgs "__ne__" 1 _) (wpAny_pure ?_)
    refine wpAny_bind (m := cRoomFor _ _) (wpAny_cRoomFor hu ?_)
    refine wpAny_bind (m := callSpecialIfBound? (.ref x) (Str.ofString "__eq__") _) (ifBound_K X I hs hf (wpAny_mono h (fun v s' hq => ?_) fun _ _ y => y))
    obtain ⟨c, rfl, q⟩ := hq
    refine wpAny_bind (wpAny_truthy_bool (wpAny_pure ?_))
    exact wpAny_pure ⟨_, rfl, q⟩
  show wpAny (model prog w) A (richCompare .NotEq (.ref x) b) Q E s
  unfold richCompare
  simp only [oneThing_ref]
  refine wpAny_holding (wpAny_bind (wpAny_cRoomFor (Nat.lt_of_succ_lt hu) ?_))
  rw [cmpInfo_NotEq]
  refine wpAny_bind (I.type.here (wpAny_bind (hb.here ?_)))
  split
  · rename_i q
    have e : subIn K tb (.ref C) = some false := by
      rcases Bool.or_eq_true_iff.mp hn with e | e
      · rw [beq_iff_eq.mp e] at q; simp at q
      · exact beq_iff_eq.mp e
    refine wpAny_bind ((looks_subIn X e).here ?_)
    simp only [Bool.false_eq_true, if_false]
    refine wpAny_bind (wpAny_mono one (fun r s' z => ?_) fun _ _ e => e)
    obtain ⟨v, rfl, hq⟩ := z
    exact wpAny_pure hq
  · refine wpAny_bind (wpAny_pure ?_)
    simp only [Bool.false_eq_true, if_false]
    refine wpAny_bind (wpAny_mono one (fun r s' z => ?_) fun _ _ e => e)
    obtain ⟨v, rfl, hq⟩ := z
    exact wpAny_pure hq
end
end LPO
namespace LP
open PySem PySem.Spec L2 SlX
open PyProof.Rows hiding St signs
theorem toR {P : Program} {w : World} {K : PySem.W.Frag} {mg : Str → Option Value} {base : Heap} {CX : CXT} {k : Nat} {f : Addr} {sp : Sp} {fd : FuncData} {ps : List Str} (F : FnOk P w K mg base CX k f fd ps sp) (hb : Binds K fd ps []) :
    FnR P w K mg base CX k f sp := (F.raw hb .nil).imp fun vs H Q E h => by rw [List.append_nil]; exact h
section
variable {X : Cx} {CX : CXT} {C g : Addr} {n : Nat} {sp : Sp} {E : XK}
/-- x != y, x an instance of the class at C with an own == at g -/
def rOwnNe (K : PySem.W.Frag) (C : Addr) (sp : Sp) (E : XK) : R2 := fun x y H Q => ∃ a dx vs b C' dy ws, x = .ref a ∧ y = .ref b ∧ Slt H a C dx vs ∧ Slt H b C' dy ws ∧ PySem.W.notFirst K C (.ref C') = true ∧ sp [x, y] H (fun z H' => ∃ c, z = .bl c ∧ Q (.bl (!c)) H') E
theorem op_ownNe (hm : PySem.W.mroIn X.K C (.type "object") = some true) (hne : PySem.W.findIn X.K (.ref C) "__ne__" = some (some (.builtin "object.__ne__"))) (hs : PySem.W.findIn X.K (.ref C) "__eq__" = some (some (.ref g))) (hf : PySem.W.isFn X.K (.ref g) = true)
    (F : FnR X.prog X.w X.K X.mg X.base CX n g sp) (hr : Room (n + 1) X.A) (hx : Passes CX X E) : OpR X (compareOp .NotEq) (rOwnNe X.K C sp E) := by
  intro pins s σ H x y v u Q I rx ry h
  obtain ⟨a, dx, vs, b, C', dy, ws, rfl, rfl, ha, hb, hn, q⟩ := h
  cases (show v = Value.ref a from rx)
  cases (show u = Value.ref b from ry)
  obtain ⟨sl, od, _, J, _⟩ := slt_inst I ha
  obtain ⟨sl', od', _, J', _⟩ := slt_inst I hb
  refine LPO.ne_own (tb := .ref C') (by have := hr.units; omega) I.kIn J J'.type hn hm hne hs hf ?_
  refine wpAny_mono (wpAny_call (run_at (us := [.ref a, .ref b]) (ws := [.ref a, .ref b]) F hr.in1 I.env0.in1 hx I (.cons rfl (.cons rfl .nil)) q)) (fun w s' z => ?_) fun _ _ x => x
  obtain ⟨z', H', I', rz, c, ez, qz⟩ := z
  subst ez
  cases (show w = Value.bool c from rz)
  exact ⟨c, rfl, .bl (!c), H', I', rfl, qz⟩
/-- x op y, both instances of the class at C whose def for op is at g -/
def rOwnB (C : Addr) (sp : Sp) (E : XK) : R2 := fun x y H Q => ∃ a dx vs b dy ws, x = .ref a ∧ y = .ref b ∧ Slt H a C dx vs ∧ Slt H b C dy ws ∧ sp [x, y] H Q E
theorem op_ownB {op : Operator} (hc : PySem.W.selfFirst X.K C = true) (hs : PySem.W.findIn X.K (.ref C) (PySem.dunder op.info.2) = some (some (.ref g))) (hf : PySem.W.isFn X.K (.ref g) = true)
    (F : FnR X.prog X.w X.K X.mg X.base CX n g sp) (hr : Room n X.A) (hx : Passes CX X E) : OpR X (binaryOp op) (rOwnB C sp E) := by
  intro pins s σ H x y v u Q I rx ry h
  obtain ⟨a, dx, vs, b, dy, ws, rfl, rfl, ha, hb, q⟩ := h
  cases (show v = Value.ref a from rx)
  cases (show u = Value.ref b from ry)
  obtain ⟨sl, od, _, J, _⟩ := slt_inst I ha
  obtain ⟨sl', od', _, J', _⟩ := slt_inst I hb
  obtain ⟨m, hF⟩ := I.fr
  refine PySem.W.binop_K (op := op) hF I.ok.mod.kin J J'.type hc hs hf ?_
  refine wpAny_mono (wpAny_call (run_fnR (us := [.ref a, .ref b]) (vs := [.ref a, .ref b]) F hr hx I (.cons rfl (.cons rfl .nil)) q)) (fun w s' z => ?_) fun _ _ x => x
  obtain ⟨z', H', I', rz, qz⟩ := z
  exact cmpback rz ⟨z', H', I', rz, qz⟩
/-- str(x) by an own __str__ -/
def rStrOwn (C : Addr) (sp : Sp) (E : XK) : List V → Hp → VK → Prop := fun xs H Q => ∃ a dx vs, xs = [V.ref a] ∧ Slt H a C dx vs ∧ sp [.ref a] H (fun z H' => ∃ y, z = .str y ∧ Q z H') E
theorem call_strOwn (hs : PySem.W.findIn X.K (.ref C) "__str__" = some (some (.ref g))) (hf : PySem.W.isFn X.K (.ref g) = true) (F : FnR X.prog X.w X.K X.mg X.base CX n g sp) (hr : Room (n + 2) X.A) (hx : Passes CX X E) : CallR X (.type "str") (rStrOwn C sp E) := by
  intro pins s σ H xs us Q I r h
  obtain ⟨a, dx, vs, rfl, hsl, q⟩ := h
  obtain ⟨u, rfl, ru⟩ := r.one
  cases (show u = Value.ref a from ru)
  obtain ⟨sl, od, _, J, _⟩ := slt_inst I hsl
  have hr2 : Room n X.A.in1.in1 := (show Room (n + 1) X.A.in1 from Room.in1 hr).in1
  refine PySem.W.kso_call hr2.units0 I.kIn J hs hf (wpAny_mono (wpAny_call (run_at (us := [.ref a]) (ws := [.ref a]) F hr2 I.env0.in1.in1 hx I (.cons rfl .nil) q)) (fun w s' z => ?_) fun _ _ x => x)
  obtain ⟨z', H', I', rz, y, ey, qz⟩ := z
  subst ey
  obtain ⟨t, e⟩ := (show ∃ t, w = Value.str y t from rz)
  cases e
  exact ⟨.str y, H', I', ⟨t, rfl⟩, qz⟩
end
end LP

set_option Elab.async false
set_option linter.all false
set_option maxRecDepth 100000
set_option maxHeartbeats 2000000
/-! ZN0: zip over any number of lists, tuples, texts, at the library's level. -/
namespace LZ
open PySem
open PySem.Sem (wp)

/-- what an iterator goes over -/
inductive Sk
  | lst (a : Addr)
  | tup (a : Addr)
  | asc (x : Str) (t : Tok)
  | wid (x : Str) (t : Tok)
def Sk.at : Sk → Nat → Nat → Heap → Prop
  | .lst a, it, i, h => h.IsListIter it a i
  | .tup a, it, i, h => h.IsTupleIter it a i
  | .asc x t, it, i, h => h.IsStrIter it "str_ascii_iterator" x t i
  | .wid x t, it, i, h => h.IsStrIter it "str_iterator" x t i
def Sk.gives : Sk → Heap → Nat → (Value → Prop) → Prop
  | .lst a, h, i, P => ∃ its v, h.IsList a its ∧ its[i]? = some v ∧ P v
  | .tup a, h, i, P => ∃ its v, h.IsTuple a its ∧ its[i]? = some v ∧ P v
  | .asc x _, _, i, P => ∃ c, x.cps[i]? = some c ∧ ∀ u, P (.str ⟨#[c]⟩ u)
  | .wid x _, _, i, P => ∃ c, x.cps[i]? = some c ∧ ∀ u, P (.str ⟨#[c]⟩ u)
def Sk.ends : Sk → Heap → Nat → Prop
  | .lst a, h, i => ∃ its, h.IsList a its ∧ its[i]? = none
  | .tup a, h, i => ∃ its, h.IsTuple a its ∧ its[i]? = none
  | .asc x _, _, i => x.cps[i]? = none
  | .wid x _, _, i => x.cps[i]? = none
/-- the thing itself does not lie at c -/
def Sk.apart : Sk → Nat → Prop
  | .lst a, c => a ≠ c
  | .tup a, c => a ≠ c
  | _, _ => True
theorem Sk.at.over {sk : Sk} {it x : Nat} {i : Nat} {h h' : Heap} (st : sk.at it i h) (hs : Heap.ExtBut x h h') (hx : it ≠ x) : sk.at it i h' := by
  cases sk with
  | lst a => exact Heap.IsListIter.at st fun o e => hs _ _ hx e
  | tup a => exact Heap.IsTupleIter.at st fun o e => hs _ _ hx e
  | asc z t => exact let ⟨o, ho, r⟩ := st; ⟨o, hs _ _ hx ho, r⟩
  | wid z t => exact let ⟨o, ho, r⟩ := st; ⟨o, hs _ _ hx ho, r⟩
theorem Sk.at.over' {sk : Sk} {it : Nat} {i : Nat} {h h' : Heap} (st : sk.at it i h) (hs : ∀ o, h.get? it = some o → h'.get? it = some o) : sk.at it i h' := by
  cases sk with
  | lst a => exact Heap.IsListIter.at st fun o e => hs o e
  | tup a => exact Heap.IsTupleIter.at st fun o e => hs o e
  | asc z t => exact let ⟨o, ho, r⟩ := st; ⟨o, hs o ho, r⟩
  | wid z t => exact let ⟨o, ho, r⟩ := st; ⟨o, hs o ho, r⟩
theorem Sk.at.obj {sk : Sk} {it : Nat} {i : Nat} {h : Heap} (st : sk.at it i h) : ∃ o, h.get? it = some o ∧ ∀ v, o.data ≠ .cell v := by
  cases sk with
  | lst a => exact let ⟨o, ho, _, hd⟩ := st; ⟨o, ho, fun v q => by rw [hd] at q; cases q⟩
  | tup a => exact let ⟨o, ho, _, hd⟩ := st; ⟨o, ho, fun v q => by rw [hd] at q; cases q⟩
  | asc z t => exact let ⟨o, ho, _, hd⟩ := st; ⟨o, ho, fun v q => by rw [hd] at q; cases q⟩
  | wid z t => exact let ⟨o, ho, _, hd⟩ := st; ⟨o, ho, fun v q => by rw [hd] at q; cases q⟩
theorem Sk.gives.over {sk : Sk} {x : Nat} {i : Nat} {h h' : Heap} {P : Value → Prop} (g : sk.gives h i P) (hs : Heap.ExtBut x h h') (hx : sk.apart x) : sk.gives h' i P := by
  cases sk with
  | lst a => exact let ⟨its, v, l, r⟩ := g; ⟨its, v, l.extBut hs hx, r⟩
  | tup a => exact let ⟨its, v, l, r⟩ := g; ⟨its, v, l.extBut hs hx, r⟩
  | asc z t => exact g
  | wid z t => exact g
theorem Sk.ends.over {sk : Sk} {x : Nat} {i : Nat} {h h' : Heap} (g : sk.ends h i) (hs : Heap.ExtBut x h h') (hx : sk.apart x) : sk.ends h' i := by
  cases sk with
  | lst a => exact let ⟨its, l, r⟩ := g; ⟨its, l.extBut hs hx, r⟩
  | tup a => exact let ⟨its, l, r⟩ := g; ⟨its, l.extBut hs hx, r⟩
  | asc z t => exact g
  | wid z t => exact g
section
variable {prog : Program} {w : World} {A : Around} {E : Value → Shared → Prop} {s : Shared}
theorem draw_item {sk : Sk} {it : Nat} {i : Nat} {P : Value → Prop} {Q : Value → Shared → Prop} (st : sk.at it i s.heap) (g : sk.gives s.heap i P)
    (hQ : ∀ u h' tk, P u → sk.at it (i + 1) h' → Heap.SameBut it s.heap h' → Q u { s with heap := h', toks := tk }) : wpAny (model prog w) A (Builtin.SmallTypes.nextOf (.ref it)) Q E s := by
  cases sk with
  | lst a =>
    obtain ⟨its, v, l, e, p⟩ := g
    exact wpAny_nextOf_list_item st l e fun h' a b => hQ v h' s.toks p a b
  | tup a =>
    obtain ⟨its, v, l, e, p⟩ := g
    exact RZ.nextOf_tuple_item st l e fun h' a b => hQ v h' s.toks p a b
  | asc z t =>
    obtain ⟨c, e, p⟩ := g
    exact wpAny_nextOf_ascii_item st e fun h' a b => hQ _ h' _ (p _) a b
  | wid z t =>
    obtain ⟨c, e, p⟩ := g
    exact wpAny_nextOf_wide_item st e fun h' a b => hQ _ h' _ (p _) a b
theorem draw_end {sk : Sk} {it : Nat} {i : Nat} {Q : Value → Shared → Prop} (hh : A.handled = none) (st : sk.at it i s.heap) (g : sk.ends s.heap i)
    (hE : ∀ h' e, Heap.ExtBut it s.heap h' → (∃ o, h'.get? e = some o ∧ o.cls = .type "StopIteration") → E (.ref e) { s with heap := h' }) : wpAny (model prog w) A (Builtin.SmallTypes.nextOf (.ref it)) Q E s := by
  cases sk with
  | lst a =>
    obtain ⟨its, l, e⟩ := g
    exact wpAny_nextOf_list_end hh st l e hE
  | tup a =>
    obtain ⟨its, l, e⟩ := g
    exact RZ.nextOf_tuple_end hh st l e hE
  | asc z t => exact wpAny_nextOf_ascii_end hh st g hE
  | wid z t => exact wpAny_nextOf_wide_end hh st g hE
end
section
variable {M : Model} {A : Around} {E : Value → Shared → Prop} {α β : Type}
theorem forIn_run {f : α → β → Sem (ForInStep β)} {Q : β → Shared → Prop} (Iv : Nat → β → Shared → Prop) : ∀ {l : List α} {j : Nat} {b : β} {s : Shared}, Iv j b s →
    (∀ j' a b s, l[j']? = some a → Iv (j + j') b s → wpAny M A (f a b) (fun r s' => ∃ b', r = .yield b' ∧ Iv (j + j' + 1) b' s') E s) → (∀ b s, Iv (j + l.length) b s → Q b s) → wpAny M A (forIn l b f) Q E s
  | [], j, b, s, h0, _, hq => by
    rw [List.forIn_nil]
    exact wpAny_pure (hq b s h0)
  | a :: l, j, b, s, h0, hs, hq => by
    rw [List.forIn_cons]
    refine wpAny_bind (wpAny_mono (hs 0 a b s rfl h0) (fun r s' z => ?_) fun _ _ x => x)
    obtain ⟨b', rfl, z⟩ := z
    refine forIn_run Iv (j := j + 1) z (fun j' a b s e i => ?_) (fun b s i => hq b s ?_)
    · have z := hs (j' + 1) a b s e (by rw [show j + (j' + 1) = j + 1 + j' by omega]; exact i)
      rw [show j + (j' + 1) + 1 = j + 1 + j' + 1 by omega] at z
      exact z
    · rw [List.length_cons, show j + (l.length + 1) = j + 1 + l.length by omega]
      exact i
theorem forIn_raise {f : α → β → Sem (ForInStep β)} {Q : β → Shared → Prop} (Iv : Nat → β → Shared → Prop) (j0 : Nat) : ∀ {l : List α} {j : Nat} {b : β} {s : Shared}, Iv j b s → j ≤ j0 → j0 < j + l.length →
    (∀ j' a b s, l[j']? = some a → j + j' < j0 → Iv (j + j') b s → wpAny M A (f a b) (fun r s' => ∃ b', r = .yield b' ∧ Iv (j + j' + 1) b' s') E s) → (∀ j' a b s, l[j']? = some a → j + j' = j0 → Iv j0 b s → wpAny M A (f a b) (fun _ _ => False) E s) → wpAny M A (forIn l b f) Q E s
  | [], j, b, s, h0, h1, h2, _, _ => by
    rw [List.length_nil] at h2
    omega
  | a :: l, j, b, s, h0, h1, h2, hs, he => by
    rw [List.forIn_cons]
    rcases Nat.lt_or_eq_of_le h1 with h | h
    · refine wpAny_bind (wpAny_mono (hs 0 a b s rfl h h0) (fun r s' z => ?_) fun _ _ x => x)
      obtain ⟨b', rfl, z⟩ := z
      refine forIn_raise Iv j0 (j := j + 1) z h (by rw [List.length_cons] at h2; omega) (fun j' a b s e hj i => ?_) (fun j' a b s e hj i => ?_)
      · have z := hs (j' + 1) a b s e (by omega) (by rw [show j + (j' + 1) = j + 1 + j' by omega]; exact i)
        rw [show j + (j' + 1) + 1 = j + 1 + j' + 1 by omega] at z
        exact z
      · exact he (j' + 1) a b s e (by omega) i
    · exact wpAny_bind (wpAny_mono (he 0 a b s rfl h (by rw [← h]; exact h0)) (fun r s' z => z.elim) fun _ _ x => x)
end
end LZ

set_option Elab.async false
set_option linter.all false
set_option maxRecDepth 100000
set_option maxHeartbeats 2000000
namespace LZ
open PySem
open PySem.Sem (wp)

abbrev TupAt (h : Heap) (T : Nat) (vs : Array Value) : Prop := h.get? T = some { cls := .type "tuple", data := .seq vs }
abbrev ZipObj (h : Heap) (z TI TO : Nat) (f0 : Value) (f : Bool) : Prop := h.get? z = some { cls := .type "zip", dict := none, data := .fields #[f0, .bool f, .bool false, .ref TI, .ref TO], slots := #[] }
/-- a zip ahead of a turn -/
def ZipAt (h : Heap) (z TI TO : Nat) : Prop := ∃ f0 f, ZipObj h z TI TO f0 f ∧ (f0 = .none ∨ ∃ T : Nat, f0 = rawInt T)
def itsAt (m k : Nat) : Array Value := ((List.range k).map fun j => Value.ref (m + j)).toArray
theorem itsAt_get {m k j : Nat} {v : Value} (h : (itsAt m k).toList[j]? = some v) : j < k ∧ v = .ref (m + j) := by
  unfold itsAt at h
  simp only [List.getElem?_map, List.getElem?_range] at h
  obtain ⟨a, e, rfl⟩ := Option.map_eq_some_iff.mp h
  obtain ⟨hl, rfl⟩ := List.getElem?_eq_some_iff.mp e
  simp at hl ⊢
  exact hl
theorem itsAt_len {m k : Nat} : (itsAt m k).toList.length = k := by simp [itsAt]




theorem ane {a b : Nat} (h : a = b → False) : a ≠ b := h






section
variable {prog : Program} {w : World} {A : Around} {E : Value → Shared → Prop} {s : Shared}
theorem alive_any {a : Addr} {Q : Option Obj → Shared → Prop} (h : Q (s.heap.get? a) s) : wpAny (model prog w) A (loadIfAlive a) Q E s := fun _ _ _ => h
/-- whether the tuple is free: both ways are open -/
theorem free_any {z TI TO : Addr} {f0 : Value} {f : Bool} {Q : Bool → Shared → Prop} (hz : ZipObj s.heap z TI TO f0 f) (h0 : f0 = .none ∨ ∃ T : Nat, f0 = rawInt T)
    (h1 : Q true s) (h2 : ∀ h', ZipObj h' z TI TO f0 true → (∃ T : Nat, f0 = rawInt T) → Heap.SameBut z s.heap h' → Q false { s with heap := h' }) : wpAny (model prog w) A (Builtin.SmallTypes.ownedTupleIsFree (.ref z)) Q E s := by
  unfold Builtin.SmallTypes.ownedTupleIsFree
  rcases h0 with rfl | ⟨T, rfl⟩
  · exact wpAny_bind (wpAny_field hz rfl (x := .none) rfl (wpAny_pure h1))
  · refine wpAny_bind (wpAny_field hz rfl (x := rawInt T) rfl ?_)
    show wpAny _ _ (loadIfAlive ((T : Int).toNat) >>= _) _ _ _
    rw [Int.toNat_natCast]
    refine wpAny_bind (alive_any ?_)
    cases s.heap.get? T with
    | none =>
      simp only [Option.isNone_none, if_true]
      exact wpAny_pure h1
    | some o =>
      simp only [Option.isNone_some, Bool.false_eq_true, if_false]
      refine wpAny_bind (wpAny_field hz rfl (x := .bool f) rfl ?_)
      cases f with
      | true =>
        rw [if_neg (show ¬ ((Value.bool true != Value.bool true) = true) from Bool.false_ne_true)]
        exact wpAny_pure (h2 s.heap hz ⟨T, rfl⟩ (Heap.SameBut.refl _ _))
      | false =>
        rw [if_pos (show (Value.bool false != Value.bool true) = true from rfl)]
        exact wpAny_bind (wpAny_setField_rec hz (by simp) fun h₁ hz₁ hs₁ => wpAny_pure (h2 h₁ hz₁ ⟨T, rfl⟩ hs₁))

/-- the cells of a zip that has just been made: its iterators at m, .., then the tuples, then itself -/
structure ZSt (m : Nat) (ss : List Sk) (i : Nat) (h : Heap) : Prop where
  z : ZipAt h (m + ss.length + 2) (m + ss.length) (m + ss.length + 1)
  ti : TupAt h (m + ss.length) (itsAt m ss.length)
  to : ∃ vs : Array Value, vs.size = ss.length ∧ TupAt h (m + ss.length + 1) vs
  it : ∀ (j : Nat) (sk : Sk), ss[j]? = some sk → sk.at (m + j) i h
def Outs (m k : Nat) (h h' : Heap) : Prop := ∀ (c : Nat) o, (c < m ∨ m + k + 3 ≤ c) → h.get? c = some o → h'.get? c = some o
theorem Outs.refl (m k : Nat) (h : Heap) : Outs m k h h := fun _ _ _ e => e
theorem Outs.trans {m k : Nat} {h h' h'' : Heap} (a : Outs m k h h') (b : Outs m k h' h'') : Outs m k h h'' := fun c o hc e => b c o hc (a c o hc e)
theorem Outs.ext {m k : Nat} {h h' : Heap} {x : Nat} (e : Heap.ExtBut x h h') (h1 : m ≤ x) (h2 : x < m + k + 3) : Outs m k h h' := fun c o hc q => e c o (fun z => by have z' : (c : Nat) = x := z; omega) q

/-- within a turn: j iterators have gone on -/
structure ZMid (m : Nat) (ss : List Sk) (i j : Nat) (f0 : Value) (f : Bool) (vs : Array Value) (P : Nat → Value → Prop) (h0 h : Heap) : Prop where
  z : ZipObj h (m + ss.length + 2) (m + ss.length) (m + ss.length + 1) f0 f
  ti : TupAt h (m + ss.length) (itsAt m ss.length)
  sz : vs.size = ss.length
  to : TupAt h (m + ss.length + 1) vs
  it : ∀ (j' : Nat) (sk : Sk), ss[j']? = some sk → sk.at (m + j') (if j' < j then i + 1 else i) h
  out : Outs m ss.length h0 h
  size : h.objs.size = h0.objs.size
theorem len_of {α : Type} {l : List α} {j : Nat} {a : α} (h : l[j]? = some a) : j < l.length := (List.getElem?_eq_some_iff.mp h).1
/-- one iterator goes on -/
theorem ZMid.drawn {m i j : Nat} {ss : List Sk} {f0 : Value} {f : Bool} {vs : Array Value} {P : Nat → Value → Prop} {h0 h h' : Heap} (Z : ZMid m ss i j f0 f vs P h0 h) {sk : Sk} (e : ss[j]? = some sk) (st : sk.at (m + j) (i + 1) h') (hs : Heap.SameBut (m + j : Nat) h h') :
    ZMid m ss i (j + 1) f0 f vs P h0 h' := by
  have hj := len_of e
  refine ⟨hs.extBut _ _ (by first | omega | exact ane (by intro z; omega)) Z.z, hs.extBut _ _ (by first | omega | exact ane (by intro z; omega)) Z.ti, Z.sz, hs.extBut _ _ (by first | omega | exact ane (by intro z; omega)) Z.to, fun j' sk' e' => ?_, Z.out.trans (Outs.ext hs.extBut (by first | omega | exact ane (by intro z; omega)) (by first | omega | exact ane (by intro z; omega))), hs.1.trans Z.size⟩
  by_cases hc : j' = j
  · subst hc
    rw [e] at e'
    cases e'
    rw [if_pos (show j' < j' + 1 by omega)]
    exact st
  · have q := (Z.it j' sk' e').over hs.extBut (by first | omega | exact ane (by intro z; omega))
    by_cases hl : j' < j
    · rw [if_pos (show j' < j + 1 by omega)]
      rw [if_pos hl] at q
      exact q
    · rw [if_neg (show ¬ j' < j + 1 by omega)]
      rw [if_neg hl] at q
      exact q
/-- one cell of the owned tuple is written -/
theorem ZMid.wrote {m i j : Nat} {ss : List Sk} {f0 : Value} {f : Bool} {vs vs' : Array Value} {P : Nat → Value → Prop} {h0 h h' : Heap} (Z : ZMid m ss i j f0 f vs P h0 h) (st : TupAt h' (m + ss.length + 1) vs') (sz : vs'.size = ss.length) (hs : Heap.SameBut (m + ss.length + 1 : Nat) h h') :
    ZMid m ss i j f0 f vs' P h0 h' := by
  refine ⟨hs.extBut _ _ (by first | omega | exact ane (by intro z; omega)) Z.z, hs.extBut _ _ (by first | omega | exact ane (by intro z; omega)) Z.ti, sz, st, fun j' sk' e' => ?_, Z.out.trans (Outs.ext hs.extBut (by first | omega | exact ane (by intro z; omega)) (by first | omega | exact ane (by intro z; omega))), hs.1.trans Z.size⟩
  have hj := len_of e'
  exact (Z.it j' sk' e').over hs.extBut (by first | omega | exact ane (by intro z; omega))
/-- the zip itself is written -/
theorem ZMid.own {m i j : Nat} {ss : List Sk} {f0 f1 : Value} {f f' : Bool} {vs : Array Value} {P : Nat → Value → Prop} {h0 h h' : Heap} (Z : ZMid m ss i j f0 f vs P h0 h) (st : ZipObj h' (m + ss.length + 2) (m + ss.length) (m + ss.length + 1) f1 f') (hs : Heap.SameBut (m + ss.length + 2 : Nat) h h') :
    ZMid m ss i j f1 f' vs P h0 h' := by
  refine ⟨st, hs.extBut _ _ (by first | omega | exact ane (by intro z; omega)) Z.ti, Z.sz, hs.extBut _ _ (by first | omega | exact ane (by intro z; omega)) Z.to, fun j' sk' e' => ?_, Z.out.trans (Outs.ext hs.extBut (by first | omega | exact ane (by intro z; omega)) (by first | omega | exact ane (by intro z; omega))), hs.1.trans Z.size⟩
  have hj := len_of e'
  exact (Z.it j' sk' e').over hs.extBut (by first | omega | exact ane (by intro z; omega))
theorem ZSt.mid {m i : Nat} {ss : List Sk} {h : Heap} {f0 : Value} {f : Bool} (Z : ZSt m ss i h) {vs : Array Value} (P : Nat → Value → Prop) (hz : ZipObj h (m + ss.length + 2) (m + ss.length) (m + ss.length + 1) f0 f) (sz : vs.size = ss.length) (to : TupAt h (m + ss.length + 1) vs) :
    ZMid m ss i 0 f0 f vs P h h := ⟨hz, Z.ti, sz, to, fun j sk e => by rw [if_neg (Nat.not_lt_zero j)]; exact Z.it j sk e, Outs.refl _ _ _, rfl⟩
theorem ZMid.ends {m i : Nat} {ss : List Sk} {h0 h h' : Heap} {f0 f1 : Value} {f f' : Bool} {vs : Array Value} {P : Nat → Value → Prop} (Z : ZMid m ss i ss.length f0 f vs P h0 h) (st : ZipObj h' (m + ss.length + 2) (m + ss.length) (m + ss.length + 1) f1 f')
    (hf : f1 = .none ∨ ∃ T : Nat, f1 = rawInt T) (hs : Heap.ExtBut (m + ss.length + 2 : Nat) h h') : ZSt m ss (i + 1) h' := by
  refine ⟨⟨f1, f', st, hf⟩, hs _ _ (by first | omega | exact ane (by intro z; omega)) Z.ti, ⟨vs, Z.sz, hs _ _ (by first | omega | exact ane (by intro z; omega)) Z.to⟩, fun j sk e => ?_⟩
  have hj := len_of e
  have q := (Z.it j sk e).over hs (by first | omega | exact ane (by intro z; omega))
  rw [if_pos hj] at q
  exact q
theorem gives_out {m k i : Nat} {sk : Sk} {h h' : Heap} {P : Value → Prop} (ap : ∀ c : Nat, m ≤ c → sk.apart c) (g : sk.gives h i P) (o : Outs m k h h') : sk.gives h' i P := by
  have lt : ∀ a : Nat, (∀ c : Nat, m ≤ c → a ≠ c) → a < m := fun a h => Nat.lt_of_not_le fun q => h a q rfl
  cases sk with
  | lst a =>
    obtain ⟨its, v, l, r⟩ := g
    exact ⟨its, v, l.at fun ob e => o a ob (.inl (lt a ap)) e, r⟩
  | tup a =>
    obtain ⟨its, v, l, r⟩ := g
    obtain ⟨ob, e, q⟩ := l
    exact ⟨its, v, ⟨ob, o a ob (.inl (lt a ap)) e, q⟩, r⟩
  | asc z t => exact g
  | wid z t => exact g
theorem ends_out {m k i : Nat} {sk : Sk} {h h' : Heap} (ap : ∀ c : Nat, m ≤ c → sk.apart c) (g : sk.ends h i) (o : Outs m k h h') : sk.ends h' i := by
  have lt : ∀ a : Nat, (∀ c : Nat, m ≤ c → a ≠ c) → a < m := fun a h => Nat.lt_of_not_le fun q => h a q rfl
  cases sk with
  | lst a =>
    obtain ⟨its, l, r⟩ := g
    exact ⟨its, l.at fun ob e => o a ob (.inl (lt a ap)) e, r⟩
  | tup a =>
    obtain ⟨its, l, r⟩ := g
    obtain ⟨ob, e, q⟩ := l
    exact ⟨its, ⟨ob, o a ob (.inl (lt a ap)) e, q⟩, r⟩
  | asc z t => exact g
  | wid z t => exact g
theorem zipIdx_get {α : Type} {l : List α} {j : Nat} {p : α × Nat} (h : l.zipIdx[j]? = some p) : l[j]? = some p.1 ∧ p.2 = j := by
  rw [List.getElem?_zipIdx] at h
  obtain ⟨a, e, rfl⟩ := Option.map_eq_some_iff.mp h
  exact ⟨e, by simp⟩
theorem tup_set {T k : Nat} {vs : Array Value} {x : Value} {Q : Unit → Shared → Prop} (hT : TupAt s.heap T vs) (hl : vs.size ≤ 1000)
    (h : ∀ h', TupAt h' T (vs.setIfInBounds k x) → Heap.SameBut T s.heap h' → Q () { s with heap := h' }) : wpAny (model prog w) A (updateSeq T (·.setIfInBounds k x)) Q E s := by
  refine wpAny_updateSeq hT rfl (h _ ?_ (Heap.SameBut.update ..)) (Nat.le_trans hl (by decide)) (by rw [Array.size_setIfInBounds]; exact Nat.le_trans hl (by decide))
  unfold TupAt
  rw [Heap.get?_update_self _ hT rfl]
  simp [Obj.mapSeq]

theorem zip_item {m i : Nat} {ss : List Sk} {P : Nat → Value → Prop} {Q : Value → Shared → Prop} (hk : 0 < ss.length) (hl : ss.length ≤ 1000) (ap : ∀ sk : Sk, sk ∈ ss → ∀ c : Nat, m ≤ c → sk.apart c) (Z : ZSt m ss i s.heap)
    (g : ∀ (j : Nat) (sk : Sk), ss[j]? = some sk → sk.gives s.heap i (P j))
    (hQ : ∀ vs h' tk, vs.size = ss.length → (∀ j u, vs[j]? = some u → P j u) → ZSt m ss (i + 1) h' → TupAt h' s.heap.objs.size vs → Outs m ss.length s.heap h' → Q (.ref s.heap.objs.size) { s with heap := h', toks := tk }) :
    wpAny (model prog w) A (Builtin.«zip.__next__» ⟨[.ref (m + ss.length + 2 : Nat)], []⟩) (fun fin s' => ∃ v, fin = .done (.ret v) ∧ Q v s') E s := by
  obtain ⟨hp, gg, d, tk0, os⟩ := s
  obtain ⟨f0, f, hz, hf⟩ := Z.z
  obtain ⟨vs0, sz0, to0⟩ := Z.to
  have hzl : (m + ss.length + 2 : Nat) < hp.objs.size := Heap.lt_size hz
  show wpAny _ _ (field (.ref (m + ss.length + 2 : Nat)) 2 >>= _) _ _ _
  refine wpAny_bind (wpAny_field hz rfl (x := .bool false) rfl ?_)
  show wpAny _ _ (field (.ref (m + ss.length + 2 : Nat)) 3 >>= _) _ _ _
  refine wpAny_bind (wpAny_field hz rfl (x := .ref (m + ss.length : Nat)) rfl ?_)
  refine wpAny_bind (wpAny_seqItems Z.ti rfl ?_)
  have hne : (itsAt m ss.length).isEmpty = false := by
    rw [Array.isEmpty_eq_false_iff]
    intro z
    have := itsAt_len (m := m) (k := ss.length)
    rw [z] at this
    simp at this
    omega
  simp only [hne, Bool.false_eq_true, if_false]
  refine wpAny_bind (free_any hz hf ?_ fun h1 hz1 hT hs1 => ?_)
  · -- the owned tuple
    simp only [if_true]
    refine wpAny_bind (wpAny_rule ?_)
    refine wpAny_bind (wpAny_field hz rfl (x := .ref (m + ss.length + 1 : Nat)) rfl ?_)
    refine wpAny_bind (wpAny_setField_rec hz (by simp) fun g0 hz0 hs0 => ?_)
    have M0 : ZMid m ss i 0 .ellipsis f vs0 P hp g0 := (Z.mid P hz sz0 to0).own hz0 hs0
    refine wpAny_bind ?_
    refine forIn_run (fun j b s' => b = _ ∧ ∃ h' tk vs, s' = ⟨h', gg, d, tk, os⟩ ∧ ZMid m ss i j .ellipsis f vs P hp h' ∧ ∀ j', j' < j → ∃ u, vs[j']? = some u ∧ P j' u) (j := 0) ⟨rfl, g0, tk0, vs0, rfl, M0, fun j' z => absurd z (Nat.not_lt_zero _)⟩ ?_ ?_
    · rintro n ⟨v, j⟩ b s' e ⟨rfl, h', tk, vs, rfl, M, hv⟩
      obtain ⟨e1, e2⟩ := zipIdx_get e
      obtain ⟨hj, ev⟩ := itsAt_get e1
      dsimp only at e2 ev
      subst e2 ev
      rw [Nat.zero_add] at M hv ⊢
      obtain ⟨sk, hsk⟩ : ∃ sk, ss[j]? = some sk := ⟨_, List.getElem?_eq_getElem hj⟩
      have st := M.it j sk hsk
      rw [if_neg (Nat.lt_irrefl _)] at st
      have gv := gives_out (ap sk (List.mem_of_getElem? hsk)) (g j sk hsk) M.out
      refine wpAny_bind (wpAny_onRaise ?_)
      show wpAny _ _ (Builtin.SmallTypes.nextOf (.ref (m + j : Nat)) >>= _) _ _ ⟨h', gg, d, tk, os⟩
      refine wpAny_bind (draw_item (s := ⟨h', gg, d, tk, os⟩) st gv fun u h1 tk1 pu st1 hs1 => wpAny_pure ?_)
      have M1 := M.drawn hsk st1 hs1
      refine wpAny_bind (wpAny_seqItems (s := ⟨h1, gg, d, tk1, os⟩) M1.to rfl ?_)
      refine wpAny_bind (tup_set (s := ⟨h1, gg, d, tk1, os⟩) M1.to (by rw [M1.sz]; exact hl) fun h2 hT2 hs2 => ?_)
      have M2 := M1.wrote hT2 (by rw [Array.size_setIfInBounds]; exact M1.sz) hs2
      refine wpAny_bind (wpAny_letGo (wpAny_pure ⟨_, rfl, rfl, h2, tk1, _, rfl, M2, fun j' hj' => ?_⟩))
      by_cases ej : j' = j
      · subst ej
        refine ⟨u, ?_, pu⟩
        rw [Array.getElem?_setIfInBounds, if_pos rfl, if_pos (by rw [M1.sz]; exact hj)]
      · obtain ⟨u', e', p'⟩ := hv j' (by omega)
        refine ⟨u', ?_, p'⟩
        rw [Array.getElem?_setIfInBounds, if_neg (Ne.symm ej)]
        exact e'
    · rintro b s' ⟨rfl, h', tk, vs, rfl, M, hv⟩
      rw [Nat.zero_add, List.length_zipIdx, itsAt_len] at M hv
      show wpAny _ _ (seqItems? (.ref (m + ss.length + 1 : Nat)) >>= _) _ _ _
      refine wpAny_bind (wpAny_seqItems (s := ⟨h', gg, d, tk, os⟩) M.to rfl ?_)
      refine wpAny_bind (wpAny_newTuple ?_ (by rw [Array.length_toList, M.sz]; exact Nat.le_trans hl (by decide)))
      show wpAny _ _ (Builtin.SmallTypes.ownedTupleHandOut (.ref (m + ss.length + 2 : Nat)) (.ref h'.objs.size) >>= _) _ _ _
      refine wpAny_bind ?_
      unfold Builtin.SmallTypes.ownedTupleHandOut
      have hz6 : ZipObj (h'.push { cls := .type "tuple", data := .seq vs.toList.toArray }) (m + ss.length + 2) (m + ss.length) (m + ss.length + 1) .ellipsis f := Heap.get?_push_of_some _ M.z
      refine wpAny_bind (wpAny_setField_rec hz6 (by simp) fun h7 hz7 hs7 => ?_)
      replace hz7 : ZipObj h7 (m + ss.length + 2) (m + ss.length) (m + ss.length + 1) (rawInt h'.objs.size) f := hz7
      refine wpAny_setField_rec hz7 (by simp) fun h8 hz8 hs8 => ?_
      replace hz8 : ZipObj h8 (m + ss.length + 2) (m + ss.length) (m + ss.length + 1) (rawInt h'.objs.size) false := hz8
      have up : Heap.ExtBut (m + ss.length + 2 : Nat) h' h8 := fun c o c1 e => hs8.extBut _ _ c1 (hs7.extBut _ _ c1 (Heap.get?_push_of_some _ e))
      have hsz : h'.objs.size = hp.objs.size := M.size
      have hT8 : TupAt h8 hp.objs.size vs := by
        have z : (h'.push { cls := .type "tuple", data := .seq vs.toList.toArray }).get? h'.objs.size = some { cls := .type "tuple", data := .seq vs.toList.toArray } := Heap.get?_push_size _ rfl
        rw [hsz] at z
        have z2 := hs8.extBut _ _ (show (hp.objs.size : Nat) ≠ m + ss.length + 2 by omega) (hs7.extBut _ _ (show (hp.objs.size : Nat) ≠ m + ss.length + 2 by omega) z)
        simpa using z2
      refine wpAny_pure ⟨_, rfl, ?_⟩
      show Q (.ref h'.objs.size) ⟨h8, gg, d, tk, os⟩
      rw [hsz]
      refine hQ vs h8 tk M.sz (fun j u e => ?_) (M.ends hz8 (.inr ⟨_, rfl⟩) up) hT8 (M.out.trans (Outs.ext up (by omega) (by omega)))
      obtain ⟨u', e', p'⟩ := hv j (by rw [← M.sz]; exact (Array.getElem?_eq_some_iff.mp e).1)
      rw [e] at e'
      cases e'
      exact p'
  · simp only [Bool.false_eq_true, if_false]
    have M0 : ZMid m ss i 0 f0 true vs0 P hp h1 := (Z.mid P hz sz0 to0).own hz1 hs1
    refine wpAny_bind ?_
    rw [← Array.forIn_toList]
    refine forIn_run (fun j b s' => ∃ (items : Array Value) (h' : Heap) (tk : Nat), b = (none, items) ∧ s' = ⟨h', gg, d, tk, os⟩ ∧ ZMid m ss i j f0 true vs0 P hp h' ∧ items.size = j ∧ ∀ j' u, items[j']? = some u → P j' u) (j := 0)
      ⟨#[], h1, tk0, rfl, rfl, M0, rfl, fun j' u z => by simp at z⟩ ?_ ?_
    · rintro j v b s' e ⟨items, h', tk, rfl, rfl, M, hsz, hv⟩
      obtain ⟨hj, rfl⟩ := itsAt_get e
      rw [Nat.zero_add] at M hsz ⊢
      obtain ⟨sk, hsk⟩ : ∃ sk, ss[j]? = some sk := ⟨_, List.getElem?_eq_getElem hj⟩
      have st := M.it j sk hsk
      rw [if_neg (Nat.lt_irrefl _)] at st
      have gv := gives_out (ap sk (List.mem_of_getElem? hsk)) (g j sk hsk) M.out
      refine wpAny_bind (wpAny_holding ?_)
      show wpAny _ _ (Builtin.SmallTypes.nextOf (.ref (m + j : Nat)) >>= _) _ _ ⟨h', gg, d, tk, os⟩
      refine wpAny_bind (draw_item (s := ⟨h', gg, d, tk, os⟩) st gv fun u h2 tk1 pu st1 hs2 => wpAny_pure ?_)
      have M1 := M.drawn hsk st1 hs2
      refine wpAny_pure ⟨_, rfl, items.push u, h2, tk1, rfl, rfl, M1, by rw [Array.size_push, hsz], fun j' u' e' => ?_⟩
      rw [Array.getElem?_push] at e'
      by_cases ej : j' = items.size
      · rw [if_pos ej] at e'
        cases e'
        rw [ej, hsz]
        exact pu
      · rw [if_neg ej] at e'
        exact hv j' u' e'
    · rintro b s' ⟨items, h', tk, rfl, rfl, M, hsz, hv⟩
      rw [Nat.zero_add, itsAt_len] at M hsz
      dsimp only
      refine wpAny_bind (wpAny_newTuple ?_ (by rw [Array.length_toList, hsz]; exact Nat.le_trans hl (by decide)))
      have es : h'.objs.size = hp.objs.size := M.size
      refine wpAny_pure ⟨_, rfl, ?_⟩
      show Q (.ref h'.objs.size) ⟨h'.push { cls := .type "tuple", data := .seq items.toList.toArray }, gg, d, tk, os⟩
      have up : Heap.ExtBut (m + ss.length + 2 : Nat) h' (h'.push { cls := .type "tuple", data := .seq items.toList.toArray }) := fun c o _ e => Heap.get?_push_of_some _ e
      have hT8 : TupAt (h'.push { cls := .type "tuple", data := .seq items.toList.toArray }) h'.objs.size items := by
        have z : (h'.push { cls := .type "tuple", data := .seq items.toList.toArray }).get? h'.objs.size = some { cls := .type "tuple", data := .seq items.toList.toArray } := Heap.get?_push_size _ rfl
        simpa using z
      rw [es] at hT8 ⊢
      exact hQ items _ tk hsz hv (M.ends (Heap.get?_push_of_some _ M.z) (.inr hT) up) hT8 (M.out.trans (Outs.ext up (by omega) (by omega)))

theorem zip_end {m i : Nat} {ss : List Sk} {Q : Fin → Shared → Prop} (hh : A.handled = none) (hl : ss.length ≤ 1000) (ap : ∀ sk : Sk, sk ∈ ss → ∀ c : Nat, m ≤ c → sk.apart c) (Z : ZSt m ss i s.heap)
    (j0 : Nat) (hj0 : j0 < ss.length) (g : ∀ (j : Nat) (sk : Sk), j < j0 → ss[j]? = some sk → sk.gives s.heap i (fun _ => True)) (ge : ∀ sk : Sk, ss[j0]? = some sk → sk.ends s.heap i)
    (hE : ∀ h' e tk, Outs m ss.length s.heap h' → (∃ o, h'.get? e = some o ∧ o.cls = .type "StopIteration") → E (.ref e) { s with heap := h', toks := tk }) :
    wpAny (model prog w) A (Builtin.«zip.__next__» ⟨[.ref (m + ss.length + 2 : Nat)], []⟩) Q E s := by
  obtain ⟨hp, gg, d, tk0, os⟩ := s
  obtain ⟨f0, f, hz, hf⟩ := Z.z
  obtain ⟨vs0, sz0, to0⟩ := Z.to
  have hzl : (m + ss.length + 2 : Nat) < hp.objs.size := Heap.lt_size hz
  show wpAny _ _ (field (.ref (m + ss.length + 2 : Nat)) 2 >>= _) _ _ _
  refine wpAny_bind (wpAny_field hz rfl (x := .bool false) rfl ?_)
  show wpAny _ _ (field (.ref (m + ss.length + 2 : Nat)) 3 >>= _) _ _ _
  refine wpAny_bind (wpAny_field hz rfl (x := .ref (m + ss.length : Nat)) rfl ?_)
  refine wpAny_bind (wpAny_seqItems Z.ti rfl ?_)
  have hne : (itsAt m ss.length).isEmpty = false := by
    rw [Array.isEmpty_eq_false_iff]
    intro z
    have := itsAt_len (m := m) (k := ss.length)
    rw [z] at this
    simp at this
    omega
  simp only [hne, Bool.false_eq_true, if_false]
  refine wpAny_bind (free_any hz hf ?_ fun h1 hz1 hT hs1 => ?_)
  · simp only [if_true]
    refine wpAny_bind (wpAny_rule ?_)
    refine wpAny_bind (wpAny_field hz rfl (x := .ref (m + ss.length + 1 : Nat)) rfl ?_)
    refine wpAny_bind (wpAny_setField_rec hz (by simp) fun g0 hz0 hs0 => ?_)
    have M0 : ZMid m ss i 0 .ellipsis f vs0 (fun _ _ => True) hp g0 := (Z.mid _ hz sz0 to0).own hz0 hs0
    refine wpAny_bind ?_
    refine forIn_raise (fun j b s' => b = _ ∧ ∃ h' tk vs, s' = ⟨h', gg, d, tk, os⟩ ∧ ZMid m ss i j .ellipsis f vs (fun _ _ => True) hp h') j0 (j := 0) ⟨rfl, g0, tk0, vs0, rfl, M0⟩ (Nat.zero_le _) (by rw [Nat.zero_add, List.length_zipIdx, itsAt_len]; exact hj0) ?_ ?_
    · rintro n ⟨v, j⟩ b s' e hlt ⟨rfl, h', tk, vs, rfl, M⟩
      obtain ⟨e1, e2⟩ := zipIdx_get e
      obtain ⟨hj, ev⟩ := itsAt_get e1
      dsimp only at e2 ev
      subst e2 ev
      rw [Nat.zero_add] at M hlt ⊢
      obtain ⟨sk, hsk⟩ : ∃ sk, ss[j]? = some sk := ⟨_, List.getElem?_eq_getElem hj⟩
      have st := M.it j sk hsk
      rw [if_neg (Nat.lt_irrefl _)] at st
      have gv := gives_out (ap sk (List.mem_of_getElem? hsk)) (g j sk hlt hsk) M.out
      refine wpAny_bind (wpAny_onRaise ?_)
      show wpAny _ _ (Builtin.SmallTypes.nextOf (.ref (m + j : Nat)) >>= _) _ _ ⟨h', gg, d, tk, os⟩
      refine wpAny_bind (draw_item (s := ⟨h', gg, d, tk, os⟩) st gv fun u h1 tk1 pu st1 hs1 => wpAny_pure ?_)
      have M1 := M.drawn hsk st1 hs1
      refine wpAny_bind (wpAny_seqItems (s := ⟨h1, gg, d, tk1, os⟩) M1.to rfl ?_)
      refine wpAny_bind (tup_set (s := ⟨h1, gg, d, tk1, os⟩) M1.to (by rw [M1.sz]; exact hl) fun h2 hT2 hs2 => ?_)
      have M2 := M1.wrote hT2 (by rw [Array.size_setIfInBounds]; exact M1.sz) hs2
      exact wpAny_bind (wpAny_letGo (wpAny_pure ⟨_, rfl, rfl, h2, tk1, _, rfl, M2⟩))
    · rintro n ⟨v, j⟩ b s' e hlt ⟨rfl, h', tk, vs, rfl, M⟩
      obtain ⟨e1, e2⟩ := zipIdx_get e
      obtain ⟨hj, ev⟩ := itsAt_get e1
      dsimp only at e2 ev
      subst e2 ev
      rw [Nat.zero_add] at hlt
      subst hlt
      obtain ⟨sk, hsk⟩ : ∃ sk, ss[j]? = some sk := ⟨_, List.getElem?_eq_getElem hj⟩
      have st := M.it j sk hsk
      rw [if_neg (Nat.lt_irrefl _)] at st
      have gv := ends_out (ap sk (List.mem_of_getElem? hsk)) (ge sk hsk) M.out
      refine wpAny_bind (wpAny_onRaise ?_)
      show wpAny _ _ (Builtin.SmallTypes.nextOf (.ref (m + j : Nat)) >>= _) _ _ ⟨h', gg, d, tk, os⟩
      refine wpAny_bind (draw_end (s := ⟨h', gg, d, tk, os⟩) hh st gv fun h1 ex he hx => ?_)
      obtain ⟨oe, hoe, hce⟩ := hx
      have hzq : ZipObj h1 (m + ss.length + 2) (m + ss.length) (m + ss.length + 1) .ellipsis f := he _ _ (by first | omega | exact ane (by intro z; omega)) M.z
      have hez : ex ≠ (m + ss.length + 2 : Nat) := fun x => by
        subst x
        rw [hzq] at hoe
        cases hoe
        simp at hce
      refine wpAny_setField_rec (s := ⟨h1, gg, d, tk, os⟩) hzq (by simp) fun q' _ hq' => ?_
      exact hE q' ex tk (M.out.trans ((Outs.ext he (by omega) (by omega)).trans (Outs.ext hq'.extBut (by omega) (by omega)))) ⟨oe, hq'.extBut _ _ hez hoe, hce⟩
  · simp only [Bool.false_eq_true, if_false]
    have M0 : ZMid m ss i 0 f0 true vs0 (fun _ _ => True) hp h1 := (Z.mid _ hz sz0 to0).own hz1 hs1
    refine wpAny_bind ?_
    rw [← Array.forIn_toList]
    refine forIn_raise (fun j b s' => ∃ (items : Array Value) (h' : Heap) (tk : Nat), b = (none, items) ∧ s' = ⟨h', gg, d, tk, os⟩ ∧ ZMid m ss i j f0 true vs0 (fun _ _ => True) hp h') j0 (j := 0)
      ⟨#[], h1, tk0, rfl, rfl, M0⟩ (Nat.zero_le _) (by rw [Nat.zero_add, itsAt_len]; exact hj0) ?_ ?_
    · rintro j v b s' e hlt ⟨items, h', tk, rfl, rfl, M⟩
      obtain ⟨hj, rfl⟩ := itsAt_get e
      rw [Nat.zero_add] at M hlt ⊢
      obtain ⟨sk, hsk⟩ : ∃ sk, ss[j]? = some sk := ⟨_, List.getElem?_eq_getElem hj⟩
      have st := M.it j sk hsk
      rw [if_neg (Nat.lt_irrefl _)] at st
      have gv := gives_out (ap sk (List.mem_of_getElem? hsk)) (g j sk hlt hsk) M.out
      refine wpAny_bind (wpAny_holding ?_)
      show wpAny _ _ (Builtin.SmallTypes.nextOf (.ref (m + j : Nat)) >>= _) _ _ ⟨h', gg, d, tk, os⟩
      refine wpAny_bind (draw_item (s := ⟨h', gg, d, tk, os⟩) st gv fun u h2 tk1 pu st1 hs2 => wpAny_pure ?_)
      exact wpAny_pure ⟨_, rfl, items.push u, h2, tk1, rfl, rfl, M.drawn hsk st1 hs2⟩
    · rintro n v b s' e hlt ⟨items, h', tk, rfl, rfl, M⟩
      obtain ⟨hj, rfl⟩ := itsAt_get e
      rw [Nat.zero_add] at hlt
      subst hlt
      obtain ⟨sk, hsk⟩ : ∃ sk, ss[n]? = some sk := ⟨_, List.getElem?_eq_getElem hj⟩
      have st := M.it n sk hsk
      rw [if_neg (Nat.lt_irrefl _)] at st
      have gv := ends_out (ap sk (List.mem_of_getElem? hsk)) (ge sk hsk) M.out
      refine wpAny_bind (wpAny_holding ?_)
      show wpAny _ _ (Builtin.SmallTypes.nextOf (.ref (m + n : Nat)) >>= _) _ _ ⟨h', gg, d, tk, os⟩
      refine wpAny_bind (draw_end (s := ⟨h', gg, d, tk, os⟩) hh st gv fun h2 ex he hx => ?_)
      exact hE h2 ex tk (M.out.trans (Outs.ext he (by omega) (by omega))) hx

theorem next_item {m i : Nat} {ss : List Sk} {P : Nat → Value → Prop} {Q : Option Value → Shared → Prop} (hk : 0 < ss.length) (hl : ss.length ≤ 1000) (ap : ∀ sk : Sk, sk ∈ ss → ∀ c : Nat, m ≤ c → sk.apart c) (Z : ZSt m ss i s.heap)
    (g : ∀ (j : Nat) (sk : Sk), ss[j]? = some sk → sk.gives s.heap i (P j))
    (hQ : ∀ vs h' tk, vs.size = ss.length → (∀ j u, vs[j]? = some u → P j u) → ZSt m ss (i + 1) h' → TupAt h' s.heap.objs.size vs → Outs m ss.length s.heap h' → Q (some (.ref s.heap.objs.size)) { s with heap := h', toks := tk }) :
    wpAny (model prog w) A (pyNext (.ref (m + ss.length + 2 : Nat))) Q E s := by
  have hT : s.TypeIs (.ref (m + ss.length + 2 : Nat)) "zip" := let ⟨f0, f, hz, _⟩ := Z.z; ⟨_, hz, rfl⟩
  unfold pyNext
  exact wpAny_bind (wpAny_attempt (wpAny_callSpecial?_slot (name := Str.ofString "__next__") hT F.slot_zip_next
    (wpAny_call_entry F.slot_zip_next hT F.entry_zip_next (zip_item hk hl ap Z g fun vs h' tk a b c d e => wpAny_pure (hQ vs h' tk a b c d e)) (F.args_zip_next_1 _))))
theorem next_end {m i : Nat} {ss : List Sk} {Q : Option Value → Shared → Prop} (hh : A.handled = none) (hl : ss.length ≤ 1000) (ap : ∀ sk : Sk, sk ∈ ss → ∀ c : Nat, m ≤ c → sk.apart c) (Z : ZSt m ss i s.heap)
    (j0 : Nat) (hj0 : j0 < ss.length) (g : ∀ (j : Nat) (sk : Sk), j < j0 → ss[j]? = some sk → sk.gives s.heap i (fun _ => True)) (ge : ∀ sk : Sk, ss[j0]? = some sk → sk.ends s.heap i)
    (hQ : ∀ h' tk, Outs m ss.length s.heap h' → Q none { s with heap := h', toks := tk }) :
    wpAny (model prog w) A (pyNext (.ref (m + ss.length + 2 : Nat))) Q E s := by
  have hT : s.TypeIs (.ref (m + ss.length + 2 : Nat)) "zip" := let ⟨f0, f, hz, _⟩ := Z.z; ⟨_, hz, rfl⟩
  unfold pyNext
  refine wpAny_bind (wpAny_attempt (wpAny_callSpecial?_slot (name := Str.ofString "__next__") hT F.slot_zip_next
    (wpAny_call_entry F.slot_zip_next hT F.entry_zip_next (zip_end hh hl ap Z j0 hj0 g ge fun h' e tk hk he => ?_) (F.args_zip_next_1 _))))
  obtain ⟨o, ho, hc⟩ := he
  refine wpAny_bind (wpAny_isInstance (T := "StopIteration") (b := true) ⟨o, ho, hc⟩ isSubtype_stop ?_)
  exact wpAny_pure (hQ _ _ hk)
/-- ahead of the store: the tuple that is unpacked is let go -/
theorem zip_go {tg : Expr} {m i : Nat} {ss : List Sk} {T : Addr} {Q : Unit → Shared → Prop} (Z : ZSt m ss i s.heap)
    (hQ : ∀ h', ZSt m ss i h' → Heap.SameBut (m + ss.length + 2 : Nat) s.heap h' → Q () { s with heap := h' }) : wpAny (model prog w) A (letOwnedTupleGo tg (.ref (m + ss.length + 2 : Nat)) (.ref T)) Q E s := by
  obtain ⟨f0, f, hz, hf⟩ := Z.z
  have q0 : Q () s := hQ s.heap Z (Heap.SameBut.refl _ _)
  have q1 : wpAny (model prog w) A (do
      let o ← load (m + ss.length + 2 : Nat)
      match o.cls, o.data with
      | .type n, .fields vs =>
        if ["enumerate", "zip", "dict_itemiterator", "dict_reverseitemiterator", "odict_iterator", "itertools.zip_longest", "itertools.pairwise"].contains n && vs[0]? == some (rawInt T) then
          rule "for.unpacks-the-owned-tuple"
          updateField (m + ss.length + 2 : Nat) 0 .none
      | _, _ => pure ()) Q E s := by
    refine wpAny_bind (wpAny_load hz ?_)
    show wpAny _ _ (if (true && (#[f0, Value.bool f, .bool false, .ref (m + ss.length : Nat), .ref (m + ss.length + 1 : Nat)] : Array Value)[0]? == some (rawInt T)) = true then _ else _) _ _ _
    by_cases hc : (true && (#[f0, Value.bool f, .bool false, .ref (m + ss.length : Nat), .ref (m + ss.length + 1 : Nat)] : Array Value)[0]? == some (rawInt T)) = true
    · rw [if_pos hc]
      refine wpAny_bind (wpAny_rule ?_)
      show wpAny _ _ (setField (.ref (m + ss.length + 2 : Nat)) 0 .none) Q E s
      refine wpAny_setField_rec hz (by simp) fun h' hz' hs' => hQ h' ?_ hs'
      refine ⟨⟨.none, f, hz', .inl rfl⟩, hs'.extBut _ _ (by first | omega | exact ane (by intro z; omega)) Z.ti, ?_, fun j sk e => ?_⟩
      · obtain ⟨vs, sz, to⟩ := Z.to
        exact ⟨vs, sz, hs'.extBut _ _ (by first | omega | exact ane (by intro z; omega)) to⟩
      · have hj := len_of e
        exact (Z.it j sk e).over hs'.extBut (by first | omega | exact ane (by intro z; omega))
    · rw [if_neg hc]
      exact wpAny_pure q0
  unfold letOwnedTupleGo
  cases tg <;> first
    | exact wpAny_pure q0
    | exact q1
end
end LZ

set_option Elab.async false
set_option linter.all false
set_option maxRecDepth 100000
set_option maxHeartbeats 2000000
namespace LZ
open PySem
open PySem.Sem (wp)
theorem typeCall_zip (us : List Value) : checkTypeCall "zip" ⟨us, []⟩ = pure () := by kernel_rfl
theorem newCall_zip (a : Value) (us : List Value) : checkBuiltinCall "zip.__new__" ⟨.type "zip" :: a :: us, []⟩ = pure () := by kernel_rfl
theorem args_init (a : Value) (us : List Value) : argsOk "object.__init__" ⟨a :: us, []⟩ := by
  unfold argsOk; rw [signature?_of (id := "object.__init__") (n := ['_', '_', 't', 'i', 'n', 'i', '_', '_']) (o := ['t', 'c', 'e', 'j', 'b', 'o']) (by kernel_rfl) F.owner_object]; kernel_rfl
/-- the value that is iterated over -/
def Sk.of : Sk → Value → Heap → Prop
  | .lst a, v, h => v = .ref a ∧ ∃ its, h.IsList a its
  | .tup a, v, h => v = .ref a ∧ ∃ its, h.IsTuple a its
  | .asc x t, v, _ => v = .str x t ∧ x.cps.all (· < 128) = true
  | .wid x t, v, _ => v = .str x t ∧ x.cps.all (· < 128) = false
theorem Sk.of.over {sk : Sk} {v : Value} {h h' : Heap} (p : sk.of v h) (k : ∀ c o, h.get? c = some o → h'.get? c = some o) : sk.of v h' := by
  cases sk with
  | lst a => exact let ⟨e, its, l⟩ := p; ⟨e, its, l.at fun o q => k _ o q⟩
  | tup a => exact let ⟨e, its, ⟨o, q, r⟩⟩ := p; ⟨e, its, ⟨o, k _ o q, r⟩⟩
  | asc z t => exact p
  | wid z t => exact p
section
variable {prog : Program} {w : World} {A : Around} {E : Value → Shared → Prop} {s : Shared}
theorem iter_any {sk : Sk} {v : Value} {Q : Value → Shared → Prop} (p : sk.of v s.heap) (h : ∀ o : Obj, sk.at s.heap.objs.size 0 (s.heap.push o) → (s.heap.push o).objs.size = s.heap.objs.size + 1 → Q (.ref s.heap.objs.size) { s with heap := s.heap.push o }) :
    wpAny (model prog w) A (pyIter v) Q E s := by
  have sz : ∀ o : Obj, (s.heap.push o).objs.size = s.heap.objs.size + 1 := fun o => Heap.size_push ..
  cases sk with
  | lst a =>
    obtain ⟨rfl, its, l⟩ := p
    exact wpAny_pyIter_list l (h _ ⟨_, Heap.get?_push_size _ rfl, rfl, rfl⟩ (sz _))
  | tup a =>
    obtain ⟨rfl, its, l⟩ := p
    exact wpAny_pyIter_tuple l (h _ ⟨_, Heap.get?_push_size _ rfl, rfl, rfl⟩ (sz _))
  | asc z t =>
    obtain ⟨rfl, l⟩ := p
    exact wpAny_pyIter_ascii l (h _ ⟨_, Heap.get?_push_size _ rfl, rfl, rfl⟩ (sz _))
  | wid z t =>
    obtain ⟨rfl, l⟩ := p
    exact wpAny_pyIter_wide l (h _ ⟨_, Heap.get?_push_size _ rfl, rfl, rfl⟩ (sz _))
theorem itsAt_push (m k : Nat) : (itsAt m k).push (.ref (m + k : Nat)) = itsAt m (k + 1) := by
  unfold itsAt
  rw [List.range_succ, List.map_append]
  simp
theorem iterAll_any {ss : List Sk} {us : List Value} {Q : List Value → Shared → Prop} (hl : ss.length = us.length) (hp : ∀ (j : Nat) (sk : Sk) v, ss[j]? = some sk → us[j]? = some v → sk.of v s.heap)
    (h : ∀ h', h'.objs.size = s.heap.objs.size + ss.length → (∀ (j : Nat) (sk : Sk), ss[j]? = some sk → sk.at (s.heap.objs.size + j) 0 h') → (∀ c o, s.heap.get? c = some o → h'.get? c = some o) → Q (itsAt s.heap.objs.size ss.length).toList { s with heap := h' }) :
    wpAny (model prog w) A (Builtin.SmallTypes.iterAll us) Q E s := by
  obtain ⟨hp0, gg, d, tk0, os⟩ := s
  unfold Builtin.SmallTypes.iterAll
  refine wpAny_bind ?_
  refine forIn_run (fun j b s' => b = itsAt hp0.objs.size j ∧ ∃ h', s' = ⟨h', gg, d, tk0, os⟩ ∧ h'.objs.size = hp0.objs.size + j ∧ (∀ c o, hp0.get? c = some o → h'.get? c = some o) ∧ ∀ (j' : Nat) (sk : Sk), j' < j → ss[j']? = some sk → sk.at (hp0.objs.size + j') 0 h') (j := 0)
    ⟨rfl, hp0, rfl, rfl, fun _ _ e => e, fun j' sk z => absurd z (Nat.not_lt_zero _)⟩ ?_ ?_
  · rintro j v b s' e ⟨rfl, h', rfl, hsz, hk, ha⟩
    rw [Nat.zero_add] at hsz ha ⊢
    have hj : j < ss.length := by rw [hl]; exact len_of e
    obtain ⟨sk, hsk⟩ : ∃ sk, ss[j]? = some sk := ⟨_, List.getElem?_eq_getElem hj⟩
    refine wpAny_bind (wpAny_holding (iter_any (sk := sk) (s := ⟨h', gg, d, tk0, os⟩) ((hp j sk v hsk e).over hk) fun o st sz => wpAny_pure ⟨_, rfl, ?_, h'.push o, rfl, ?_, fun c ob q => Heap.get?_push_of_some _ (hk c ob q), fun j' sk' hj' e' => ?_⟩))
    · show (itsAt hp0.objs.size j).push (.ref h'.objs.size) = _
      rw [hsz]
      exact itsAt_push _ _
    · rw [sz]
      show h'.objs.size + 1 = _
      rw [hsz]
      omega
    · by_cases ej : j' = j
      · subst ej
        rw [hsk] at e'
        cases e'
        rw [← hsz]
        exact st
      · have q := ha j' sk' (by omega) e'
        have lt : hp0.objs.size + j' ≠ h'.objs.size := by rw [hsz]; omega
        exact q.over (x := h'.objs.size) (fun c ob _ z => Heap.get?_push_of_some _ z) lt
  · rintro b s' ⟨rfl, h', rfl, hsz, hk, ha⟩
    rw [Nat.zero_add, ← hl] at hsz ha ⊢
    exact wpAny_pure (h h' hsz (fun j sk e => ha j sk (len_of e) e) hk)
theorem size_itsAt {m k : Nat} : (itsAt m k).size = k := by simp [itsAt]
theorem meets_zip {ss : List Sk} (us : List Value) :
    Meets (Builtin.«zip.__new__» ⟨.type "zip" :: us, []⟩) (fun _ R s => (ss.length = us.length ∧ ss.length ≤ 1000) ∧ (∀ (j : Nat) (sk : Sk) v, ss[j]? = some sk → us[j]? = some v → sk.of v s.heap) ∧
      ∀ h', ZSt s.heap.objs.size ss 0 h' → (∀ c o, s.heap.get? c = some o → h'.get? c = some o) → R (.ok (.ret (.ref (s.heap.objs.size + ss.length + 2 : Nat)))) { s with heap := h' }) :=
  .of_wp fun prog w A R s h => by
    obtain ⟨⟨hl, h1000⟩, hp, h⟩ := h
    obtain ⟨hp0, gg, d, tk0, os⟩ := s
    have hsub := sub_zip
    have e0 : Builtin.SmallTypes.newClass "zip" ⟨.type "zip" :: us, []⟩ = pure (.type "zip", us) := by
      unfold Builtin.SmallTypes.newClass
      simp only [show isType (.type "zip") = pure true from rfl, pure_bind, hsub]
      rfl
    unfold Builtin.«zip.__new__»
    refine wpAny_bind (wpAny_of_eq e0 ?_)
    dsimp only
    refine wpAny_bind (iterAll_any (s := ⟨hp0, gg, d, tk0, os⟩) hl hp fun h' hsz ha hk => ?_)
    refine wpAny_bind (wpAny_newTuple ?_ (by rw [Array.length_toList, size_itsAt]; exact Nat.le_trans h1000 (by decide)))
    refine wpAny_bind (wpAny_newTuple ?_ (by rw [List.length_map, Array.length_toList, size_itsAt]; exact Nat.le_trans h1000 (by decide)))
    show wpAny _ _ (newObj (.type "zip") (.fields #[.none, .bool false, .bool false, _, _]) >>= _) _ _ _
    refine wpAny_bind (wpAny_newObj_type (wpAny_pure ⟨_, rfl, ?_⟩) (by size_fits))
    have s1 : ∀ o : Obj, (h'.push o).objs.size = hp0.objs.size + ss.length + 1 := fun o => by rw [Heap.size_push, hsz]
    have s2 : ∀ o o2 : Obj, ((h'.push o).push o2).objs.size = hp0.objs.size + ss.length + 2 := fun o o2 => by rw [Heap.size_push, s1]
    have k3 : ∀ (o o2 o3 : Obj) c ob, h'.get? c = some ob → (((h'.push o).push o2).push o3).get? c = some ob := fun o o2 o3 c ob q => Heap.get?_push_of_some _ (Heap.get?_push_of_some _ (Heap.get?_push_of_some _ q))
    have g3 : ∀ o o2 o3 : Obj, o3.isFreed = false → (((h'.push o).push o2).push o3).get? (hp0.objs.size + ss.length + 2 : Nat) = some o3 := fun o o2 o3 hf => by
      rw [← s2 o o2]
      exact Heap.get?_push_size _ hf
    have g2 : ∀ o o2 o3 : Obj, o2.isFreed = false → (((h'.push o).push o2).push o3).get? (hp0.objs.size + ss.length + 1 : Nat) = some o2 := fun o o2 o3 hf => by
      refine Heap.get?_push_of_some _ ?_
      rw [← s1 o]
      exact Heap.get?_push_size _ hf
    have g1 : ∀ o o2 o3 : Obj, o.isFreed = false → (((h'.push o).push o2).push o3).get? (hp0.objs.size + ss.length : Nat) = some o := fun o o2 o3 hf => by
      refine Heap.get?_push_of_some _ (Heap.get?_push_of_some _ ?_)
      rw [← hsz]
      exact Heap.get?_push_size _ hf
    have r := h (((h'.push { cls := .type "tuple", data := .seq (itsAt hp0.objs.size ss.length).toList.toArray }).push { cls := .type "tuple", data := .seq ((itsAt hp0.objs.size ss.length).toList.map fun _ => Value.none).toArray }).push
      { cls := .type "zip", data := .fields #[.none, .bool false, .bool false, .ref (hp0.objs.size + ss.length : Nat), .ref (hp0.objs.size + ss.length + 1 : Nat)] })
      ⟨⟨.none, false, g3 _ _ _ rfl, .inl rfl⟩, by have z := g1 { cls := .type "tuple", data := .seq (itsAt hp0.objs.size ss.length).toList.toArray } { cls := .type "tuple", data := .seq ((itsAt hp0.objs.size ss.length).toList.map fun _ => Value.none).toArray } { cls := .type "zip", data := .fields #[.none, .bool false, .bool false, .ref (hp0.objs.size + ss.length : Nat), .ref (hp0.objs.size + ss.length + 1 : Nat)] } rfl; simpa using z,
        ⟨_, by rw [List.size_toArray, List.length_map, Array.length_toList, size_itsAt], g2 _ _ _ rfl⟩, fun j sk e => (ha j sk e).over (x := (hp0.objs.size + ss.length : Nat)) (fun c ob _ q => k3 _ _ _ c ob q) (by have := len_of e; show (hp0.objs.size + j : Nat) ≠ _; omega)⟩
      (fun c o q => k3 _ _ _ c o (hk c o q))
    simp only [s1, s2, hsz]
    exact r
theorem call_zipN {ss : List Sk} {us : List Value} {Q : Value → Shared → Prop} (hl : ss.length = us.length) (h0 : 0 < ss.length) (h1000 : ss.length ≤ 1000) (hp : ∀ (j : Nat) (sk : Sk) v, ss[j]? = some sk → us[j]? = some v → sk.of v s.heap)
    (h : ∀ h', ZSt s.heap.objs.size ss 0 h' → (∀ c o, s.heap.get? c = some o → h'.get? c = some o) → Q (.ref (s.heap.objs.size + ss.length + 2 : Nat)) { s with heap := h' }) :
    wpAny (model prog w) A (call (.type "zip") us) Q E s := by
  obtain ⟨u, us', rfl⟩ : ∃ u us', us = u :: us' := by
    cases us with
    | nil => rw [List.length_nil] at hl; omega
    | cons u us' => exact ⟨u, us', rfl⟩
  refine callType_new F.called_zip (by decide) (typeCall_zip _) (newCall_zip _ _) (fun obj => args_init obj _) F.entry_zip_new (meets_zip (ss := ss) _) ⟨⟨hl, h1000⟩, hp, fun h' Z k => ?_⟩
  obtain ⟨f0, f, hz, _⟩ := id Z.z
  exact ⟨⟨_, hz, rfl⟩, h h' Z k⟩
theorem iter_zip {m i : Nat} {ss : List Sk} {Q : Value → Shared → Prop} (Z : ZSt m ss i s.heap) (h : Q (.ref (m + ss.length + 2 : Nat)) s) : wpAny (model prog w) A (pyIter (.ref (m + ss.length + 2 : Nat))) Q E s := by
  have hT : s.TypeIs (.ref (m + ss.length + 2 : Nat)) "zip" := let ⟨f0, f, hz, _⟩ := Z.z; ⟨_, hz, rfl⟩
  refine wpAny_pyIter_slot hT F.slot_zip_iter (wpAny_call_entry F.slot_zip_iter hT F.entry_zip_iter ?_ (F.args_zip_iter_1 _))
  show wpAny _ _ (ret (.ref (m + ss.length + 2 : Nat))) _ _ s
  exact wpAny_pure ⟨_, rfl, "zip", _, hT, F.slot_zip_next.lookup, h⟩
end
end LZ

set_option Elab.async false
set_option linter.all false
set_option maxRecDepth 100000
set_option maxHeartbeats 2000000
/-! ZN3: zip of any number of lists, tuples and texts, in for and comprehensions, any target; zip( *e). -/
namespace LZ
open PySem PySem.Spec L2 LP
open PyProof.Rows hiding St signs

inductive Sv
  | lst (a : Addr)
  | tup (a : Addr)
  | str (x : Str)
def Sv.v : Sv → V
  | .lst a => .ref a
  | .tup a => .ref a
  | .str x => .str x
def Sv.has (K : PySem.W.Frag) (H : Hp) : Sv → List V → Prop
  | .lst a, xs => SqL K H a xs
  | .tup a, xs => SqT K H a xs
  | .str x, xs => xs = signs x
inductive Skv : Sv → Sk → Prop
  | lst (a : Addr) : Skv (.lst a) (.lst a)
  | tup (a : Addr) : Skv (.tup a) (.tup a)
  | asc (x : Str) (t : Tok) : Skv (.str x) (.asc x t)
  | wid (x : Str) (t : Tok) : Skv (.str x) (.wid x t)
theorem sign_at {x : Str} {i : Nat} {v : V} (h : (signs x)[i]? = some v) : ∃ c, x.cps[i]? = some c ∧ v = .str ⟨#[c]⟩ := by
  unfold signs at h
  rw [List.getElem?_map] at h
  obtain ⟨c, e, rfl⟩ := Option.map_eq_some_iff.mp h
  exact ⟨c, by simpa using e, rfl⟩
theorem sign_len (x : Str) : (signs x).length = x.cps.size := by simp [signs]
section
variable {X : Cx} {pins : List (Addr × Obj)} {σ : L2.St} {H : Hp} {s : Shared} {sv : Sv} {sk : Sk} {xs ys : List V} {i : Nat}
theorem sv_gives (I : Inv X pins σ H s) (r : Skv sv sk) (h : sv.has X.K H xs) {x : V} (e : xs[i]? = some x) : sk.gives s.heap i (fun u => RelV x u) := by
  cases r with
  | lst a =>
    obtain ⟨its, rv, p, _⟩ := I.list h
    obtain ⟨u, hu, ru⟩ := rv.get e
    exact ⟨_, u, p.isList, by simpa using hu, ru⟩
  | tup a =>
    obtain ⟨its, rv, p, _⟩ := I.tuple h
    obtain ⟨u, hu, ru⟩ := rv.get e
    exact ⟨_, u, p, by simpa using hu, ru⟩
  | asc x t =>
    cases (show xs = signs x from h)
    obtain ⟨c, q, rfl⟩ := sign_at e
    exact ⟨c, q, fun u => ⟨u, rfl⟩⟩
  | wid x t =>
    cases (show xs = signs x from h)
    obtain ⟨c, q, rfl⟩ := sign_at e
    exact ⟨c, q, fun u => ⟨u, rfl⟩⟩
theorem sv_ends (I : Inv X pins σ H s) (r : Skv sv sk) (h : sv.has X.K H xs) (e : xs.length ≤ i) : sk.ends s.heap i := by
  cases r with
  | lst a =>
    obtain ⟨its, rv, p, _⟩ := I.list h
    have l := rv.length
    exact ⟨_, p.isList, by simp; omega⟩
  | tup a =>
    obtain ⟨its, rv, p, _⟩ := I.tuple h
    have l := rv.length
    exact ⟨_, p, by simp; omega⟩
  | asc x t =>
    cases (show xs = signs x from h)
    rw [sign_len] at e
    exact Array.getElem?_eq_none e
  | wid x t =>
    cases (show xs = signs x from h)
    rw [sign_len] at e
    exact Array.getElem?_eq_none e
theorem sv_inj (I : Inv X pins σ H s) (h : sv.has X.K H xs) (h' : sv.has X.K H ys) : xs = ys := by
  cases sv with
  | lst a => exact I.list_inj h h'
  | tup a => exact I.tuple_inj h h'
  | str x => exact h.trans h'.symm
theorem sv_of (I : Inv X pins σ H s) (h : sv.has X.K H xs) {u : Value} (ru : RelV sv.v u) : ∃ sk, Skv sv sk ∧ sk.of u s.heap ∧ ∀ c : Nat, s.heap.objs.size ≤ c → sk.apart c := by
  cases sv with
  | lst a =>
    cases ru
    obtain ⟨its, rv, p, _⟩ := I.list h
    refine ⟨.lst a, .lst a, ⟨rfl, _, p.isList⟩, fun c hc z => ?_⟩
    exact Nat.ne_of_lt (Nat.lt_of_lt_of_le p.lt hc) z
  | tup a =>
    cases ru
    obtain ⟨its, rv, p, _⟩ := I.tuple h
    obtain ⟨o, ho, _⟩ := id p
    refine ⟨.tup a, .tup a, ⟨rfl, _, p⟩, fun c hc z => ?_⟩
    exact Nat.ne_of_lt (Nat.lt_of_lt_of_le (Heap.lt_size ho) hc) z
  | str x =>
    obtain ⟨t, rfl⟩ := ru
    cases ha : x.cps.all (· < 128)
    · exact ⟨.wid x t, .wid x t, ⟨rfl, ha⟩, fun _ _ => True.intro⟩
    · exact ⟨.asc x t, .asc x t, ⟨rfl, ha⟩, fun _ _ => True.intro⟩
end
/-- one for each -/
theorem pick_each {α β : Type} {P : Nat → β → Prop} : ∀ {l : List α}, (∀ (j : Nat) a, l[j]? = some a → ∃ b, P j b) → ∃ bs : List β, bs.length = l.length ∧ ∀ (j : Nat) b, bs[j]? = some b → P j b
  | [], _ => ⟨[], rfl, fun j b z => by simp at z⟩
  | a :: l, h => by
    obtain ⟨b, hb⟩ := h 0 a rfl
    obtain ⟨bs, hl, hp⟩ := pick_each (P := fun j b => P (j + 1) b) (l := l) fun j a e => h (j + 1) a e
    refine ⟨b :: bs, by rw [List.length_cons, List.length_cons, hl], fun j c e => ?_⟩
    cases j with
    | zero => cases e; exact hb
    | succ j => exact hp j c e
theorem vals_each : ∀ {xs : List V} {us : List Value}, xs.length = us.length → (∀ (j : Nat) x u, xs[j]? = some x → us[j]? = some u → RelV x u) → Vals xs us
  | [], [], _, _ => .nil
  | x :: xs, u :: us, hl, h => .cons (h 0 x u rfl rfl) (vals_each (by simpa using hl) fun j x u e1 e2 => h (j + 1) x u e1 e2)
  | [], u :: us, hl, _ => by simp at hl
  | x :: xs, [], hl, _ => by simp at hl

/-- the things as they stand at each turn, their items in a new tuple -/
def ItzN (K : PySem.W.Frag) (ss : List Sv) : It :=
  ⟨fun i H => ∀ (j : Nat) (s : Sv), ss[j]? = some s → ∃ xs x, s.has K H xs ∧ xs[i]? = some x,
    fun i H v H' => ∃ T xs, v = .ref T ∧ H T = none ∧ H' = upd H T (.tup xs) ∧ xs.length = ss.length ∧ ∀ (j : Nat) (s : Sv) ys, ss[j]? = some s → s.has K H ys → xs[j]? = ys[i]?,
    fun i H => ∃ j0, j0 < ss.length ∧ (∀ s : Sv, ss[j0]? = some s → ∃ xs, s.has K H xs ∧ xs.length ≤ i) ∧ ∀ (j : Nat) (s : Sv), j < j0 → ss[j]? = some s → ∃ xs x, s.has K H xs ∧ xs[i]? = some x⟩
def cellsOf (m k : Nat) : List Addr := (List.range (k + 3)).map (m + ·)
theorem mem_cells {m k : Nat} {c : Addr} : c ∈ cellsOf m k ↔ ∃ j : Nat, j < k + 3 ∧ c = m + j := by
  unfold cellsOf
  simp only [List.mem_map, List.mem_range]
  exact ⟨fun ⟨a, h, e⟩ => ⟨a, h, e.symm⟩, fun ⟨a, h, e⟩ => ⟨a, h, e.symm⟩⟩
theorem turn_zipN {P : Program} {w : World} {K : PySem.W.Frag} {tg : Expr} {m : Nat} {ss : List Sv} {ks : List Sk} (hl : ss.length = ks.length) (h0 : 0 < ks.length) (h1000 : ks.length ≤ 1000)
    (hr : ∀ (j : Nat) sv sk, ss[j]? = some sv → ks[j]? = some sk → Skv sv sk) (ap : ∀ sk : Sk, sk ∈ ks → ∀ c : Nat, m ≤ c → sk.apart c) :
    Turn P w K tg (ItzN K ss) (cellsOf m ks.length) (m + ks.length + 2 : Nat) (fun i h => ZSt m ks i h) where
  mem := mem_cells.mpr ⟨ks.length + 2, by omega, by show (_ : Nat) = _; omega⟩
  obj := fun i h st c hc => by
    obtain ⟨j, hj, rfl⟩ := mem_cells.mp hc
    by_cases h1 : j < ks.length
    · exact (st.it j _ (List.getElem?_eq_getElem h1)).obj
    · by_cases h2 : j = ks.length
      · subst h2
        exact ⟨_, st.ti, fun v q => nomatch q⟩
      · by_cases h3 : j = ks.length + 1
        · subst h3
          obtain ⟨vs, _, to⟩ := st.to
          exact ⟨_, to, fun v q => nomatch q⟩
        · obtain rfl : j = ks.length + 2 := by omega
          obtain ⟨f0, f, hz, _⟩ := st.z
          exact ⟨_, hz, fun v q => nomatch q⟩
  keep := fun i h h' st k => by
    have kk : ∀ j : Nat, j < ks.length + 3 → ∀ o, h.get? (m + j : Nat) = some o → h'.get? (m + j : Nat) = some o := fun j hj o e => k _ (mem_cells.mpr ⟨j, hj, rfl⟩) o e
    obtain ⟨f0, f, hz, hf⟩ := st.z
    obtain ⟨vs, sz, to⟩ := st.to
    refine ⟨⟨f0, f, kk (ks.length + 2) (by omega) _ hz, hf⟩, kk ks.length (by omega) _ st.ti, ⟨vs, sz, kk (ks.length + 1) (by omega) _ to⟩, fun j sk e => ?_⟩
    have hj := len_of e
    have q := st.it j sk e
    obtain ⟨o, ho, _⟩ := q.obj
    refine q.over' fun o e => kk j (by omega) o e
  item := by
    intro X hP hw hK hc i pins s σ H E I hf st hg
    subst hP hw hK
    obtain ⟨xs, hxl, hxs⟩ := pick_each (l := ss) (P := fun j x => ∀ sv : Sv, ss[j]? = some sv → ∃ ys, sv.has X.K H ys ∧ ys[i]? = some x) fun j a e => by
      obtain ⟨ys, x, h1, h2⟩ := hg j a e
      exact ⟨x, fun sv e' => by rw [e] at e'; cases e'; exact ⟨ys, h1, h2⟩⟩
    refine next_item (P := fun j u => ∀ x, xs[j]? = some x → RelV x u) h0 h1000 ap st (fun j sk e => ?_) fun vs h' tk hvs hp Z hT out => ?_
    · have hj : j < ss.length := by rw [hl]; exact len_of e
      have e1 : ss[j]? = some ss[j] := List.getElem?_eq_getElem hj
      have hj2 : j < xs.length := by omega
      have e2 : xs[j]? = some xs[j] := List.getElem?_eq_getElem hj2
      obtain ⟨ys, h1, h2⟩ := hxs j _ e2 _ e1
      have g := sv_gives I (hr j _ _ e1 e) h1 h2
      have mono : ∀ {sk : Sk} {P Q : Value → Prop}, (∀ u, P u → Q u) → sk.gives s.heap i P → sk.gives s.heap i Q := fun {sk P Q} hpq g => by
        cases sk with
        | lst a => obtain ⟨its, v, l, e, p⟩ := g; exact ⟨its, v, l, e, hpq _ p⟩
        | tup a => obtain ⟨its, v, l, e, p⟩ := g; exact ⟨its, v, l, e, hpq _ p⟩
        | asc z t => obtain ⟨c, e, p⟩ := g; exact ⟨c, e, fun u => hpq _ (p u)⟩
        | wid z t => obtain ⟨c, e, p⟩ := g; exact ⟨c, e, fun u => hpq _ (p u)⟩
      refine mono (fun u ru x ex => ?_) g
      rw [e2] at ex
      cases ex
      exact ru
    · refine ⟨_, rfl, zip_go (s := { s with heap := h', toks := tk }) Z fun h'' Z' sb => ?_⟩
      have hzl : (m + ks.length + 2 : Nat) < s.heap.objs.size := by
        obtain ⟨f0, f, hz, _⟩ := st.z
        exact Heap.lt_size hz
      have hT2 : TupAt h'' s.heap.objs.size vs := (sb.2 _ (Nat.ne_of_gt hzl)).trans hT
      have hlen : xs.length = vs.toList.length := (hxl.trans (hl.trans hvs.symm)).trans Array.length_toList.symm
      have rv : Vals xs vs.toList := vals_each hlen fun j x u e1 e2 => hp j u (by simpa using e2) x e1
      have new : ObjOk X.prog X.w (upd H s.heap.objs.size (.tup xs)) h'' s.heap.objs.size (.tup xs) :=
        ⟨by rw [hxl, hl]; exact Nat.le_trans h1000 (by decide), vs.toList, rv, ⟨_, hT2, rfl, 0, by simp⟩⟩
      have I1 : Inv X pins σ (upd H s.heap.objs.size (.tup xs)) { s with heap := h'', toks := tk } :=
        I.turnedNew (t' := tk) (ch := cellsOf m ks.length) (fun (c : Nat) o hb q => by
          have no : ∀ j : Nat, j < ks.length + 3 → c ≠ m + j := fun j hj z => hb (mem_cells.mpr ⟨j, hj, z⟩)
          refine (sb.2 c (no (ks.length + 2) (by omega))).trans (out c o ?_ q)
          by_cases hcm : c < m
          · exact .inl hcm
          · by_cases hcm2 : c < m + ks.length + 3
            · refine absurd ?_ (no (c - m) (by omega))
              show (c : Nat) = m + (c - m)
              omega
            · exact .inr (by omega)) hf (Nat.le_refl _) new
      refine ⟨.ref s.heap.objs.size, _, I1, rfl, ⟨_, xs, rfl, I.hok.fresh (Nat.le_refl _), rfl, hxl, fun j sv ys e1 e2 => ?_⟩, Z', fun c hcm => ?_⟩
      · have hj2 : j < xs.length := by rw [hxl]; exact len_of e1
        have e3 : xs[j]? = some xs[j] := List.getElem?_eq_getElem hj2
        obtain ⟨ys', h1, h2⟩ := hxs j _ e3 _ e1
        rw [sv_inj I e2 h1, h2, e3]
      · have hlt : c < s.heap.objs.size := by
          obtain ⟨j, hj, rfl⟩ := mem_cells.mp hcm
          show m + j < _
          omega
        rw [upd_ne (Nat.ne_of_lt hlt)]
        exact (hf c hcm).1
  done := by
    intro X hP hw hK hc i pins s σ H E I hf st hg
    subst hP hw hK
    obtain ⟨j0, hj0, he, hg⟩ := hg
    refine next_end (I.ok.hd hc) h1000 ap st j0 (by omega) (fun j sk hj e => ?_) (fun sk e => ?_) fun h' tk out => ⟨rfl, I.turnedL (t' := tk) (ch := cellsOf m ks.length) (fun (c : Nat) o hb q => ?_) hf⟩
    · have hj1 : j < ss.length := by omega
      have e1 : ss[j]? = some ss[j] := List.getElem?_eq_getElem hj1
      obtain ⟨ys, x, h1, h2⟩ := hg j _ hj e1
      have g := sv_gives I (hr j _ _ e1 e) h1 h2
      cases sk with
      | lst a => obtain ⟨its, v, l, e, p⟩ := g; exact ⟨its, v, l, e, True.intro⟩
      | tup a => obtain ⟨its, v, l, e, p⟩ := g; exact ⟨its, v, l, e, True.intro⟩
      | asc z t => obtain ⟨c, e, p⟩ := g; exact ⟨c, e, fun u => True.intro⟩
      | wid z t => obtain ⟨c, e, p⟩ := g; exact ⟨c, e, fun u => True.intro⟩
    · have e1 : ss[j0]? = some ss[j0] := List.getElem?_eq_getElem hj0
      obtain ⟨ys, h1, h2⟩ := he _ e1
      exact sv_ends I (hr j0 _ _ e1 e) h1 h2
    · have no : ∀ j : Nat, j < ks.length + 3 → c ≠ m + j := fun j hj z => hb (mem_cells.mpr ⟨j, hj, z⟩)
      refine out c o ?_ q
      by_cases hcm : c < m
      · exact .inl hcm
      · by_cases hcm2 : c < m + ks.length + 3
        · refine absurd ?_ (no (c - m) (by omega))
          show (c : Nat) = m + (c - m)
          omega
        · exact .inr (by omega)
  self := fun A i s Q E st h => iter_zip st h

/-! ### the rules -/
/-- the values are such things -/
inductive Svs (K : PySem.W.Frag) (H : Hp) : List V → List Sv → Prop
  | nil : Svs K H [] []
  | cons {v : V} {vs : List V} {s : Sv} {ss : List Sv} {xs : List V} (h : v = s.v) (h2 : s.has K H xs) (r : Svs K H vs ss) : Svs K H (v :: vs) (s :: ss)
theorem Svs.at {K : PySem.W.Frag} {H : Hp} : ∀ {vs : List V} {ss : List Sv}, Svs K H vs ss → vs.length = ss.length ∧ ∀ (j : Nat) s, ss[j]? = some s → vs[j]? = some s.v ∧ ∃ xs, s.has K H xs
  | _, _, .nil => ⟨rfl, fun j s z => by simp at z⟩
  | _, _, .cons (xs := xs) h h2 r => by
    obtain ⟨h3, h4⟩ := Svs.at r
    refine ⟨by rw [List.length_cons, List.length_cons, h3], fun j s e => ?_⟩
    cases j with
    | zero => cases e; exact ⟨by rw [h]; rfl, xs, h2⟩
    | succ j => exact h4 j s e
section
variable {X : Cx} {pins : List (Addr × Obj)} {σ : L2.St} {H : Hp} {s : Shared}
/-- zip has been called -/
theorem made_zip {tg : Expr} {vs : List V} {us : List Value} {ss : List Sv} {R : It → Hp → Prop} (I : Inv X pins σ H s) (r : Vals vs us) (hs : Svs X.K H vs ss) (h0 : 0 < ss.length) (h1000 : ss.length ≤ 1000) (q : R (ItzN X.K ss) H) :
    wpAny (model X.prog X.w) X.A (call (.type "zip") us) (fun v s1 => wpAny (model X.prog X.w) X.A (pyIter v) (PIE X pins σ tg R) X.xe s1) X.xe s := by
  obtain ⟨hl, hat⟩ := hs.at
  have hl2 := r.length
  obtain ⟨ks, hk, hks⟩ := pick_each (l := ss) (P := fun j sk => ∀ sv u, ss[j]? = some sv → us[j]? = some u → Skv sv sk ∧ sk.of u s.heap ∧ ∀ c : Nat, s.heap.objs.size ≤ c → sk.apart c) fun j a e => by
    obtain ⟨e1, xs, h2⟩ := hat j a e
    obtain ⟨u, hu, ru⟩ := r.get e1
    obtain ⟨sk, h3, h4, h5⟩ := sv_of I h2 ru
    refine ⟨sk, fun sv u' e3 e4 => ?_⟩
    rw [e] at e3
    rw [hu] at e4
    cases e3
    cases e4
    exact ⟨h3, h4, h5⟩
  have full : ∀ (j : Nat) sk, ks[j]? = some sk → ∃ sv u, ss[j]? = some sv ∧ us[j]? = some u ∧ Skv sv sk ∧ sk.of u s.heap ∧ ∀ c : Nat, s.heap.objs.size ≤ c → sk.apart c := fun j sk e => by
    have hj : j < ss.length := by rw [← hk]; exact len_of e
    have hj2 : j < us.length := by rw [← hl2, hl]; exact hj
    have e1 : ss[j]? = some ss[j] := List.getElem?_eq_getElem hj
    have e2 : us[j]? = some us[j] := List.getElem?_eq_getElem hj2
    obtain ⟨a, b, c⟩ := hks j sk e _ _ e1 e2
    exact ⟨_, _, e1, e2, a, b, c⟩
  have ap : ∀ sk : Sk, sk ∈ ks → ∀ c : Nat, s.heap.objs.size ≤ c → sk.apart c := fun sk hm c hc => by
    obtain ⟨j, hj, e⟩ := List.mem_iff_getElem.mp hm
    obtain ⟨_, _, _, _, _, _, h⟩ := full j sk (by rw [← e]; exact List.getElem?_eq_getElem hj)
    exact h c hc
  refine call_zipN (ss := ks) (by rw [hk, ← hl, hl2]) (by omega) (by omega) (fun j sk v e1 e2 => ?_) fun h' Z k => iter_zip (s := { s with heap := h' }) Z ?_
  · obtain ⟨sv, u, h1, h2, _, h4, _⟩ := full j sk e1
    rw [h2] at e2
    cases e2
    exact h4
  · have I2 : Inv X pins σ H { s with heap := h' } := I.kept (t' := s.toks) k
    refine ⟨_, cellsOf s.heap.objs.size ks.length, _, _, H, rfl, I2, turn_zipN hk.symm (by omega) (by omega) (fun j sv sk e1 e2 => ?_) ap, Z, fun c hc => ?_, q⟩
    · obtain ⟨sv', u, h1, _, h3, _⟩ := full j sk e2
      rw [h1] at e1
      cases e1
      exact h3
    · obtain ⟨j, hj, rfl⟩ := mem_cells.mp hc
      exact I.fpOk (Nat.le_add_right _ _) (I.hok.fresh (Nat.le_add_right _ _))
end
/-- zip(e, ..) -/
def iZipN (K : PySem.W.Frag) (ta : TA) : TI := fun σ H R => ta σ H fun vs H1 => ∃ ss, Svs K H1 vs ss ∧ 0 < ss.length ∧ ss.length ≤ 1000 ∧ R (ItzN K ss) H1
theorem pi_zipN {X : Cx} {tg e : Expr} {es : List Expr} {ta : TA} {p pos : Pos} (hg : Gl X "zip") (hm : X.mg "zip" = none) (ha : PA X (e :: es) ta)
    (hs : starEach (e :: es) X.env = (false, eval e X.env) :: starEach es X.env := by rfl) (hpl : (backTo pos (starEach es X.env)).any (·.1) = false := by rfl) :
    PI X tg (.Call (.Name "zip" p) (e :: es) [] pos) (iZipN X.K ta) := by
  refine ⟨fun pins s σ H R I h => ?_⟩
  refine Call_ (ld_blt I hg hm PyProof.Rows.boot_zip (PyProof.Rows.callWith_type1 (thn (ha.run pos pins s σ H _ I h) fun us s1 ⟨vs, H1, I1, r1, ss, q1, q2, q3, q4⟩ => ?_) hs hpl))
  exact made_zip I1 r1 q1 q2 q3 q4
theorem keeper_type {M : Model} {T : String} (h : Heap) : ∃ k, (k = Keeper.frame ∨ k = Keeper.machine ∨ k = Keeper.boundFrame) ∧ PySem.W.Looks M h (keeperOf (.type T)) k := by
  exact ⟨.machine, .inr (.inl rfl), PySem.W.Looks.of_pure rfl⟩
/-- zip( *e) -/
def iZipS (K : PySem.W.Frag) (te : TE) : TI := fun σ H R => te σ H fun y H1 => ∃ a xs ss, y = V.ref a ∧ (SqT K H1 a xs ∨ SqL K H1 a xs) ∧ Svs K H1 xs ss ∧ 0 < ss.length ∧ ss.length ≤ 1000 ∧ R (ItzN K ss) H1
theorem pi_zipS {X : Cx} {tg e : Expr} {te : TE} {p sp_ pos : Pos} (hg : Gl X "zip") (hm : X.mg "zip" = none) (he : PE X e te)
    (hst : starEach [.Starred e sp_] X.env = [(true, eval e X.env)] := by rfl) :
    PI X tg (.Call (.Name "zip" p) [.Starred e sp_] [] pos) (iZipS X.K te) := by
  refine ⟨fun pins s σ H R I h => ?_⟩
  refine Call_ (ld_blt I hg hm PyProof.Rows.boot_zip ?_)
  rw [hst]
  refine PySem.W.ks_call (P := fun _ => True) rfl (fun h _ => keeper_type h) (PySem.W.ks_lone ?_)
  refine thn (he.run pins s σ H _ I h) fun v s1 ⟨y, H1, I1, ry, a, xs, ss, ey, hxs, q1, q2, q3, q4⟩ => ?_
  subst ey
  obtain rfl : v = Value.ref a := ry
  exact StX.star_any I1 hxs fun us s2 I2 rv => ⟨True.intro, made_zip I2 rv q1 q2 q3 q4⟩
end LZ

set_option Elab.async false
set_option linter.all false
set_option maxRecDepth 100000
set_option maxHeartbeats 2000000
/-! EN: enumerate of a list, a tuple, a text. -/
namespace LZ
open PySem PySem.Spec L2 LP
open PyProof.Rows hiding St signs

abbrev EnObj (h : Heap) (e it : Nat) (f0 : Value) (f : Bool) (i : Int) (old : Value) : Prop :=
  h.get? e = some { cls := .type "enumerate", dict := none, data := .fields #[f0, .bool f, .ref it, rawInt i, .none, old], slots := #[] }
structure ESt (m : Nat) (sk : Sk) (i : Nat) (h : Heap) : Prop where
  e : ∃ f0 f old, EnObj h (m + 1) m f0 f (i : Nat) old ∧ (f0 = .none ∨ ∃ T : Nat, f0 = rawInt T)
  it : sk.at m i h
section
variable {prog : Program} {w : World} {A : Around} {E : Value → Shared → Prop} {s : Shared}
theorem efree_any {e it : Nat} {f0 old : Value} {f : Bool} {i : Int} {Q : Bool → Shared → Prop} (hz : EnObj s.heap e it f0 f i old) (h0 : f0 = .none ∨ ∃ T : Nat, f0 = rawInt T)
    (h1 : Q true s) (h2 : ∀ h', EnObj h' e it f0 true i old → Heap.SameBut e s.heap h' → Q false { s with heap := h' }) : wpAny (model prog w) A (Builtin.SmallTypes.ownedTupleIsFree (.ref e)) Q E s := by
  unfold Builtin.SmallTypes.ownedTupleIsFree
  rcases h0 with rfl | ⟨T, rfl⟩
  · exact wpAny_bind (wpAny_field hz rfl (x := .none) rfl (wpAny_pure h1))
  · refine wpAny_bind (wpAny_field hz rfl (x := rawInt T) rfl ?_)
    show wpAny _ _ (loadIfAlive ((T : Int).toNat) >>= _) _ _ _
    rw [Int.toNat_natCast]
    refine wpAny_bind (alive_any ?_)
    cases s.heap.get? T with
    | none =>
      simp only [Option.isNone_none, if_true]
      exact wpAny_pure h1
    | some o =>
      simp only [Option.isNone_some, Bool.false_eq_true, if_false]
      refine wpAny_bind (wpAny_field hz rfl (x := .bool f) rfl ?_)
      cases f with
      | true =>
        rw [if_neg (show ¬ ((Value.bool true != Value.bool true) = true) from Bool.false_ne_true)]
        exact wpAny_pure (h2 s.heap hz (Heap.SameBut.refl _ _))
      | false =>
        rw [if_pos (show (Value.bool false != Value.bool true) = true from rfl)]
        exact wpAny_bind (wpAny_setField_rec hz (by simp) fun h₁ hz₁ hs₁ => wpAny_pure (h2 h₁ hz₁ hs₁))
theorem enum_item {m i : Nat} {sk : Sk} {P : Value → Prop} {Q : Value → Shared → Prop} (Z : ESt m sk i s.heap) (g : sk.gives s.heap i P)
    (hQ : ∀ u t h' tk, P u → ESt m sk (i + 1) h' → TupAt h' s.heap.objs.size #[.int i t, u] → (∀ (c : Nat) o, c ≠ m → c ≠ m + 1 → s.heap.get? c = some o → h'.get? c = some o) → Q (.ref s.heap.objs.size) { s with heap := h', toks := tk }) :
    wpAny (model prog w) A (Builtin.«enumerate.__next__» ⟨[.ref (m + 1 : Nat)], []⟩) (fun fin s' => ∃ v, fin = .done (.ret v) ∧ Q v s') E s := by
  obtain ⟨hp, gg, d, tk0, os⟩ := s
  obtain ⟨f0, f, old, he, hf⟩ := Z.e
  have hel : (m + 1 : Nat) < hp.objs.size := Heap.lt_size he
  show wpAny _ _ (field (.ref (m + 1 : Nat)) 2 >>= _) _ _ _
  refine wpAny_bind (wpAny_field he rfl (x := .ref m) rfl ?_)
  refine wpAny_bind (draw_item Z.it g fun u h1 tk1 pu st1 hs1 => ?_)
  replace hs1 : Heap.SameBut m hp h1 := hs1
  have he1 : EnObj h1 (m + 1) m f0 f i old := (hs1.2 (m + 1 : Nat) (Nat.succ_ne_self _)).trans he
  show wpAny _ _ (field (.ref (m + 1 : Nat)) 3 >>= _) _ _ ⟨h1, gg, d, tk1, os⟩
  refine wpAny_bind (wpAny_field he1 rfl (x := rawInt i) rfl ?_)
  show wpAny _ _ (field (.ref (m + 1 : Nat)) 4 >>= _) _ _ ⟨h1, gg, d, tk1, os⟩
  refine wpAny_bind (wpAny_field he1 rfl (x := .none) rfl ?_)
  show wpAny _ _ (mkInt i >>= _) _ _ ⟨h1, gg, d, tk1, os⟩
  refine wpAny_bind (wpAny_mkInt ?_)
  show wpAny _ _ (setField (.ref (m + 1 : Nat)) 3 (rawInt ((i : Int) + 1)) >>= _) _ _ ⟨h1, gg, d, tk1 + 1, os⟩
  refine wpAny_bind (wpAny_setField_rec he1 (by simp) fun h2 he2 hs2 => ?_)
  replace hs2 : Heap.SameBut (m + 1 : Nat) h1 h2 := hs2
  replace he2 : EnObj h2 (m + 1) m f0 f ((i : Int) + 1) old := he2
  show wpAny _ _ (setField (.ref (m + 1 : Nat)) 4 .none >>= _) _ _ ⟨h2, gg, d, tk1 + 1, os⟩
  refine wpAny_bind (wpAny_setField_rec he2 (by simp) fun h3 he3 hs3 => ?_)
  replace hs3 : Heap.SameBut (m + 1 : Nat) h2 h3 := hs3
  replace he3 : EnObj h3 (m + 1) m f0 f ((i : Int) + 1) old := he3
  show wpAny _ _ (newTuple [.int i tk1, u] >>= _) _ _ ⟨h3, gg, d, tk1 + 1, os⟩
  refine wpAny_bind (wpAny_newTuple ?_)
  have hsz : h3.objs.size = hp.objs.size := by rw [hs3.1, hs2.1, hs1.1]
  have ex : ((i + 1 : Nat) : Int) = (i : Int) + 1 := by omega
  have he4 : EnObj (h3.push { cls := .type "tuple", data := .seq #[.int i tk1, u] }) (m + 1) m f0 f ((i : Int) + 1) old := Heap.get?_push_of_some _ he3
  have ht4 : TupAt (h3.push { cls := .type "tuple", data := .seq #[.int i tk1, u] }) hp.objs.size #[.int i tk1, u] := by rw [← hsz]; exact Heap.get?_push_size _ rfl
  have hk4 : ∀ (c : Nat) o, c ≠ m → c ≠ m + 1 → hp.get? c = some o → (h3.push { cls := .type "tuple", data := .seq #[.int i tk1, u] }).get? c = some o := fun c o c1 c2 e =>
    Heap.get?_push_of_some _ (hs3.extBut _ _ c2 (hs2.extBut _ _ c2 (hs1.extBut _ _ c1 e)))
  have st4 : sk.at m (i + 1) (h3.push { cls := .type "tuple", data := .seq #[.int i tk1, u] }) :=
    st1.over' fun o e => Heap.get?_push_of_some _ (hs3.extBut _ _ (Nat.ne_of_lt (Nat.lt_succ_self _)) (hs2.extBut _ _ (Nat.ne_of_lt (Nat.lt_succ_self _)) e))
  generalize h3.push { cls := .type "tuple", data := .seq #[.int i tk1, u] } = h4 at he4 ht4 hk4 st4
  show wpAny _ _ (Builtin.SmallTypes.ownedTupleIsFree (.ref (m + 1 : Nat)) >>= _) _ _ ⟨h4, gg, d, tk1 + 1, os⟩
  rw [hsz]
  clear he3 hs3 he2 hs2 he1 hs1 st1 hsz h3 h2 h1
  refine wpAny_bind (efree_any (s := ⟨h4, gg, d, tk1 + 1, os⟩) he4 hf ?_ fun h5 he5 hs5 => ?_)
  · simp only [if_true]
    refine wpAny_bind (wpAny_rule ?_)
    refine wpAny_bind (wpAny_field he4 rfl (x := old) rfl ?_)
    refine wpAny_bind (wpAny_setField_rec he4 (by simp) fun h5 he5 hs5 => ?_)
    replace he5 : EnObj h5 (m + 1) m f0 f ((i : Int) + 1) u := he5
    show wpAny _ _ (Builtin.SmallTypes.ownedTupleHandOut (.ref (m + 1 : Nat)) (.ref hp.objs.size) >>= _) _ _ ⟨h5, gg, d, tk1 + 1, os⟩
    refine wpAny_bind ?_
    unfold Builtin.SmallTypes.ownedTupleHandOut
    refine wpAny_bind (wpAny_setField_rec he5 (by simp) fun h6 he6 hs6 => ?_)
    replace he6 : EnObj h6 (m + 1) m (rawInt hp.objs.size) f ((i : Int) + 1) u := he6
    refine wpAny_setField_rec he6 (by simp) fun h7 he7 hs7 => ?_
    replace he7 : EnObj h7 (m + 1) m (rawInt hp.objs.size) false ((i : Int) + 1) u := he7
    have up : Heap.ExtBut (m + 1 : Nat) h4 h7 := fun c o hc e => hs7.extBut _ _ hc (hs6.extBut _ _ hc (hs5.extBut _ _ hc e))
    refine wpAny_bind (wpAny_letGo (wpAny_pure ⟨_, rfl, hQ u tk1 h7 _ pu ⟨⟨rawInt hp.objs.size, false, u, by rw [ex]; exact he7, .inr ⟨_, rfl⟩⟩, ?_⟩ (up _ _ (Nat.ne_of_gt hel) ht4) fun c o c1 c2 e => up _ _ c2 (hk4 c o c1 c2 e)⟩))
    exact st4.over' fun o e => up _ _ (Nat.ne_of_lt (Nat.lt_succ_self _)) e
  · simp only [Bool.false_eq_true, if_false]
    have up : Heap.ExtBut (m + 1 : Nat) h4 h5 := fun c o hc e => hs5.extBut _ _ hc e
    refine wpAny_pure ⟨_, rfl, hQ u tk1 h5 _ pu ⟨⟨f0, true, old, by rw [ex]; exact he5, hf⟩, ?_⟩ (up _ _ (Nat.ne_of_gt hel) ht4) fun c o c1 c2 e => up _ _ c2 (hk4 c o c1 c2 e)⟩
    exact st4.over' fun o e => up _ _ (Nat.ne_of_lt (Nat.lt_succ_self _)) e
theorem enext_item {m i : Nat} {sk : Sk} {P : Value → Prop} {Q : Option Value → Shared → Prop} (Z : ESt m sk i s.heap) (g : sk.gives s.heap i P)
    (hQ : ∀ u t h' tk, P u → ESt m sk (i + 1) h' → TupAt h' s.heap.objs.size #[.int i t, u] → (∀ (c : Nat) o, c ≠ m → c ≠ m + 1 → s.heap.get? c = some o → h'.get? c = some o) → Q (some (.ref s.heap.objs.size)) { s with heap := h', toks := tk }) :
    wpAny (model prog w) A (pyNext (.ref (m + 1 : Nat))) Q E s := by
  have hT : s.TypeIs (.ref (m + 1 : Nat)) "enumerate" := let ⟨f0, f, old, hz, _⟩ := Z.e; ⟨_, hz, rfl⟩
  unfold pyNext
  exact wpAny_bind (wpAny_attempt (wpAny_callSpecial?_slot (name := Str.ofString "__next__") hT F.slot_enumerate_next
    (wpAny_call_entry F.slot_enumerate_next hT F.entry_enumerate_next (enum_item Z g fun u t h' tk a b c d => wpAny_pure (hQ u t h' tk a b c d)) (F.args_enumerate_next_1 _))))
theorem enext_end {m i : Nat} {sk : Sk} {Q : Option Value → Shared → Prop} (hh : A.handled = none) (Z : ESt m sk i s.heap) (ge : sk.ends s.heap i)
    (hQ : ∀ h', Heap.ExtBut m s.heap h' → Q none { s with heap := h' }) : wpAny (model prog w) A (pyNext (.ref (m + 1 : Nat))) Q E s := by
  obtain ⟨f0, f, old, he, hf⟩ := Z.e
  have hT : s.TypeIs (.ref (m + 1 : Nat)) "enumerate" := ⟨_, he, rfl⟩
  unfold pyNext
  refine wpAny_bind (wpAny_attempt (wpAny_callSpecial?_slot (name := Str.ofString "__next__") hT F.slot_enumerate_next
    (wpAny_call_entry F.slot_enumerate_next hT F.entry_enumerate_next ?_ (F.args_enumerate_next_1 _))))
  show wpAny _ _ (field (.ref (m + 1 : Nat)) 2 >>= _) _ _ _
  refine wpAny_bind (wpAny_field he rfl (x := .ref m) rfl ?_)
  refine wpAny_bind (draw_end hh Z.it ge fun h' x he' hx' => ?_)
  obtain ⟨o, ho, hc⟩ := hx'
  refine wpAny_bind (wpAny_isInstance (T := "StopIteration") (b := true) ⟨o, ho, hc⟩ isSubtype_stop ?_)
  exact wpAny_pure (hQ _ he')
theorem enum_go {tg : Expr} {m i : Nat} {sk : Sk} {T : Addr} {Q : Unit → Shared → Prop} (Z : ESt m sk i s.heap)
    (hQ : ∀ h', ESt m sk i h' → Heap.SameBut (m + 1 : Nat) s.heap h' → Q () { s with heap := h' }) : wpAny (model prog w) A (letOwnedTupleGo tg (.ref (m + 1 : Nat)) (.ref T)) Q E s := by
  obtain ⟨f0, f, old, hz, hf⟩ := Z.e
  have q0 : Q () s := hQ s.heap Z (Heap.SameBut.refl _ _)
  have q1 : wpAny (model prog w) A (do
      let o ← load (m + 1 : Nat)
      match o.cls, o.data with
      | .type n, .fields vs =>
        if ["enumerate", "zip", "dict_itemiterator", "dict_reverseitemiterator", "odict_iterator", "itertools.zip_longest", "itertools.pairwise"].contains n && vs[0]? == some (rawInt T) then
          rule "for.unpacks-the-owned-tuple"
          updateField (m + 1 : Nat) 0 .none
      | _, _ => pure ()) Q E s := by
    refine wpAny_bind (wpAny_load hz ?_)
    show wpAny _ _ (if (true && (#[f0, Value.bool f, .ref m, rawInt i, .none, old] : Array Value)[0]? == some (rawInt T)) = true then _ else _) _ _ _
    by_cases hc : (true && (#[f0, Value.bool f, .ref m, rawInt i, .none, old] : Array Value)[0]? == some (rawInt T)) = true
    · rw [if_pos hc]
      refine wpAny_bind (wpAny_rule ?_)
      show wpAny _ _ (setField (.ref (m + 1 : Nat)) 0 .none) Q E s
      refine wpAny_setField_rec hz (by simp) fun h' hz' hs' => hQ h' ?_ hs'
      exact ⟨⟨.none, f, old, hz', .inl rfl⟩, Z.it.over' fun o e => hs'.extBut _ _ (Nat.ne_of_lt (Nat.lt_succ_self _)) e⟩
    · rw [if_neg hc]
      exact wpAny_pure q0
  unfold letOwnedTupleGo
  cases tg <;> first
    | exact wpAny_pure q0
    | exact q1
theorem iter_enum {m i : Nat} {sk : Sk} {Q : Value → Shared → Prop} (Z : ESt m sk i s.heap) (h : Q (.ref (m + 1 : Nat)) s) : wpAny (model prog w) A (pyIter (.ref (m + 1 : Nat))) Q E s := by
  have hT : s.TypeIs (.ref (m + 1 : Nat)) "enumerate" := let ⟨f0, f, old, hz, _⟩ := Z.e; ⟨_, hz, rfl⟩
  refine wpAny_pyIter_slot hT F.slot_enumerate_iter (wpAny_call_entry F.slot_enumerate_iter hT F.entry_enumerate_iter ?_ (F.args_enumerate_iter_1 _))
  show wpAny _ _ (ret (.ref (m + 1 : Nat))) _ _ s
  exact wpAny_pure ⟨_, rfl, "enumerate", _, hT, F.slot_enumerate_next.lookup, h⟩
end
open PySem.AutoSeq1 (wpAny_loadPart') in
theorem meets_enumT (t : Addr) (o : Obj) (items : Array Value) :
    Meets (Builtin.«enumerate.__new__» ⟨[.type "enumerate", .ref t], []⟩) (fun _ R s => s.heap.get? t = some o ∧ s.heap.IsTuple t items ∧
      R (.ok (.ret (.ref (s.heap.push { cls := .type "tuple_iterator", data := .fields #[.ref t, .int 0 0] }).objs.size)))
        { s with heap := (s.heap.push { cls := .type "tuple_iterator", data := .fields #[.ref t, .int 0 0] }).push { cls := .type "enumerate", data := .fields #[.none, .bool false, .ref s.heap.objs.size, rawInt 0, .none, .none] } }) :=
  .of_wp fun prog w A R s h => by
    obtain ⟨hp, g, d, tk, os⟩ := s
    obtain ⟨hl, hL, h⟩ := h
    have hsub := sub_enumerate
    wp_walk using wpAny_loadPart' hl
    refine wpAny_stack_any fun st => wpAny_pure ?_
    split
    · rename_i c _ _ _ _ _
      cases (c == Value.type "enumerate")
      · wp_walk using wpAny_loadPart' hl, wpAny_pyIter_tuple hL
        exact ⟨_, rfl, h⟩
      · wp_walk using wpAny_loadPart' hl, wpAny_pyIter_tuple hL
        exact ⟨_, rfl, h⟩
    · wp_walk using wpAny_loadPart' hl, wpAny_pyIter_tuple hL
      exact ⟨_, rfl, h⟩
section
variable {prog : Program} {w : World} {A : Around} {E : Value → Shared → Prop} {s : Shared}
theorem call_enumN {sk : Sk} {u : Value} {Q : Value → Shared → Prop} (p : sk.of u s.heap)
    (h : ∀ h', ESt s.heap.objs.size sk 0 h' → (∀ b o, s.heap.get? b = some o → h'.get? b = some o) → Q (.ref (s.heap.objs.size + 1 : Nat)) { s with heap := h' }) :
    wpAny (model prog w) A (call (.type "enumerate") [u]) Q E s := by
  cases sk with
  | lst a =>
    obtain ⟨rfl, its, l⟩ := p
    exact call_enumerate_list l fun h' he hit _ k => h h' ⟨⟨_, _, _, he, .inl rfl⟩, hit⟩ k
  | asc x t =>
    obtain ⟨rfl, ha⟩ := p
    refine call_enumerate_str fun h' he hit _ k => h h' ⟨⟨_, _, _, he, .inl rfl⟩, ?_⟩ k
    rw [show strIterType x = "str_ascii_iterator" by simp [strIterType, ha]] at hit
    exact hit
  | wid x t =>
    obtain ⟨rfl, ha⟩ := p
    refine call_enumerate_str fun h' he hit _ k => h h' ⟨⟨_, _, _, he, .inl rfl⟩, ?_⟩ k
    rw [show strIterType x = "str_iterator" by simp [strIterType, ha]] at hit
    exact hit
  | tup a =>
    obtain ⟨rfl, its, l⟩ := p
    obtain ⟨o, ho, hc, n, hd⟩ := id l
    refine callType_new F.called_enumerate (by decide) (F.typeCall_enumerate_1 _) (F.newCall_enumerate_1 _) (fun obj => F.args_object_init_2 obj _) F.entry_enumerate_new (meets_enumT a o its) ⟨ho, l, ?_⟩
    have hz : (s.heap.push { cls := .type "tuple_iterator", data := .fields #[.ref a, .int 0 0] }).objs.size = s.heap.objs.size + 1 := Heap.size_push ..
    have he := Heap.get?_push_size (s.heap.push { cls := .type "tuple_iterator", data := .fields #[.ref a, .int 0 0] })
      (o := { cls := .type "enumerate", data := .fields #[.none, .bool false, .ref s.heap.objs.size, rawInt 0, .none, .none] }) rfl
    show _ ∧ _
    rw [hz] at he ⊢
    exact ⟨⟨_, he, rfl⟩, h _ ⟨⟨_, _, _, he, .inl rfl⟩, ⟨_, Heap.get?_push_of_some _ (Heap.get?_push_size _ rfl), rfl, rfl⟩⟩ fun b o x => Heap.get?_push_of_some _ (Heap.get?_push_of_some _ x)⟩
end

/-- the thing as it stands at each turn, each item in a new pair -/
def ItnE (K : PySem.W.Frag) (sv : Sv) : It :=
  ⟨fun i H => ∃ xs x, sv.has K H xs ∧ xs[i]? = some x,
    fun i H v H' => ∃ T x, v = .ref T ∧ H T = none ∧ H' = upd H T (.tup [.int (i : Nat), x]) ∧ ∀ ys, sv.has K H ys → ys[i]? = some x,
    fun i H => ∃ xs, sv.has K H xs ∧ xs.length ≤ i⟩
theorem turn_enumN {P : Program} {w : World} {K : PySem.W.Frag} {tg : Expr} {m : Nat} {sv : Sv} {sk : Sk} (hr : Skv sv sk) :
    Turn P w K tg (ItnE K sv) [(m : Addr), m + 1] (m + 1 : Nat) (fun i h => ESt m sk i h) where
  mem := by simp
  obj := fun i h st c hc => by
    have e' : c = m ∨ c = m + 1 := by simpa using hc
    rcases e' with rfl | rfl
    · exact st.it.obj
    · obtain ⟨f0, f, old, hz, _⟩ := st.e
      exact ⟨_, hz, fun v q => nomatch q⟩
  keep := fun i h h' st k => by
    obtain ⟨f0, f, old, hz, hf⟩ := st.e
    exact ⟨⟨f0, f, old, k _ (by simp) _ hz, hf⟩, st.it.over' fun o e => k _ (by simp) o e⟩
  item := by
    intro X hP hw hK hc i pins s σ H E I hf st hg
    subst hP hw hK
    obtain ⟨xs, x, h1, h2⟩ := hg
    have hel : (m + 1 : Nat) < s.heap.objs.size := by
      obtain ⟨f0, f, old, hz, _⟩ := st.e
      exact Heap.lt_size hz
    refine enext_item st (sv_gives I hr h1 h2) fun u t h' tk ru Z hT k => ⟨_, rfl, enum_go (s := { s with heap := h', toks := tk }) Z fun h'' Z' sb => ?_⟩
    have hT2 : TupAt h'' s.heap.objs.size #[.int i t, u] := (sb.2 _ (Nat.ne_of_gt hel)).trans hT
    have new : ObjOk X.prog X.w (upd H s.heap.objs.size (.tup [.int (i : Nat), x])) h'' s.heap.objs.size (.tup [.int (i : Nat), x]) :=
      ⟨by show 2 ≤ sizeLine; decide, [.int i t, u], .cons ⟨_, rfl⟩ (.cons ru .nil), ⟨_, hT2, rfl, _, rfl⟩⟩
    have I1 : Inv X pins σ (upd H s.heap.objs.size (.tup [.int (i : Nat), x])) { s with heap := h'', toks := tk } :=
      I.turnedNew (t' := tk) (ch := [(m : Addr), m + 1]) (fun b ob hb q => (sb.2 b (fun z => hb (by simp [z]))).trans (k b ob (fun z => hb (by simp [z])) (fun z => hb (by simp [z])) q)) hf (Nat.le_refl _) new
    refine ⟨.ref s.heap.objs.size, _, I1, rfl, ⟨_, x, rfl, I.hok.fresh (Nat.le_refl _), rfl, fun ys hy => by rw [sv_inj I hy h1]; exact h2⟩, Z', fun b hb => ?_⟩
    have hb' : b < s.heap.objs.size := by
      have e' : b = m ∨ b = m + 1 := by simpa using hb
      rcases e' with rfl | rfl
      · exact Nat.lt_of_succ_lt hel
      · exact hel
    rw [upd_ne (Nat.ne_of_lt hb')]
    exact (hf b hb).1
  done := by
    intro X hP hw hK hc i pins s σ H E I hf st hg
    subst hP hw hK
    obtain ⟨xs, h1, h2⟩ := hg
    exact enext_end (I.ok.hd hc) st (sv_ends I hr h1 h2) fun h' k => ⟨rfl, I.turnedL (t' := s.toks) (ch := [(m : Addr), m + 1]) (fun c o hb q => k c o (fun z => hb (by simp [z])) q) hf⟩
  self := fun A i s Q E st h => iter_enum st h
def iEnumN (K : PySem.W.Frag) (ta : TA) : TI := fun σ H R => ta σ H fun vs H1 => ∃ sv xs, vs = [Sv.v sv] ∧ sv.has K H1 xs ∧ R (ItnE K sv) H1
theorem pi_enumN {X : Cx} {tg e : Expr} {ta : TA} {p pos : Pos} (hg : Gl X "enumerate") (hm : X.mg "enumerate" = none) (ha : PA X [e] ta) (hs : starEach [e] X.env = [(false, eval e X.env)] := by rfl) :
    PI X tg (.Call (.Name "enumerate" p) [e] [] pos) (iEnumN X.K ta) := by
  refine ⟨fun pins s σ H R I h => ?_⟩
  refine Call_ (ld_blt I hg hm boot_enumerate (PyProof.Rows.callWith_type1 (thn (ha.run pos pins s σ H _ I h) fun us s1 ⟨vs, H1, I1, r1, q1⟩ => ?_) hs rfl))
  obtain ⟨sv, xs, rfl, hq, q⟩ := q1
  cases r1 with
  | cons r rr =>
    cases rr
    obtain ⟨sk, hr, ho, _⟩ := sv_of I1 hq r
    refine call_enumN ho fun h' Z k => iter_enum (s := { s1 with heap := h' }) Z ?_
    have I2 : Inv X pins σ H1 { s1 with heap := h' } := I1.kept (t' := s1.toks) k
    refine ⟨_, [(s1.heap.objs.size : Addr), s1.heap.objs.size + 1], _, _, H1, rfl, I2, turn_enumN hr, Z, fun b hb => ?_, q⟩
    have hle : s1.heap.objs.size ≤ b := by
      have e' : b = s1.heap.objs.size ∨ b = s1.heap.objs.size + 1 := by simpa using hb
      rcases e' with rfl | rfl
      · exact Nat.le_refl _
      · exact Nat.le_add_right _ _
    exact I1.fpOk hle (I1.hok.fresh hle)

/-! ### walks -/
theorem walk_enumN {K : PySem.W.Frag} {sv : Sv} {xs : List V} : Walk (ItnE K sv) xs.length (fun H => sv.has K H xs) (YPair (fun i => some (.int (i : Nat))) (fun i => xs[i]?)) := by
  refine ⟨fun i _ hi q => ⟨xs, xs[i], q, by simp [hi]⟩, fun _ q => ⟨xs, q, Nat.le_refl _⟩, fun i H v H' _ q y => ?_⟩
  obtain ⟨T, x, h1, h2, h3, h4⟩ := y
  exact ⟨T, .int (i : Nat), x, h1, h2, h3, rfl, h4 xs q⟩
/-- a new tuple of the i-th of each -/
def YTup (xss : List (List V)) : Nat → Hp → V → Hp → Prop := fun i H v H' => ∃ T xs, v = .ref T ∧ H T = none ∧ H' = upd H T (.tup xs) ∧ xs.length = xss.length ∧ ∀ (j : Nat) ys, xss[j]? = some ys → xs[j]? = ys[i]?
/-- all of them are there -/
def Alls (K : PySem.W.Frag) (ss : List Sv) (xss : List (List V)) (H : Hp) : Prop := ss.length = xss.length ∧ ∀ (j : Nat) s xs, ss[j]? = some s → xss[j]? = some xs → Sv.has K H s xs
theorem walk_zipN {K : PySem.W.Frag} {ss : List Sv} {xss : List (List V)} {n : Nat} (hn : ∀ xs, xs ∈ xss → xs.length = n) (h0 : 0 < xss.length) : Walk (ItzN K ss) n (fun H => Alls K ss xss H) (YTup xss) := by
  have atx : ∀ {j : Nat} {xs : List V}, xss[j]? = some xs → xs.length = n := fun e => hn _ (List.mem_of_getElem? e)
  refine ⟨fun i H hi q j s e => ?_, fun H q => ⟨0, by rw [q.1]; exact h0, fun s e => ?_, fun j s z => absurd z (Nat.not_lt_zero _)⟩, fun i H v H' hi q y => ?_⟩
  · have hj : j < xss.length := by rw [← q.1]; exact len_of e
    have e2 := List.getElem?_eq_getElem hj
    have hl := atx e2
    exact ⟨_, _, q.2 j s _ e e2, List.getElem?_eq_getElem (by omega)⟩
  · have e2 := List.getElem?_eq_getElem h0
    exact ⟨_, q.2 0 s _ e e2, by rw [atx e2]; exact Nat.le_refl _⟩
  · obtain ⟨T, xs, h1, h2, h3, h4, h5⟩ := y
    refine ⟨T, xs, h1, h2, h3, by rw [h4, q.1], fun j ys e => ?_⟩
    have hj : j < ss.length := by rw [q.1]; exact len_of e
    have e2 := List.getElem?_eq_getElem hj
    exact h5 j _ ys e2 (q.2 j _ ys e2 e)
/-- two of them -/
theorem walk_zip2 {K : PySem.W.Frag} {s1 s2 : Sv} {xs ys : List V} (hl : xs.length = ys.length) : Walk (ItzN K [s1, s2]) xs.length (fun H => s1.has K H xs ∧ s2.has K H ys) (YPair (fun i => xs[i]?) (fun i => ys[i]?)) := by
  refine (walk_zipN (K := K) (ss := [s1, s2]) (xss := [xs, ys]) (n := xs.length) (fun zs h => ?_) (Nat.succ_pos _)).mono (fun H h => ⟨rfl, fun j s zs e1 e2 => ?_⟩) (fun i H x H' hi h y => ?_)
  · rcases List.mem_cons.mp h with rfl | h
    · rfl
    · rw [List.mem_singleton.mp h, hl]
  · match j with
    | 0 => cases e1; cases e2; exact h.1
    | 1 => cases e1; cases e2; exact h.2
    | j + 2 => cases e1
  · obtain ⟨T, zs, h1, h2, h3, h4, h5⟩ := y
    have a := h5 0 xs rfl
    have b := h5 1 ys rfl
    have hx := List.getElem?_eq_getElem hi
    have hy := List.getElem?_eq_getElem (show i < ys.length by omega)
    rw [hx] at a
    rw [hy] at b
    obtain ⟨z1, z2, rfl⟩ : ∃ z1 z2, zs = [z1, z2] := by
      match zs, h4 with
      | [z1, z2], _ => exact ⟨z1, z2, rfl⟩
    have a' : z1 = xs[i] := Option.some.inj a
    have b' : z2 = ys[i] := Option.some.inj b
    exact ⟨T, z1, z2, h1, h2, h3, by rw [a']; exact hx, by rw [b']; exact hy⟩
end LZ

set_option Elab.async false
set_option linter.all false
set_option maxRecDepth 100000
set_option maxHeartbeats 2000000
/-! LPR: comprehensions whose items are told by a relation that new objects keep; two generators; s.index(t) that is found. -/
namespace LP
open PySem PySem.Spec L2
open PyProof.Rows hiding St signs

/-- all but lists stays -/
def NL (H H' : Hp) : Prop := ∀ b o, (∀ xs, o ≠ HO.lst xs) → H b = some o → H' b = some o
theorem Same.nl {H H' : Hp} (h : Same H H') : NL H H' := fun b o _ e => h b o e
theorem NL.refl (H : Hp) : NL H H := fun _ _ _ e => e
theorem NL.trans {A B C : Hp} (h : NL A B) (k : NL B C) : NL A C := fun b o n e => k b o n (h b o n e)
theorem NL.put {H : Hp} {a : Addr} {xs ys : List V} (h : H a = some (.lst xs)) : NL H (upd H a (.lst ys)) := fun b o n e => by
  rw [upd_ne (fun z => ?_)]
  · exact e
  · rw [z, h] at e
    cases e
    exact n xs rfl
theorem NL.tup {K : PySem.W.Frag} {H H' : Hp} {a : Addr} {xs : List V} (e : NL H H') (h : SqT K H a xs) : SqT K H' a xs := by
  rcases h with (h | ⟨o, h⟩) | h
  · exact .inl (.inl (e _ _ (fun _ z => nomatch z) h))
  · exact .inl (.inr ⟨o, e _ _ (fun _ z => nomatch z) h⟩)
  · exact .inr h
/-- the list that is being written is new -/
theorem Same.lay {H H' : Hp} {D : Addr} {o : HO} (h : Same H H') (hD : H D = none) : Same H (upd H' D o) := fun b u e => by
  rw [upd_ne (ne_of_none e hD)]
  exact h b u e
theorem lc_rel {J : It} {n : Nat} {G : Hp → Prop} {Y : Nat → Hp → V → Hp → Prop} (W : Walk J n G Y) {g : TG} {te : TE} {vs : List Nat} {σ : St} {H : Hp} {Q : VK} (Rl : Nat → V → Hp → Prop)
    (mono : ∀ i y H1 H2, NL H1 H2 → Rl i y H1 → Rl i y H2) (hG : ∀ H1, Same H H1 → G H1) (hn : n ≤ 1000000)
    (he : ∀ i x H1 H2, i < n → Same H H1 → Y i H1 x H2 → ∀ R : VK, (∀ y H3, Same H1 H3 → Rl i y H3 → R y H3) → g x (wipe σ vs) H2 fun σ2 H3 => wipe σ2 vs = wipe σ vs ∧ te σ2 H3 R)
    (q : ∀ p ys H2, H p = none → Same H H2 → H2 p = some (.lst ys) → ys.length = n → (∀ i y, ys[i]? = some y → Rl i y H2) → Q (.ref p) H2) : LcLoop J g tYes te vs σ H Q := by
  intro D hD
  obtain ⟨Pv, hP⟩ : ∃ Pv : Nat → Hp → Prop, ∀ i H', Pv i H' ↔ (Same H H' ∧ ∃ ys, H' D = some (.lst ys) ∧ ys.length = i ∧ ∀ (j : Nat) y, ys[j]? = some y → Rl j y H') := ⟨_, fun _ _ => Iff.rfl⟩
  refine lc_it W Pv ((hP _ _).mpr ⟨Same.new hD, [], upd_same, rfl, fun j y z => by simp at z⟩) (fun i H' _ p => hG H' ((hP _ _).mp p).1) ?_ ?_
  · intro i x H1 H2 hi p hy
    obtain ⟨sm, ys, hd, hl, hr⟩ := (hP _ _).mp p
    refine he i x H1 H2 hi sm hy (fun y H4 => ∃ acc, H4 D = some (.lst acc) ∧ acc.length < sizeLine ∧ Pv (i + 1) (upd H4 D (.lst (acc ++ [y])))) fun y H3 s3 r => ⟨ys, s3 _ _ hd, ?_, (hP _ _).mpr ?_⟩
    · exact Nat.lt_of_le_of_lt (by omega : ys.length ≤ 1000000) (by decide)
    · have nl : NL H3 (upd H3 D (.lst (ys ++ [y]))) := NL.put (s3 _ _ hd)
      refine ⟨Same.lay (sm.trans s3) hD, ys ++ [y], upd_same, by rw [List.length_append, hl]; rfl, fun j z e => ?_⟩
      rw [List.getElem?_append] at e
      by_cases hj : j < ys.length
      · rw [if_pos hj] at e
        exact mono j z _ _ ((Same.nl s3).trans nl) (hr j z e)
      · rw [if_neg hj] at e
        have hz : j - ys.length = 0 := by
          have := (List.getElem?_eq_some_iff.mp e).1
          rw [List.length_singleton] at this
          omega
        rw [hz] at e
        have ej : j = i := by omega
        rw [ej]
        have ey : y = z := Option.some.inj e
        rw [← ey]
        exact mono i y _ _ nl r
  · intro H' p
    obtain ⟨sm, ys, hd, hl, hr⟩ := (hP _ _).mp p
    exact q D ys H' hD sm hd hl hr
/-- items that are values: the i-th is f i -/
theorem lc_val {J : It} {n : Nat} {G : Hp → Prop} {Y : Nat → Hp → V → Hp → Prop} (W : Walk J n G Y) {g : TG} {te : TE} {vs : List Nat} {σ : St} {H : Hp} {Q : VK} (f : Nat → V)
    (hG : ∀ H1, Same H H1 → G H1) (hn : n ≤ 1000000)
    (he : ∀ i x H1 H2, i < n → Same H H1 → Y i H1 x H2 → ∀ R : VK, (∀ H3, Same H1 H3 → R (f i) H3) → g x (wipe σ vs) H2 fun σ2 H3 => wipe σ2 vs = wipe σ vs ∧ te σ2 H3 R)
    (q : ∀ p H2, H p = none → Same H H2 → H2 p = some (.lst ((List.range n).map f)) → Q (.ref p) H2) : LcLoop J g tYes te vs σ H Q := by
  refine lc_rel W (fun i y _ => y = f i) (fun _ _ _ _ _ h => h) hG hn (fun i x H1 H2 hi sm hy R hR => he i x H1 H2 hi sm hy R fun H3 s3 => hR _ _ s3 rfl) fun p ys H2 hp sm hl hlen hr => q p H2 hp sm ?_
  rw [hl]
  congr 2
  refine List.ext_getElem? fun j => ?_
  rw [List.getElem?_map]
  by_cases hj : j < n
  · rw [List.getElem?_range hj]
    have e : ys[j]? = some ys[j] := List.getElem?_eq_getElem (by omega)
    rw [e, hr j _ e]
    rfl
  · rw [List.getElem?_eq_none (by omega), List.getElem?_eq_none (by rw [List.length_range]; omega)]
    rfl
/-- two generators, the test of each item true: all(..) of it -/
def Lc2Loop (J : It) (g : TG) (wi1 : TI) (g1 : TG) (te : TE) (vs vs1 : List Nat) (σ : St) (H1 : Hp) (Q : VK) : Prop := ∀ D, H1 D = none → ∃ W : Nat → Nat → Hp → Prop, (∃ m, W 0 m (upd H1 D (.lst []))) ∧ ∀ i m H, W i m H →
  (J.stop i H ∧ Q (.ref D) H) ∨ (J.go i H ∧ ∃ Nx : Hp → Prop, (∀ H', Nx H' → ∃ m', m' < m ∧ W (i + 1) m' H') ∧ ∀ x H', J.yld i H x H' → g x (wipe σ vs) H' fun σ2 H2 => wipe σ2 vs = wipe σ vs ∧ tYes σ2 H2 fun b H3 =>
    if b = true then wi1 σ2 H3 fun J1 H4 => ∃ W1 : Nat → Nat → Hp → Prop, (∃ m, W1 0 m H4) ∧ ∀ j k H, W1 j k H →
      (J1.stop j H ∧ Nx H) ∨ (J1.go j H ∧ ∃ Nx1 : Hp → Prop, (∀ H', Nx1 H' → ∃ k', k' < k ∧ W1 (j + 1) k' H') ∧ ∀ x H', J1.yld j H x H' → g1 x (wipe σ2 vs1) H' fun σ3 H5 => wipe σ3 vs1 = wipe σ2 vs1 ∧ tYes σ3 H5 fun b H6 =>
        if b = true then te σ3 H6 fun y H7 => ∃ acc, H7 D = some (.lst acc) ∧ acc.length < sizeLine ∧ Nx1 (upd H7 D (.lst (acc ++ [y]))) else Nx1 H6)
    else Nx H3)
theorem tLc2_eq (wi : TI) (g : TG) (wi1 : TI) (g1 : TG) (te : TE) (vs vs1 : List Nat) (σ : St) (H : Hp) (Q : VK) : tLc2 wi g tYes wi1 g1 tYes te vs vs1 σ H Q = wi σ H fun J H1 => Lc2Loop J g wi1 g1 te vs vs1 σ H1 Q := rfl
/-- every item is v -/
theorem lc2_all {J : It} {k : Nat} {G : Hp → Prop} {xs : List V} (W : Walk J xs.length G (YAt xs)) {j j1 : Nat} {wi1 : TI} {te : TE} {vs vs1 : List Nat} {σ : St} {H : Hp} {Q : VK} (v : V)
    (hG : ∀ H1, Same H H1 → G H1) (hn : xs.length * k ≤ 1000000) (hw : ∀ x, wipe ((wipe σ vs).set j (some x)) vs = wipe σ vs) (hw1 : ∀ x y, wipe ((wipe ((wipe σ vs).set j (some x)) vs1).set j1 (some y)) vs1 = wipe ((wipe σ vs).set j (some x)) vs1)
    (he : ∀ x, x ∈ xs → ∀ H1, Same H H1 → ∀ R : It → Hp → Prop, (∀ J1 G1 ys, Walk J1 ys.length G1 (YAt ys) → ys.length = k → (∀ H5, Same H H5 → G1 H5) →
      (∀ y, y ∈ ys → ∀ H5, Same H H5 → ∀ R' : VK, (∀ H7, Same H5 H7 → R' v H7) → te ((wipe ((wipe σ vs).set j (some x)) vs1).set j1 (some y)) H5 R') → R J1 H1) → wi1 ((wipe σ vs).set j (some x)) H1 R)
    (q : ∀ p H2, H p = none → Same H H2 → H2 p = some (.lst (List.replicate (xs.length * k) v)) → Q (.ref p) H2) : Lc2Loop J (gName j) wi1 (gName j1) te vs vs1 σ H Q := by
  intro D hD
  obtain ⟨Pv, hP⟩ : ∃ Pv : Nat → Hp → Prop, ∀ i H', Pv i H' ↔ (Same H H' ∧ H' D = some (.lst (List.replicate (i * k) v))) := ⟨_, fun _ _ => Iff.rfl⟩
  refine ⟨fun i m H' => m = xs.length - i ∧ i ≤ xs.length ∧ Pv i H', ⟨xs.length, rfl, Nat.zero_le _, (hP _ _).mpr ⟨Same.new hD, by rw [Nat.zero_mul]; exact upd_same⟩⟩, ?_⟩
  rintro i m H1 ⟨rfl, hi, p⟩
  obtain ⟨sm, hd⟩ := (hP _ _).mp p
  by_cases hlt : i < xs.length
  · refine .inr ⟨W.goes i H1 hlt (hG H1 sm), Pv (i + 1), fun H' p' => ⟨xs.length - (i + 1), by omega, rfl, hlt, p'⟩, fun x H' y => ?_⟩
    obtain ⟨rfl, ex⟩ := W.yields i H1 x H' hlt (hG H1 sm) y
    refine ⟨hw x, he x (List.mem_of_getElem? ex) H' sm _ fun J1 G1 ys W1 hl hG1 hte => ?_⟩
    obtain ⟨P1, hP1⟩ : ∃ P1 : Nat → Hp → Prop, ∀ j' H'', P1 j' H'' ↔ (Same H H'' ∧ H'' D = some (.lst (List.replicate (i * k + j') v))) := ⟨_, fun _ _ => Iff.rfl⟩
    refine ⟨fun j' m' H'' => m' = ys.length - j' ∧ j' ≤ ys.length ∧ P1 j' H'', ⟨ys.length, rfl, Nat.zero_le _, (hP1 _ _).mpr ⟨sm, hd⟩⟩, ?_⟩
    rintro j' m' H2 ⟨rfl, hj, p1⟩
    obtain ⟨sm2, hd2⟩ := (hP1 _ _).mp p1
    by_cases hlt2 : j' < ys.length
    · refine .inr ⟨W1.goes j' H2 hlt2 (hG1 H2 sm2), P1 (j' + 1), fun H'' p'' => ⟨ys.length - (j' + 1), by omega, rfl, hlt2, p''⟩, fun y' H'' y2 => ?_⟩
      obtain ⟨rfl, ey⟩ := W1.yields j' H2 y' H'' hlt2 (hG1 H2 sm2) y2
      refine ⟨hw1 x y', hte y' (List.mem_of_getElem? ey) H'' sm2 _ fun H7 s7 => ⟨_, s7 _ _ hd2, ?_, (hP1 _ _).mpr ⟨Same.lay (sm2.trans s7) hD, ?_⟩⟩⟩
      · rw [List.length_replicate]
        refine Nat.lt_of_le_of_lt (?_ : i * k + j' ≤ 1000000) (by decide)
        have h1 : i * k + k ≤ xs.length * k := by
          have := Nat.mul_le_mul_right k (show i + 1 ≤ xs.length from hlt)
          rw [Nat.succ_mul] at this
          exact this
        omega
      · rw [upd_same, show i * k + (j' + 1) = (i * k + j') + 1 by omega, List.replicate_succ']
    · have e : j' = ys.length := by omega
      subst e
      refine .inl ⟨W1.stops H2 (hG1 H2 sm2), (hP _ _).mpr ⟨sm2, ?_⟩⟩
      rw [hd2, hl, Nat.succ_mul]
  · have e : i = xs.length := by omega
    subst e
    exact .inl ⟨W.stops H1 (hG H1 sm), q D H1 hD sm hd⟩

/-! ### s.index(t), found -/
def rIxOf : V → List V → Hp → VK → Prop := fun x xs H Q => ∃ (a b : Str) (k : Nat), x = .str a ∧ xs = [.str b] ∧ Txt.index0 a b = some k ∧ Q (.int (k : Nat)) H
theorem mt_ixOf {X : Cx} : MtR X "str.index" rIxOf := by
  intro pins s σ H x xs v us Q I rx rs h
  obtain ⟨a, b, k, rfl, rfl, hk, q⟩ := h
  obtain ⟨t, rfl⟩ := rx
  cases rs with
  | cons r1 rs =>
    cases rs
    obtain ⟨u, rfl⟩ := r1
    unfold Txt.index0 at hk
    cases e : Builtin.Str.occurrences a b 0 a.length 1 with
    | nil =>
      rw [e] at hk
      cases hk
    | cons k' rest =>
      rw [e] at hk
      cases hk
      exact PySem.SC.index e ⟨.int (k : Nat), H, I.tok _, ⟨_, rfl⟩, q⟩
end LP

set_option Elab.async false
set_option linter.all false
set_option maxRecDepth 100000
set_option maxHeartbeats 4000000
/-! LPE: errors of own classes, over any built-in one, with an own __init__ that keeps one thing; as values, caught. -/
namespace LP
open PySem PySem.Spec L2
open PyProof.Rows hiding St

/-- what making such an error asks of the list of its bases -/
structure Tl (B : String) (bm : List Value) : Prop where
  has : bm.contains (.type B) = true
  noA : bm.contains (.type "AttributeError") = false
  noN : bm.contains (.type "NameError") = false

section
variable {prog : Program} {w : World} {A : Around} {E : Value → Shared → Prop} {R : Result → Shared → Prop} {hp : Heap}
  {gs : Array GenState} {dr : Drawn} {tk : Nat} {os : OsState} {nm qn : Str} {C N : Addr} {bs bm bmB : List Value} {hdt : Bool}
  {sn : List Str} {sub : List Value} {ab : Bool} {col : Option Bool} {dd : Option Addr} {k0 k1 k2 k3 k5 : Option Value}
  {B newId initId : String} {us : List Value}

theorem Tl.cons (T : Tl B bm) : Tl B (.ref C :: bm) := by
  obtain ⟨h1, h2, h3⟩ := T
  constructor
  · rw [List.contains_cons, h1, Bool.or_true]
  · rw [List.contains_cons, h2]
    rfl
  · rw [List.contains_cons, h3]
    rfl

/-- B.__new__ may be called with the class -/
theorem new_checked (F : ExcBaseFacts B newId initId bmB) (T : Tl B bm) {Q : Unit → Shared → Prop}
    (hC : hp.get? C = some (excClassObj nm qn C N bs bm hdt sn sub ab col dd k0 k1 k2 k3 k5 newId))
    (hq : Q () ⟨hp, gs, dr, tk, os⟩) :
    wpAny (model prog w) A (checkBuiltinCall newId ⟨.ref C :: us, []⟩) Q E ⟨hp, gs, dr, tk, os⟩ := by
  have c1 := (T.cons (C := C)).has
  have c2 := F.noStar
  simp only [checkBuiltinCall, F.newKind, F.newSplit, F.newRow]
  repeat (first
    | refine wpAny_loadPart_at hC ?_
    | (refine wpAny_isSubtype_exc hC ?_; rw [c1])
    | refine wpAny_staticBase_exc hC ?_
    | refine wpAny_madeBy_exc hC ?_
    | simp only [bne_self_eq_false, Bool.false_eq_true, if_false]
    | wp_step)
  exact hq

/-- .. and lays the error -/
theorem new_made (F : ExcBaseFacts B newId initId bmB) (T : Tl B bm)
    (hC : hp.get? C = some (excClassObj nm qn C N bs bm hdt sn sub ab col dd k0 k1 k2 k3 k5 newId)) (hl : us.length ≤ sizeLine)
    (hq : R (.ok (.ret (.ref (hp.objs.size + 1))))
      ⟨(hp.push (PySem.W.kdv_tup us)).push (PySem.HandSPX.excO C hp.objs.size), gs, dr, tk, os⟩) :
    codeAny (model prog w) A (.builtin newId ⟨.ref C :: us, []⟩) R ⟨hp, gs, dr, tk, os⟩ := by
  have c0 := F.ends
  have c1 := (T.cons (C := C)).has
  have c2 := (T.cons (C := C)).noA
  have c3 := (T.cons (C := C)).noN
  refine codeAny_builtinAt F.entry ?_
  unfold Builtin.«BaseException.__new__»
  refine PySem.wpAt_bind ?_
  show PySem.wpAt _ _ _ (stack >>= _) _ _ _
  refine PySem.wpAt_bind (PySem.wpAt_stack fun p below => PySem.wpAt_of_wpAny ?_)
  wp_walk
  refine PySem.wpAt_of_wpAny ?_
  rw [F.owner]
  repeat (first
    | with_reducible refine wpAny_madeHere_exc F.canon hC ?_
    | with_reducible refine wpAny_loadPart_at hC ?_
    | (with_reducible refine wpAny_isSubtype_exc hC ?_; first | rw [c1] | rw [c2] | rw [c3])
    | wp_step)
  show R _ _
  rw [Heap.size_push]
  exact hq

/-- type.__call__ of the class: the error is laid, then its own __init__ runs -/
theorem own_typed (F : ExcBaseFacts B newId initId bmB) (T : Tl B bm) {fI : Addr} {Q : Fin → Shared → Prop}
    (hC : hp.get? C = some (excClassObj nm qn C N bs bm hdt sn sub ab col dd k0 k1 k2 k3 k5 newId))
    (hi : PySem.W.Looks (model prog w) hp (typeLookup (.ref C) "__init__") (some (.ref fI)))
    (hb : ∀ self, PySem.W.Looks (model prog w) hp (bindSpecial (.ref fI) self) (.ref fI, [self])) (hl : us.length ≤ sizeLine)
    (hq : codeAny (model prog w) A (.call (.ref fI) ⟨.ref (hp.objs.size + 1) :: us, []⟩)
      (fun r s' => match r with
        | .ok (.ret v) => v = .none ∧ Q (.done (.ret (.ref (hp.objs.size + 1)))) s'
        | .ok _ => False
        | .error e => E e s')
      ⟨(hp.push (PySem.W.kdv_tup us)).push (PySem.HandSPX.excO C hp.objs.size), gs, dr, tk, os⟩) :
    wpAny (model prog w) A (Builtin.«type.__call__» ⟨.ref C :: us, []⟩) Q E ⟨hp, gs, dr, tk, os⟩ := by
  repeat (first
    | with_reducible refine wpAny_loadPart_at hC ?_
    | with_reducible refine wpAny_madeBy_exc hC ?_
    | wp_step)
  refine codeAny_call_builtin_code (Code.quiet_builtin _ F.quiet) (new_checked F T hC ?_)
  refine new_made F T hC hl ?_
  show wpAny _ _ _ _ _ _
  have kk : ∀ b o, hp.get? b = some o →
      ((hp.push (PySem.W.kdv_tup us)).push (PySem.HandSPX.excO C hp.objs.size)).get? b = some o :=
    fun b o e => Heap.get?_push_of_some _ (Heap.get?_push_of_some _ e)
  have e1 := kk _ _ hC
  have e2 : ((hp.push (PySem.W.kdv_tup us)).push (PySem.HandSPX.excO C hp.objs.size)).get? (hp.objs.size + 1) =
      some (PySem.HandSPX.excO C hp.objs.size) := by heap_get
  have e3 : (Value.ref C :: bm).contains (.ref C) = true := by simp
  have i1 := hi.keeps kk
  have b1 := (hb (.ref (hp.objs.size + 1))).keeps kk
  unfold isInstance
  repeat (first
    | with_reducible refine wpAny_loadPart_at e2 ?_
    | (with_reducible refine wpAny_isSubtype_exc e1 ?_; rw [e3])
    | wp_step)
  show wpAny _ _ (typeLookup (.ref C) _) _ _ _
  refine i1.at ?_
  refine wpAny_holding (wpAny_bind (b1.at ?_))
  refine wpAny_bind (wpAny_call (codeAny_mono hq fun r s' z => ?_))
  rcases r with e | (v | _ | _ | _)
  · exact z
  all_goals first | exact z.elim | skip
  obtain ⟨rfl, z⟩ := z
  first
    | exact wpAny_pure (wpAny_pure z)
    | (wp_walk; exact z)

/-- C(..) -/
theorem own_called (F : ExcBaseFacts B newId initId bmB) (T : Tl B bm) {fI : Addr}
    (hC : hp.get? C = some (excClassObj nm qn C N bs bm hdt sn sub ab col dd k0 k1 k2 k3 k5 newId))
    (hi : PySem.W.Looks (model prog w) hp (typeLookup (.ref C) "__init__") (some (.ref fI)))
    (hb : ∀ self, PySem.W.Looks (model prog w) hp (bindSpecial (.ref fI) self) (.ref fI, [self])) (hl : us.length ≤ sizeLine)
    (hq : codeAny (model prog w) (A.under (.builtin "type.__call__" ⟨.ref C :: us, []⟩))
      (.call (.ref fI) ⟨.ref (hp.objs.size + 1) :: us, []⟩) (PySem.W.InitBack (hp.objs.size + 1) R)
      ⟨(hp.push (PySem.W.kdv_tup us)).push (PySem.HandSPX.excO C hp.objs.size), gs, dr, tk, os⟩) :
    codeAny (model prog w) A (.call (.ref C) ⟨us, []⟩) R ⟨hp, gs, dr, tk, os⟩ := by
  have f1 := tc_lookup
  have f2 := tc_bind (.ref C)
  have hTy : (⟨hp, gs, dr, tk, os⟩ : Shared).TypeIs (.ref C) "type" := ⟨_, hC, rfl⟩
  refine codeAny_of_tree ?_
  show wpAny _ _ (callAny (.ref C) _) _ _ _
  repeat (any_goals (first
    | assumption
    | with_reducible refine wpAny_loadPart_at hC ?_
    | wp_step))
  refine ⟨rfl, ?_⟩
  refine codeAny_call_builtin_at (Code.quiet_builtin _ (by decide +kernel)) entry_typeCall (wpAny_check_type_call_sub hC ?_)
  refine own_typed F T hC hi hb hl (codeAny_mono hq fun r s' z => ?_)
  rcases r with e | (v | _ | _ | _) <;> exact z
end

theorem store_KE : StoreFacts "KeyError" [.type "KeyError", .type "LookupError", .type "Exception", .type "BaseException", .type "object"]
    "object.__setattr__" "object" where
  mro := by kernel_rfl
  slot := .of (owner := "object") (n := "__setattr__")
    (by rw [typeLookup_type, builtinLookup_eq_fast]; kernel_rfl) (by decide +kernel) (by decide +kernel) (by decide +kernel)
    (by first
      | exact .inl (by decide +kernel)
      | exact .inr (by decide +kernel)) (by rw [isSubtype_type]; kernel_rfl)
  entry := PySem.F.entry_object_sa
  kind := by decide +kernel
  split := by decide +kernel
  hasOwner := by decide +kernel
  args := fun x y z => by
    unfold argsOk
    kernel_rfl
  passes := fun me => by kernel_rfl

/-- an own class of errors whose __init__ keeps one thing under the name f -/
structure Oc (K : PySem.W.Frag) (C : Addr) (f : Str) : Prop where
  made : ∃ (B newId initId : String) (bmB bm : List Value) (nm q : Str) (N : Addr) (bs : List Value) (sn : List Str)
    (sub : List Value) (ab : Bool) (col : Option Bool) (dd : Option Addr) (k0 k1 k2 k3 k5 : Option Value),
    ExcBaseFacts B newId initId bmB ∧ Tl B bm ∧
    K.lookup C = some (excClassObj nm q C N bs bm true sn sub ab col dd k0 k1 k2 k3 k5 newId)
  sto : ∃ (B : String) (bmB : List Value), StoreFacts B bmB "object.__setattr__" "object" ∧ PySem.W.excOver K C bmB = true
  sa : PySem.W.findIn K (.ref C) "__setattr__" = some (some (.builtin "object.__setattr__"))
  exC : PySem.W.subIn K (.ref C) (.type "BaseException") = some true
  tyC : PySem.W.typeIn K (.ref C) = some (.type "type")
  kC : PySem.W.keepIn K (.ref C) = true
  hdC : PySem.W.hasDictIn K C = true
  no : PySem.W.findIn K (.ref C) f = some none

section
variable {X : Cx} {pins : List (Addr × Obj)} {σ : St} {H : Hp} {s : Shared} {a C dx : Addr} {f : Str} {y : V} {u : Value}
  {Q : Unit → Shared → Prop} {E : Value → Shared → Prop} {A : Around}
open PySem.Builtin PySem.Builtin.ObjectAttr in
/-- self.f = y: the error's dict is laid -/
theorem ost1 (T : Oc X.K C f) (I : Inv X pins σ H s) (e : H a = some (exo a C none)) (ry : RelV y u)
    (h : ∀ dx s', H dx = none → dx ≠ a → Inv X pins σ (upd (upd H dx (exd dx [(f, y)])) a (exo a C (some dx))) s' → Q () s') :
    wpAny (model X.prog X.w) A (setAttr (.ref a) f u) Q E s := by
  obtain ⟨t1, ho⟩ := exo_at I.hok e
  obtain ⟨B, bmB, SF, ov⟩ := T.sto
  have tk0 : PySem.W.takerIn X.K C f = some none := by
    unfold PySem.W.takerIn
    rw [T.no]
    rfl
  obtain ⟨cd, hc, hd'⟩ := PySem.W.any_some T.hdC
  obtain ⟨hp, g, d, t, os⟩ := s
  have KX : X.K.In hp := I.kIn
  refine PySem.W.set_plain KX (od := none) ⟨ho, rfl, rfl, trivial⟩ T.sa
    (PySem.W.osa_openX (od := none) SF KX ⟨ho, rfl, rfl, trivial⟩ ov tk0 fun b => ?_)
  have lt : a < hp.objs.size := Heap.lt_size ho
  refine wpAny_bind (wpAny_pure (wpAny_bind (PySem.W.instanceDict_exc (c2 := .none) ho (PySem.W.looks_clsIn KX hc) hd' ?_)))
  show wpAny _ _ (storeInDict hp.objs.size (.str f _) f u) _ _ _
  have n0 : ((hp.push (PySem.W.dictOf [] 0)).update a fun o => { o with dict := some hp.objs.size }).Ns hp.objs.size (fun _ => none) := by
    refine ⟨_, #[], _, (Heap.get?_update_ne _ _ _ _ (Nat.ne_of_gt lt)).trans (Heap.get?_push_at rfl rfl), rfl, ?_, fun _ => rfl⟩
    intro e he
    exact absurd he (by simp)
  refine PySem.HandSPX.store_in_new n0 fun h' tk' hn' hs => ?_
  have hxa : ((hp.push (PySem.W.dictOf [] 0)).update a fun o => { o with dict := some hp.objs.size }).get? a =
      some ({ cls := .ref C, dict := some hp.objs.size, data := .fields #[.ref t1, .none, .none, .none, .bool false, .none] } : Obj) :=
    Heap.get?_update_self _ (Heap.get?_push_of_some _ ho) rfl
  have hx : h'.get? a = some ({ cls := .ref C, dict := some hp.objs.size, data := .fields #[.ref t1, .none, .none, .none, .bool false, .none] } : Obj) :=
    (hs.2 a (Nat.ne_of_lt lt)).trans hxa
  have kk : ∀ b o, b ≠ a → hp.get? b = some o → h'.get? b = some o := fun b o hb q =>
    (hs.2 b (Nat.ne_of_lt (Heap.lt_size q))).trans ((Heap.get?_update_ne _ _ _ _ hb).trans (Heap.get?_push_of_some _ q))
  have hnd : H hp.objs.size = none := I.hok.fresh (Nat.le_refl _)
  have nd : ∀ {b : Addr} {o : Obj}, hp.get? b = some o → b ≠ hp.objs.size := fun q => Nat.ne_of_lt (Heap.lt_size q)
  have na : ∀ {b : Addr}, H b = none → b ≠ a := by
    intro b n z
    rw [z, e] at n
    cases n
  have U : Un X.fs [] H (upd (upd H hp.objs.size (exd hp.objs.size [(f, y)])) a (exo a C (some hp.objs.size))) hp h' := by
    constructor
    · intro b o q n _ _
      exact kk b o (na n) q
    · intro b o q n _ _
      exact ⟨o.slots, kk b o (na n) q⟩
    · intro b o q n _
      rw [upd_ne (na n), upd_ne (nd q)]
      exact n
    · intro b o q _
      by_cases hb : b = a
      · rw [hb]
        exact ⟨_, hx⟩
      · exact ⟨o, kk b o hb q⟩
    · intro b xs q
      rw [upd_ne (at_ne e q exo_tup), upd_ne (ne_of_none q hnd)]
      exact q
    · intro b o v q
      rw [upd_ne (at_ne e q exo_frz), upd_ne (ne_of_none q hnd)]
      exact q
    · intro b ps q
      refine ⟨#[], ?_⟩
      rw [upd_ne (at_ne e q exo_tbl), upd_ne (ne_of_none q hnd), q]
      simp
  refine h hp.objs.size _ hnd (Nat.ne_of_gt lt) (I.un (t' := tk') U ?_)
  intro b o q
  by_cases hb : b = a
  · subst hb
    rw [upd_same] at q
    cases q
    exact exo_ok hx
  rw [upd_ne hb] at q
  by_cases hd : b = hp.objs.size
  · subst hd
    rw [upd_same] at q
    cases q
    exact exd_ok hn' (relO_put (fs := []) ry fun g => True.intro)
  rw [upd_ne hd] at q
  refine (I.hok b o q).stay ?_ ?_ ?_
  · intro c v hc z
    refine kk c v ?_ z
    rcases hc with hc | hc
    · rw [hc]
      exact hb
    · exact at_ne e hc exo_own
  · intro c hc
    rw [upd_ne (at_ne e hc exo_own), upd_ne (ne_of_none hc hnd)]
    exact hc
  · intro c xs hc
    rw [upd_ne (at_ne e hc exo_tup), upd_ne (ne_of_none hc hnd)]
    exact hc
end

/-- self.f = e, of an error that is being made -/
def tOs1 (K : PySem.W.Frag) (f : Str) (to te : TE) : TS := fun D σ H => te σ H fun y H1 => to σ H1 fun x H2 =>
  ∃ a C : Addr, x = .ref a ∧ Oc K C f ∧ H2 a = some (exo a C none) ∧
    ∀ dx, H2 dx = none → dx ≠ a → D.nx σ (upd (upd H2 dx (exd dx [(f, y)])) a (exo a C (some dx)))
/-- what such an __init__ promises -/
def spIni (K : PySem.W.Frag) (C : Addr) (f : Str) : Sp := fun vs H Q _ => ∃ a y, vs = [.ref a, y] ∧ Oc K C f ∧ H a = some (exo a C none) ∧
  ∀ dx, H dx = none → dx ≠ a → Q .non (upd (upd H dx (exd dx [(f, y)])) a (exo a C (some dx)))
section
variable {X : Cx} {o e : Expr} {es : List Expr} {to te : TE} {ta : TA} {f x : Str} {p p' p1 p2 pos : Pos}
theorem ps_os1 (ho : PE X o to) (he : PE X e te) (hs : swapsWith e (some (.Attribute o f p')) pos.line X.env = pure false := by rfl) :
    PS X (.Assign [.Attribute o f p'] e pos) (tOs1 X.K f to te) := by
  constructor
  intro pins s σ H D I h
  refine plainObj_wpAny_Assign_Attribute (thn (he.run pins s σ H _ I h) ?_) hs
  rintro v s1 ⟨y, H1, I1, r1, q1⟩
  refine thn (ho.run pins s1 σ H1 _ I1 q1) ?_
  rintro u s2 ⟨x, H2, I2, r2, a, C, ex, T, ea, q⟩
  subst ex
  obtain rfl : u = Value.ref a := r2
  exact ost1 T I2 ea r1 fun dx s' n ne J => ⟨σ, _, J, q dx n ne⟩

/-- C(e) as a value -/
def tMkV (C : Addr) (f : Str) (ta : TA) : TE := fun σ H Q => ta σ H fun vs H1 => ∃ y, vs = [y] ∧
  ∀ a dx, H1 a = none → H1 dx = none → dx ≠ a → Q (.ref a) (upd (upd H1 dx (exd dx [(f, y)])) a (exo a C (some dx)))
/-- C(e), to be raised -/
def tMkR (C : Addr) (f : Str) (ta : TA) : St → Hp → XK → Prop := fun σ H Q => ta σ H fun vs H1 => ∃ y, vs = [y] ∧
  ∀ d, H1 d = none → Q (.ref C) (some d) (upd H1 d (.xd [(f, y)]))

theorem upd_shade {H : Hp} {a b : Addr} {o o1 o2 : HO} (h : b ≠ a) : upd (upd (upd H a o) b o1) a o2 = upd (upd H b o1) a o2 := by
  funext c
  by_cases h1 : c = a
  · rw [h1, upd_same, upd_same]
  rw [upd_ne h1, upd_ne h1]
  by_cases h2 : c = b
  · rw [h2, upd_same, upd_same]
  rw [upd_ne h2, upd_ne h2, upd_ne h1]
theorem del_shade {H : Hp} {a b : Addr} {o o1 o2 : HO} (hn : H a = none) (h : b ≠ a) :
    upd (del (upd (upd H b o1) a o) a) b o2 = upd H b o2 := by
  funext c
  by_cases h2 : c = b
  · rw [h2, upd_same, upd_same]
  rw [upd_ne h2, upd_ne h2]
  by_cases h1 : c = a
  · rw [h1, del_same, hn]
  rw [del_ne h1, upd_ne h1, upd_ne h2]

section
variable {k : Nat} {C fI : Addr} {fd : FuncData} {ps : List Str}
/-- C(e): __init__ has run on the new error -/
theorem own_made {pins : List (Addr × Obj)} {σ : St} {H1 : Hp} {s1 : Shared} {us : List Value} {y : V} {Q : Value → Shared → Prop}
    (T : Oc X.K C f) (iC : PySem.W.findIn X.K (.ref C) "__init__" = some (some (.ref fI)))
    (tI : PySem.W.typeIn X.K (.ref fI) = some (.type "function"))
    (F1 : FnOk X.prog X.w X.K X.mg X.base CX0 k fI fd ps (spIni X.K C f)) (hr : Room (k + 1) X.A) (hb : Binds X.K fd ps [])
    (I1 : Inv X pins σ H1 s1) (r1 : Vals [y] us)
    (h : ∀ (a dx : Addr) (hp2 : Heap) (s' : Shared), H1 a = none → H1 dx = none → dx ≠ a → s1.heap.objs.size ≤ a →
      (∀ b o, s1.heap.get? b = some o → hp2.get? b = some o) →
      Un (frs X.stack) [] (upd H1 a (exo a C none)) (upd (upd H1 dx (exd dx [(f, y)])) a (exo a C (some dx))) hp2 s'.heap →
      HOk X.prog X.w (upd (upd H1 dx (exd dx [(f, y)])) a (exo a C (some dx))) s'.heap → s'.os = s1.os → AllBare s'.gens →
      Inv X pins σ (upd H1 a (exo a C none)) { s1 with heap := hp2 } →
      CE X.stack X.prog X.w (upd H1 a (exo a C none)) { s1 with heap := hp2 }
        (fun v H' => v = .non ∧ H' = upd (upd H1 dx (exd dx [(f, y)])) a (exo a C (some dx))) .none s' → Q (.ref a) s') :
    wpAny (model X.prog X.w) X.A (call (.ref C) us) Q X.xe s1 := by
  obtain ⟨B, newId, initId, bmB, bm, nm, q, N, bs, sn, sub, ab, col, dd, k0, k1, k2, k3, k5, F, TL, hC⟩ := T.made
  obtain ⟨hp, g, dr, tk, os⟩ := s1
  have hsz : hp.objs.size ≤ hp.objs.size + 1 := Nat.le_succ _
  have hn : H1 (hp.objs.size + 1) = none := I1.hok.fresh hsz
  have kk : ∀ b o, hp.get? b = some o →
      ((hp.push (PySem.W.kdv_tup us)).push (PySem.HandSPX.excO C hp.objs.size)).get? b = some o :=
    fun b o e => Heap.get?_push_of_some _ (Heap.get?_push_of_some _ e)
  have hget : ((hp.push (PySem.W.kdv_tup us)).push (PySem.HandSPX.excO C hp.objs.size)).get? (hp.objs.size + 1) =
      some (PySem.HandSPX.excO C hp.objs.size) := by heap_get
  have I2 : Inv X pins σ (upd H1 (hp.objs.size + 1) (exo (hp.objs.size + 1) C none))
      ⟨(hp.push (PySem.W.kdv_tup us)).push (PySem.HandSPX.excO C hp.objs.size), g, dr, tk, os⟩ :=
    I1.laid (t' := tk) (a := hp.objs.size + 1) (o := exo (hp.objs.size + 1) C none) kk hsz (exo_ok hget)
  have r2 : Vals (V.ref (hp.objs.size + 1) :: [y]) (Value.ref (hp.objs.size + 1) :: us) := .cons rfl r1
  have hl1 : us.length = 1 := r1.length.symm
  have hus : us.length ≤ sizeLine := by
    rw [hl1, sizeLine_eq]
    omega
  have bd := hb ⟨(hp.push (PySem.W.kdv_tup us)).push (PySem.HandSPX.excO C hp.objs.size), g, dr, tk, os⟩
    (Value.ref (hp.objs.size + 1) :: us) I2.kIn
  refine wpAny_call (own_called F TL (I1.kIn _ _ hC) (PySem.W.looks_findIn I1.kIn iC)
    (fun self => PySem.W.bind_fn I1.kIn self tI) hus ?_)
  have sp0 : spIni X.K C f [.ref (hp.objs.size + 1), y] (upd H1 (hp.objs.size + 1) (exo (hp.objs.size + 1) C none))
      (fun v H' => ∃ dx, v = .non ∧ H1 dx = none ∧ dx ≠ hp.objs.size + 1 ∧
        H' = upd (upd H1 dx (exd dx [(f, y)])) (hp.objs.size + 1) (exo (hp.objs.size + 1) C (some dx))) E0 := by
    refine ⟨_, y, rfl, T, upd_same, ?_⟩
    intro dx n ne
    rw [upd_ne ne] at n
    exact ⟨dx, rfl, n, ne, upd_shade ne⟩
  have hl : (Value.ref (hp.objs.size + 1) :: us ++ []).length = ps.length := by
    rw [List.append_nil]
    exact r2.length.symm.trans (F1.len _ _ _ _ sp0)
  have bd' := bd hl
  rw [List.append_nil] at bd'
  refine codeAny_mono (F1.run _ X.stack _ _ ⟨Value.ref (hp.objs.size + 1) :: us, []⟩ (Value.ref (hp.objs.size + 1) :: us) _ _
    E0 (hr.make C us []) (I2.env0.make C us []) bd' r2 sp0) ?_
  intro r s' hq'
  cases r with
  | error er => exact hq'.elim
  | ok fl =>
    cases fl with
    | ret u =>
      obtain ⟨v, H2, os2, bare2, un2, hok2, rv, dx, ev, nx, ne, eH⟩ := hq'
      subst ev
      subst eH
      obtain rfl : u = Value.none := rv
      refine ⟨rfl, h _ dx _ s' hn nx ne hsz kk un2 hok2 os2 bare2 I2 ⟨.non, _, os2, bare2, un2, hok2, rfl, rfl, rfl⟩⟩
    | next => exact hq'.elim
    | brk => exact hq'.elim
    | cont => exact hq'.elim

theorem pe_mkv (T : Oc X.K C f) (iC : PySem.W.findIn X.K (.ref C) "__init__" = some (some (.ref fI)))
    (tI : PySem.W.typeIn X.K (.ref fI) = some (.type "function"))
    (F1 : FnOk X.prog X.w X.K X.mg X.base CX0 k fI fd ps (spIni X.K C f)) (hr : Room (k + 1) X.A) (hb : Binds X.K fd ps [])
    (hg : Gl X x) (hm : X.mg x = some (.ref C)) (ha : PA X [e] ta)
    (hdb : (x == ("__debug__" : Str)) = false := by decide)
    (he : starEach [e] X.env = (false, eval e X.env) :: starEach [] X.env := by rfl)
    (hpl : (backTo pos (starEach [] X.env)).any (·.1) = false := by rfl) :
    PE X (.Call (.Name x p) [e] [] pos) (tMkV C f ta) := by
  constructor
  intro pins s σ H Q I h
  refine wpAny_Call_Name_kw (ld_glob I hg hm ?_ hdb)
  refine PySem.W.callWith_K (h₀ := X.base) I.ok.mod.kin T.kC (thn (ha.run pos pins s σ H _ I h) ?_) he hpl
  rintro us s1 ⟨vs, H1, I1, r1, y, rfl, q1⟩
  refine ⟨I1.kIn, ?_⟩
  show wpAny _ _ (call (.ref C) us) _ _ _
  refine own_made T iC tI F1 hr hb I1 r1 ?_
  intro a dx hp2 s' na nd ne _ _ _ _ _ _ I2 ce
  obtain ⟨v, H', J, rv, ev, eH⟩ := I2.after ce
  subst eH
  exact ⟨.ref a, _, J, rfl, q1 a dx na nd ne⟩

theorem pmk_mkr (T : Oc X.K C f) (iC : PySem.W.findIn X.K (.ref C) "__init__" = some (some (.ref fI)))
    (tI : PySem.W.typeIn X.K (.ref fI) = some (.type "function"))
    (F1 : FnOk X.prog X.w X.K X.mg X.base CX0 k fI fd ps (spIni X.K C f)) (hr : Room (k + 1) X.A) (hb : Binds X.K fd ps [])
    (hg : Gl X x) (hm : X.mg x = some (.ref C)) (ha : PA X [e] ta)
    (hdb : (x == ("__debug__" : Str)) = false := by decide)
    (he : starEach [e] X.env = (false, eval e X.env) :: starEach [] X.env := by rfl)
    (hpl : (backTo pos (starEach [] X.env)).any (·.1) = false := by rfl) :
    PMk X (.Call (.Name x p) [e] [] pos) (tMkR C f ta) := by
  intro pins s σ H Q I h
  refine wpAny_Call_Name_kw (ld_glob I hg hm ?_ hdb)
  refine PySem.W.callWith_K (h₀ := X.base) I.ok.mod.kin T.kC (thn (ha.run pos pins s σ H _ I h) ?_) he hpl
  rintro us s1 ⟨vs, H1, I1, r1, y, rfl, q1⟩
  refine ⟨I1.kIn, ?_⟩
  show wpAny _ _ (call (.ref C) us) _ _ _
  refine own_made T iC tI F1 hr hb I1 r1 ?_
  intro a dx hp2 s' na nd ne hsz kk un hok eo ba I2 ce
  obtain ⟨hp1, g1, d1, t1, os1⟩ := s1
  obtain ⟨h2, g2, d2, t2, os2⟩ := s'
  refine mk_end (fs := [(f, y)]) (raises_own T.exC T.tyC) I1 hsz kk un hok eo ba upd_same ?_ nd ?_
  · rw [upd_ne ne, upd_same]
  · rw [del_shade na ne]
    exact q1 dx nd
end
end
end LP

set_option Elab.async false
set_option linter.all false
set_option maxRecDepth 100000
set_option maxHeartbeats 4000000
/-! LPY: errors of own classes as values: isinstance, what they keep; try with several clauses, named or not. -/
namespace LP
open PySem PySem.Spec L2
open PyProof.Rows hiding St

/-! ### isinstance of an error -/
/-- at a stands an error of the class C: tracked, or pinned -/
def XAt (pn : List (Addr × Obj)) (H : Hp) (a C : Addr) : Prop :=
  (H a = some (exo a C none)) ∨ (∃ dd fs, H a = some (exo a C (some dd)) ∧ H dd = some (exd dd fs)) ∨
    ∃ oe, (a, oe) ∈ pn ∧ Zc (.ref C) none oe ∧ ∃ vs, oe.data = .fields vs
def rIsX (K : PySem.W.Frag) (pn : List (Addr × Obj)) : List V → Hp → VK → Prop := fun xs H Q =>
  ∃ (a C : Addr) (c : V) (cv : Value) (b : Bool), xs = [.ref a, c] ∧ ClsV c cv ∧ ExcC K C ∧ XAt pn H a C ∧
    PySem.W.kitOne K (.ref C) cv = some b ∧ Q (.bl b) H

section
variable {X : Cx} {pins : List (Addr × Obj)} {σ : St} {H : Hp} {s : Shared} {a C : Addr}
theorem XAt.inst (I : Inv X pins σ H s) (h : XAt X.pn H a C) : ∃ ox od, PySem.W.InstAt s.heap a ox C od := by
  rcases h with h | ⟨dd, fs, h, hd⟩ | ⟨oe, hm, hz, vs, hv⟩
  · obtain ⟨t1, ho⟩ := exo_at I.hok h
    exact ⟨_, none, ho, rfl, rfl, trivial⟩
  · obtain ⟨t1, ho⟩ := exo_at I.hok h
    obtain ⟨mA, ⟨o, es, ep, e, _⟩, _⟩ := exd_at I.hok hd
    exact ⟨_, some o, ho, rfl, rfl, e⟩
  · obtain ⟨hg, _⟩ := I.pin (a, oe) (List.mem_append_left _ hm)
    obtain ⟨oc, od, oda, osl⟩ := oe
    obtain ⟨h1, h2⟩ := hz
    dsimp only at h1 h2 hv
    subst h1 h2 hv
    exact ⟨_, none, hg, rfl, rfl, trivial⟩

theorem call_isX : CallR X (.builtin "isinstance") (rIsX X.K X.pn) := by
  intro pins s σ H xs us Q I r h
  obtain ⟨a, C, c, cv, b, rfl, k, T, hx, e, q⟩ := h
  obtain ⟨u1, u2, rfl, r1, r2⟩ := vals2 r
  obtain rfl := k.eq r2
  cases (show u1 = Value.ref a from r1)
  obtain ⟨ox, od, J⟩ := hx.inst I
  obtain ⟨cd, hc, _⟩ := PySem.W.any_some T.hd
  have hcl : (PySem.W.clsIn X.K C).isSome = true := by
    rw [hc]
    rfl
  refine PySem.W.kia_one (PySem.W.kitx_exc hcl T.hg T.hk T.hs T.ha T.hn T.ht T.hm) I.kIn J e (fun z => nomatch z) ?_
  intro tk
  exact ⟨.bl b, H, I.tok tk, rfl, q⟩

/-! ### what a tracked error keeps -/
def tXv (K : PySem.W.Frag) (n : Str) (te : TE) : TE := fun σ H Q => te σ H fun x H1 => ∃ (a C d : Addr) (fs : List (Str × V)) (v : V),
  x = .ref a ∧ XfC K C ∧ PySem.W.findIn K (.ref C) n = some none ∧ H1 a = some (exo a C (some d)) ∧ H1 d = some (exd d fs) ∧
    fs.lookup n = some v ∧ Q v H1
theorem pe_xv {e : Expr} {te : TE} {pos : Pos} {n : Str} (he : PE X e te)
    (hb : attributeBase e n X.env (eval e X.env) = eval e X.env := by rfl) :
    PE X (.Attribute e n pos) (tXv X.K n te) := by
  constructor
  intro pins s σ H Q I h
  refine attr_of hb (thn (he.run pins s σ H _ I h) ?_)
  rintro u s1 ⟨x, H1, I1, rx, a, C, d, fs, v, ex, T, hno, ha, hd, l, q⟩
  subst ex
  obtain rfl : u = Value.ref a := rx
  obtain ⟨t1, ho⟩ := exo_at I1.hok ha
  obtain ⟨mA, hn1, rel⟩ := exd_at I1.hok hd
  obtain ⟨od, hod, hl⟩ := lookIn_ns hn1
  obtain ⟨u, hu, ru⟩ := RelO.some_of (v := v) (o := mA n) (by rw [← l]; exact rel n)
  have J : PySem.W.InstAt s1.heap a _ C (some od) := ⟨ho, rfl, rfl, hod⟩
  have fo := PySem.W.findObj_own T.hdC hno rfl (od := od) (v := u) (by rw [hl, hu])
  exact HandSPX.exc_get I1.kIn J T.ga T.gg T.exC fo (handed_of ru) ⟨v, H1, I1.tok _, ru, q⟩

/-! ### an error without own __init__, as a value -/
theorem pe_mk0 {bmB : List Value} {B newId initId : String} {x : Str} {e : Expr} {ta : TE} {p pos : Pos}
    (F : ExcBaseFacts B newId initId bmB) (q : PySem.W.excIn X.K C bmB newId = true) (gC : X.mg x = some (.ref C))
    (kC : PySem.W.keepIn X.K (.ref C) = true) (hg : Gl X x) (he : PE X e ta)
    (hs : starEach [e] X.env = (false, eval e X.env) :: starEach [] X.env := by rfl)
    (hdb : (x == ("__debug__" : Str)) = false := by decide) :
    PE X (.Call (.Name x p) [e] [] pos)
      (fun σ H Q => ta σ H fun _ H1 => ∀ a, H1 a = none → Q (.ref a) (upd H1 a (exo a C none))) := by
  constructor
  intro pins s σ H Q I h
  refine wpAny_Call_Name_kw (ld_glob I hg gC ?_ hdb)
  refine PySem.W.callWith_K (h₀ := X.base) I.ok.mod.kin kC ?_ hs (by rfl)
  rw [hs]
  show wpAny _ _ (spliced ((false, eval e X.env) :: backTo pos (starEach [] X.env))) _ _ s
  refine Calls.spliced_cons (thn (he.run pins s σ H _ I h) ?_)
  rintro u s1 ⟨v, H1, I1, r1, q1⟩
  refine Calls.spliced_nil ⟨I1.kIn, ?_⟩
  show wpAny _ _ (call (.ref C) [u]) _ _ _
  obtain ⟨bm, N, nm, qn, bs, hdct, sn, sub, ab, col, dd, k0, k1, k2, k3, k5, mN, hC, hN, hni, T⟩ := exc_obj I1.kIn q
  refine wpAny_call_exc_subT F T hC hN hni ?_ (by show 1 ≤ sizeLine; rw [sizeLine_eq]; omega)
  intro h' a hm
  have hn : H1 a = none := I1.hok.gone hm.new
  obtain ⟨t, ht, _, _⟩ := hm.there
  exact ⟨.ref a, _, I1.laidN hm.keeps hm.new hn (exo_ok ht), rfl, q1 a hn⟩
end

/-! ### try with several clauses, each with a name or without -/
abbrev Ts3 := Addr → Value → Option Addr → TS
/-- the ends of a suite behind which slot i is empty -/
def Ends.off (D : Ends) (i : Nat) : Ends :=
  { nx := fun σ H => D.nx (σ.set i none) H, rt := D.rt, bk := fun σ H => D.bk (σ.set i none) H, ct := fun σ H => D.ct (σ.set i none) H }
def wCl (K : PySem.W.Frag) (Wout : WX) (D : Ends) : List (Value × Option Nat × Ts3) → WX
  | [] => Wout
  | (c, none, ts) :: r => fun cls d σ H => ∃ b, PySem.W.exmOne K cls c = some b ∧
      (b = true → ∀ a, H a = none → ts a cls d D σ H) ∧ (b = false → wCl K Wout D r cls d σ H)
  | (c, some i, ts) :: r => fun cls d σ H => ∃ b, PySem.W.exmOne K cls c = some b ∧
      (b = true → ∀ a, H a = none → ts a cls d (Ends.off D i) (σ.set i (some (.ref a))) H) ∧ (b = false → wCl K Wout D r cls d σ H)
/-- a suite, whatever error it is that is caught -/
def Suit (X : Cx) (ss : List Stmt) (ts : Ts3) : Prop := ∀ (a : Addr) (oe : Obj) (cls : Value) (d : Option Addr) (pn : List (Addr × Obj)),
  Zc cls d oe → (∃ vs, oe.data = .fields vs) → PSs (X.suite a ((a, oe) :: pn)) ss (ts a cls d)
inductive Cls3 (X : Cx) : List ExceptHandler → List (Value × Option Nat × Ts3) → Prop
  | nil : Cls3 X [] []
  | bare {x : Str} {c : Value} {ts : Ts3} {b₀ : Stmt} {suite : List Stmt} {np pos : Pos} {hds : List ExceptHandler}
      {l : List (Value × Option Nat × Ts3)} (hc : Names X x c) (hsu : Suit X (b₀ :: suite) ts) (r : Cls3 X hds l) :
      Cls3 X (.ExceptHandler (some (.Name x np)) none (b₀ :: suite) pos :: hds) ((c, none, ts) :: l)
  | named {x n : Str} {i : Nat} {c : Value} {ts : Ts3} {b₀ : Stmt} {suite : List Stmt} {np pos : Pos} {hds : List ExceptHandler}
      {l : List (Value × Option Nat × Ts3)} (hN : X.N.Nodup) (hi : X.N[i]? = some n) (hln : X.env.kindOf n = some .local)
      (hc : Names X x c) (hsu : Suit X (b₀ :: suite) ts) (r : Cls3 X hds l) :
      Cls3 X (.ExceptHandler (some (.Name x np)) (some n) (b₀ :: suite) pos :: hds) ((c, some i, ts) :: l)

section
variable {X : Cx} {body : List Stmt} {h₀ : ExceptHandler} {hds : List ExceptHandler} {l : List (Value × Option Nat × Ts3)} {pos : Pos}
  {tb : WX → TS} {Wout : WX}
theorem ps_try3 (hs : X.stack = X.env :: X.outer) (hf : X.env.frame = some X.env.locals) (tk : Takes X Wout)
    (hb : ∀ (W : WX) (pn : List (Addr × Obj)) (xe : Value → Shared → Prop), Takes (X.tr pn xe) W →
      PassesOwn (model X.prog X.w) X.A X.env xe → PSs (X.tr pn xe) body (tb W))
    (hh : Cls3 X (h₀ :: hds) l) :
    PS X (.Try body (h₀ :: hds) [] [] pos) (fun D σ H => tb (wCl X.K Wout D l) D σ H) := by
  constructor
  intro pins s σ H D I h
  have ok := I.ok
  have hfr : X.A.frames = some (X.env :: X.outer) := by
    rw [ok.frames, hs]
  refine wpAny_Try_except ?_
  have run := hb (wCl X.K Wout D l) (X.pn ++ pins)
    (fun e s₁ => wpAny (model X.prog X.w) X.A (noteFrame e X.env) (fun _ s₂ => wpAny (model X.prog X.w) X.A (setFlight e none)
      (fun _ s₃ => wpAny (model X.prog X.w) X.A (handleBy e X.env (h₀ :: hds)) (SP X pins D) X.xe s₃) X.xe s₂) X.xe s₁)
    ?_ PassesOwn.looking
  refine wpAny_mono (run.run [] s σ H D (I.toTry _) h) ?_ (fun _ _ z => z)
  · intro fl s1 hsp
    cases fl with
    | next =>
      obtain ⟨σ', H', J', q⟩ := hsp
      exact wpAny_execs_nil ⟨σ', H', J'.ofTry ok, q⟩
    | brk =>
      obtain ⟨σ', H', J', q⟩ := hsp
      exact ⟨σ', H', J'.ofTry ok, q⟩
    | cont =>
      obtain ⟨σ', H', J', q⟩ := hsp
      exact ⟨σ', H', J'.ofTry ok, q⟩
    | ret u =>
      obtain ⟨v, σ', H', J', r, q⟩ := hsp
      exact ⟨v, σ', H', J'.ofTry ok, r, q⟩
  rintro u s' ⟨a, B, sI, pins', σ', H', cls, d, rfl, J', nb, up, sky, na, os, ag, w0⟩
  have J : Inv X pins σ' H' sI := J'.ofTry ok
  have sky' : Sky B (X.env :: X.outer) a (Zc cls d) X.env.locals s'.heap := by
    rw [← hs]
    exact sky
  show wpAny (model X.prog X.w) X.A (noteFrame (.ref a) X.env) _ _ _
  refine Sky.land Zc.steady hfr hf sky' ?_
  intro h3 fl3 up3
  have J3 : Inv X pins σ' H' { s' with heap := h3 } := J.landed nb fl3.1 (up.trans up3) os ag
  obtain ⟨oe3, vs3, he3, hz3, hd3⟩ := fl3.there
  have nfr : a ∉ frs (X.env :: X.outer) := by
    intro hm
    obtain ⟨_, o', e', hnf⟩ := fl3.2.2.1.mem hm
    rw [he3] at e'
    cases e'
    exact hnf _ hd3
  have nL : a ≠ X.env.locals := by
    intro z
    exact nfr (List.mem_filterMap.mpr ⟨X.env, List.mem_cons_self, by rw [hf, z]⟩)
  have nF : a ∉ X.fs := by
    intro hm
    obtain ⟨e, he, q⟩ := List.mem_filterMap.mp hm
    exact nfr (List.mem_filterMap.mpr ⟨e, List.mem_cons_of_mem _ he, q⟩)
  have S3 := J3.suite he3 hd3 na nL nF
  have LT : PySem.W.Looks (model X.prog X.w) h3 (typeOf (.ref a)) cls := by
    intro A Q E s k q
    exact wpAny_typeOf_ref (k _ _ he3) (by rw [hz3.1]; exact q)
  have test : ∀ {x : Str} {np : Pos} {c : Value} {Q : Value → Shared → Prop} {E : Value → Shared → Prop}, Names X x c →
      Q c { s' with heap := h3 } →
      wpAny (model X.prog X.w) (X.A.mark (some (.ref a))) (eval (.Name x np) X.env) Q E { s' with heap := h3 } := by
    intro x np c Q E hc q
    obtain ⟨hg, hdbg, hm | ⟨hm, hv, hnn⟩⟩ := hc
    · exact ld_glob (X := X.suite a ((a, oe3) :: (X.pn ++ pins))) S3 hg hm q hdbg
    · exact ld_blt (X := X.suite a ((a, oe3) :: (X.pn ++ pins))) S3 hg hm hv q hnn hdbg
  have go : ∀ {hds' : List ExceptHandler} {l' : List (Value × Option Nat × Ts3)}, Cls3 X hds' l' → wCl X.K Wout D l' cls d σ' H' →
      wpAny (model X.prog X.w) X.A (handleBy (.ref a) X.env hds') (SP X pins D) X.xe { s' with heap := h3 } := by
    intro hds' l' hk
    induction hk with
    | nil =>
      intro w
      refine wpAny_handleBy_nil ?_
      obtain ⟨k1, k2, k3, oe, vs, T, oT, ts', he, hz, hd, h1, hr⟩ := id fl3
      unfold PySem.passOn
      refine wpAny_bind (wpAny_field he hd h1 ?_)
      rw [if_neg (show ¬ ((Value.ref T == Value.none) = true) by simp)]
      have fin : wpAny (model X.prog X.w) X.A (setFlight (.ref a) X.env.frame)
          (fun _ s4 => wpAny (model X.prog X.w) X.A (throw (.ref a) : Sem Flow) (SP X pins D) X.xe s4) X.xe { s' with heap := h3 } := by
        rw [hf]
        refine HandSPX.setFlight_upZ fl3 ?_
        intro h4 hh4 up4
        refine wpAny_throw (tk _ _ ?_)
        refine ⟨a, B, sI, pins, σ', H', cls, d, rfl, J, nb, (up.trans up3).trans up4, .inr (.inr ?_), na, os, ag, w⟩
        rw [hs]
        exact hh4
      first
        | exact wpAny_bind (wpAny_pure (wpAny_bind fin))
        | exact wpAny_bind fin
    | @bare x c ts b₀ suite np pos' hds2 l2 hc hsu r ih =>
      rintro ⟨b, hb1, hyes, hno⟩
      refine wpAny_handleBy_cons (codeAny_handlers_test ?_) (by intro q; cases q)
      refine test hc ((PySem.W.exm_one (M := model X.prog X.w) J3.kIn LT hb1).here ?_)
      cases b with
      | false =>
        show wpAny _ X.A (handleBy (.ref a) X.env hds2) _ _ _
        exact ih (hno rfl)
      | true =>
        refine codeAny_handlers_suite (HandSPX.lands_againZ fl3 ?_)
        intro h4 fl4 up4
        have J4 : Inv X pins σ' H' { s' with heap := h4 } := J.landed nb fl4.1 ((up.trans up3).trans up4) os ag
        obtain ⟨oe4, vs4, he4, hz4, hd4⟩ := fl4.there
        have S4 := J4.suite he4 hd4 na nL nF
        refine wpAny_mono ((hsu a oe4 cls d (X.pn ++ pins) hz4 ⟨_, hd4⟩).run [] _ _ H' _ S4 (hyes rfl a na)) ?_ (fun _ _ z => z.elim)
        intro f s6 hsp
        cases f with
        | ret u =>
          obtain ⟨v6, σ6, H6, S6, r6, q6⟩ := hsp
          exact ⟨_, _, _, S6.unsuite ok, r6, q6⟩
        | next =>
          obtain ⟨σ6, H6, S6, q6⟩ := hsp
          exact ⟨_, _, S6.unsuite ok, q6⟩
        | brk =>
          obtain ⟨σ6, H6, S6, q6⟩ := hsp
          exact ⟨_, _, S6.unsuite ok, q6⟩
        | cont =>
          obtain ⟨σ6, H6, S6, q6⟩ := hsp
          exact ⟨_, _, S6.unsuite ok, q6⟩
    | @named x n i c ts b₀ suite np pos' hds2 l2 hN hi hln hc hsu r ih =>
      rintro ⟨b, hb1, hyes, hno⟩
      refine wpAny_handleBy_cons (codeAny_handlers_test ?_) (by intro q; cases q)
      refine test hc ((PySem.W.exm_one (M := model X.prog X.w) J3.kIn LT hb1).here ?_)
      cases b with
      | false =>
        show wpAny _ X.A (handleBy (.ref a) X.env hds2) _ _ _
        exact ih (hno rfl)
      | true =>
        refine codeAny_handlers_suite_as (HandSPX.lands_againZ fl3 ?_)
        intro h4 fl4 up4
        have J4 : Inv X pins σ' H' { s' with heap := h4 } := J.landed nb fl4.1 ((up.trans up3).trans up4) os ag
        obtain ⟨oe4, vs4, he4, hz4, hd4⟩ := fl4.there
        have S4 := J4.suite he4 hd4 na nL nF
        refine store_ok (X := X.suite a ((a, oe4) :: (X.pn ++ pins))) (v := .ref a) S4 hN hi (.inl hln) rfl ?_ (.inr hln)
        intro s5 S5
        refine wpAny_mono ((hsu a oe4 cls d (X.pn ++ pins) hz4 ⟨_, hd4⟩).run [] s5 _ H' _ S5 (hyes rfl a na)) ?_ (fun _ _ z => z.elim)
        intro f s6 hsp
        have bye : ∀ {σ6 : St} {H6 : Hp} {Q : Shared → Prop}, Inv (X.suite a ((a, oe4) :: (X.pn ++ pins))) [] σ6 H6 s6 →
            (∀ s7, Inv X pins (σ6.set i none) H6 s7 → Q s7) →
            wpAny (model X.prog X.w) X.A (do bindName X.env n .none; unbindBehindTheSuite X.env n pos') (fun _ s7 => Q s7) X.xe s6 :=
          fun S6 hq => gone_ok (S6.unsuite ok) hN hi hln hq
        cases f with
        | ret u =>
          obtain ⟨v6, σ6, H6, S6, r6, q6⟩ := hsp
          exact bye S6 fun s7 J7 => ⟨_, _, _, J7, r6, q6⟩
        | next =>
          obtain ⟨σ6, H6, S6, q6⟩ := hsp
          exact bye S6 fun s7 J7 => ⟨_, _, J7, q6⟩
        | brk =>
          obtain ⟨σ6, H6, S6, q6⟩ := hsp
          exact bye S6 fun s7 J7 => ⟨_, _, J7, q6⟩
        | cont =>
          obtain ⟨σ6, H6, S6, q6⟩ := hsp
          exact bye S6 fun s7 J7 => ⟨_, _, J7, q6⟩
  exact go hh w0
end
end LP

set_option Elab.async false
set_option linter.all false
set_option maxRecDepth 100000
set_option maxHeartbeats 4000000
/-! LPZ: data with dicts and its repr; defs that are called while an error is handled; facts of own errors' classes. -/
namespace LP
open PySem PySem.Spec L2
open PyProof.Rows hiding St

/-! ### data, dicts among it; z: no list of it lies where sys.modules does -/
def keyD : Key → PyData
  | .inl i => .int i
  | .inr x => .str x
mutual
inductive Dd (z : Prop) (H : Hp) : V → PyData → Prop
  | non : Dd z H .non .none
  | bl (b : Bool) : Dd z H (.bl b) (.bool b)
  | int (i : Int) : Dd z H (.int i) (.int i)
  | str (x : Str) : Dd z H (.str x) (.str x)
  | lst {a : Addr} {xs : List V} {ds : List PyData} : H a = some (.lst xs) → (z → a ≠ sysModules) → DdA z H xs ds → Dd z H (.ref a) (.list ds)
  | tup {a : Addr} {xs : List V} {ds : List PyData} : H a = some (.tup xs) → DdA z H xs ds → Dd z H (.ref a) (.tuple ds)
  | dct {a : Addr} {kvs : List (Key × V)} {ds : List PyData} {ps : List (PyData × PyData)} : H a = some (.dK kvs) →
      DdA z H (kvs.map (·.2)) ds → ps.map (·.1) = kvs.map (fun p => keyD p.1) → ps.map (·.2) = ds → Dd z H (.ref a) (.dict ps)
inductive DdA (z : Prop) (H : Hp) : List V → List PyData → Prop
  | nil : DdA z H [] []
  | cons {v : V} {vs : List V} {d : PyData} {ds : List PyData} : Dd z H v d → DdA z H vs ds → DdA z H (v :: vs) (d :: ds)
end

section
variable {z : Prop} {H H' : Hp}
mutual
theorem Dd.same (e : Same H H') : ∀ (d : PyData) (v : V), Dd z H v d → Dd z H' v d
  | _, _, .non => .non
  | _, _, .bl b => .bl b
  | _, _, .int i => .int i
  | _, _, .str x => .str x
  | .list ds, _, .lst h n hs => .lst (e _ _ h) n (DdA.same e ds _ hs)
  | .tuple ds, _, .tup h hs => .tup (e _ _ h) (DdA.same e ds _ hs)
  | .dict ps, _, .dct (ds := ds) h hs h1 h2 => .dct (e _ _ h) (DdA.same e ds _ hs) h1 h2
termination_by structural _ _ h => h
theorem DdA.same (e : Same H H') : ∀ (ds : List PyData) (vs : List V), DdA z H vs ds → DdA z H' vs ds
  | _, _, .nil => .nil
  | d :: ds, _, .cons h hs => .cons (Dd.same e d _ h) (DdA.same e ds _ hs)
termination_by structural _ _ h => h
end
end

section
variable {X : Cx} {pins : List (Addr × Obj)} {σ : St} {H : Hp} {s : Shared} {z : Prop}
theorem reads_keys {P : Program} {w : World} (hp : Heap) {es : List DictEntry} {kvs : List (Key × Value)} (h : Pairs (mixKind P w) es kvs) :
    ReadsAll hp (es.map (·.key)) (kvs.map fun p => keyD p.1) [] := by
  induction h with
  | nil => exact .nil
  | @cons e kv es kvs h1 h2 h3 ih =>
    obtain ⟨k, v⟩ := kv
    have one : Reads hp e.key (keyD k) [] := by
      rcases keyIs_shape h1 with ⟨i, t, q, e1⟩ | ⟨x, t, q, e1⟩
      · rw [e1, show k = Sum.inl i from q]
        exact .int i t
      · rw [e1, show k = Sum.inr x from q]
        exact .str x t
    exact .cons (as := []) (bs := []) one ih
theorem pairs_vals {P : Program} {w : World} {es : List DictEntry} {kvs : List (Key × Value)} (h : Pairs (mixKind P w) es kvs) :
    es.map (·.val) = kvs.map (·.2) := by
  induction h with
  | nil => rfl
  | cons h1 h2 h3 ih => rw [List.map_cons, List.map_cons, h2, ih]
theorem kv_parts {kvs : List (Key × V)} {vs : List (Key × Value)} (r : KV kvs vs) :
    kvs.map (fun p => keyD p.1) = vs.map (fun p => keyD p.1) ∧ Vals (kvs.map (·.2)) (vs.map (·.2)) := by
  induction r with
  | nil => exact ⟨rfl, .nil⟩
  | cons h t ih =>
    obtain ⟨h1, h2⟩ := h
    refine ⟨?_, .cons h2 ih.2⟩
    rw [List.map_cons, List.map_cons, ih.1, h1]
mutual
theorem Dd.reads (I : Inv X pins σ H s) : ∀ (d : PyData) (v : V) (u : Value), Dd z H v d → RelV v u → ∃ as, Reads s.heap u d as ∧ (z → sysModules ∉ as)
  | _, _, u, .non, r => by
    cases r
    exact ⟨_, .none, fun _ => by simp⟩
  | _, _, u, .bl b, r => by
    cases r
    exact ⟨_, .bool b, fun _ => by simp⟩
  | _, _, u, .int i, r => by
    obtain ⟨t, rfl⟩ := r
    exact ⟨_, .int i t, fun _ => by simp⟩
  | _, _, u, .str x, r => by
    obtain ⟨t, rfl⟩ := r
    exact ⟨_, .str x t, fun _ => by simp⟩
  | .list ds, .ref a, u, .lst h n hs, r => by
    cases r
    obtain ⟨its, rv, ⟨o, n', ho, hc, _, hd⟩, _⟩ := I.list (SqL.of h)
    obtain ⟨as, hr, hz⟩ := DdA.reads I ds _ its hs rv
    refine ⟨_, Reads.list ho hc hd hr, fun q => ?_⟩
    intro hm
    rcases List.mem_cons.mp hm with e | e
    · exact n q e.symm
    · exact hz q e
  | .tuple ds, .ref a, u, .tup h hs, r => by
    cases r
    obtain ⟨its, rv, ⟨o, ho, hc, n, hd⟩, _⟩ := I.tuple (SqT.of h)
    obtain ⟨as, hr, hz⟩ := DdA.reads I ds _ its hs rv
    exact ⟨_, Reads.tuple ho hc hd hr, hz⟩
  | .dict ps, .ref a, u, .dct (kvs := kvs) (ds := ds) h hs h1 h2, r => by
    cases r
    obtain ⟨_, hsm, vs, rel, o, es, ep, ho, hx, hd, _, hp, _⟩ := (show ObjOk X.prog X.w H s.heap a (.dK kvs) from I.hok a _ h)
    obtain ⟨k1, k2⟩ := kv_parts rel
    obtain ⟨as, hr, hz⟩ := DdA.reads I ds _ _ hs k2
    refine ⟨_, Reads.dict (as := []) (bs := as) ho hx.1 hd ?_ ?_, fun q hm => ?_⟩
    · rw [h1, k1]
      exact reads_keys s.heap hp
    · rw [h2, pairs_vals hp]
      exact hr
    · rcases List.mem_cons.mp hm with e | e
      · rw [e, beq_self_eq_true] at hsm
        cases hsm
      · exact hz q e
termination_by structural _ _ _ h => h
theorem DdA.reads (I : Inv X pins σ H s) : ∀ (ds : List PyData) (vs : List V) (us : List Value), DdA z H vs ds → Vals vs us → ∃ as, ReadsAll s.heap us ds as ∧ (z → sysModules ∉ as)
  | _, _, us, .nil, r => by
    cases r
    exact ⟨_, .nil, fun _ => by simp⟩
  | d :: ds, _, us, .cons h hs, r => by
    cases r with
    | cons r1 r2 =>
      obtain ⟨as, q1, z1⟩ := Dd.reads I d _ _ h r1
      obtain ⟨bs, q2, z2⟩ := DdA.reads I ds _ _ hs r2
      refine ⟨_, .cons q1 q2, fun q hm => ?_⟩
      rcases List.mem_append.mp hm with e | e
      · exact z1 q e
      · exact z2 q e
termination_by structural _ _ _ h => h
end

/-- repr of data -/
def rReprZ : List V → Hp → VK → Prop := fun xs H Q => ∃ x d, xs = [x] ∧ Dd (d.hasDict = true) H x d ∧ d.showable = true ∧ d.depth ≤ 60 ∧
  d.shown.length ≤ sizeLine ∧ Q (.str d.shown) H
theorem call_reprZ (gd : X.A.guards = some []) (hu : X.A.units + 64 < cLine) : CallR X (.builtin "repr") rReprZ := by
  intro pins s σ H xs us Q I r h
  obtain ⟨x, d, rfl, hd, hs, hz, hl, q⟩ := h
  obtain ⟨u, rfl, r1⟩ := vals1 r
  obtain ⟨as, rd, na⟩ := Dd.reads I d x u hd r1
  cases rd with
  | none => exact PySem.P.repr_of_none ⟨.str _, H, I.tok _, ⟨_, rfl⟩, q⟩
  | bool b => exact PySem.P.repr_of_bool ⟨.str _, H, I.tok _, ⟨_, rfl⟩, q⟩
  | int i t =>
    have hi : i.natAbs.log2 < 1920 := by simpa [PyData.showable] using hs
    exact PySem.P.repr_of_int hi ⟨.str _, H, I.tok _, ⟨_, rfl⟩, q⟩
  | str y t => exact PySem.P.repr_of_str ⟨.str _, H, I.tok _, ⟨_, rfl⟩, q⟩ hl
  | list h1 h2 h3 h4 =>
    exact repr_of_reads' (.list h1 h2 h3 h4) hs na gd (by omega) (fun _ _ e => e) (fun h' v tk hk => ⟨.str _, H, I.kept hk, ⟨_, rfl⟩, q⟩) hl
  | tuple h1 h2 h3 h4 =>
    exact repr_of_reads' (.tuple h1 h2 h3 h4) hs na gd (by omega) (fun _ _ e => e) (fun h' v tk hk => ⟨.str _, H, I.kept hk, ⟨_, rfl⟩, q⟩) hl
  | dict h1 h2 h3 h4 h5 =>
    exact repr_of_reads' (.dict h1 h2 h3 h4 h5) hs na gd (by omega) (fun _ _ e => e) (fun h' v tk hk => ⟨.str _, H, I.kept hk, ⟨_, rfl⟩, q⟩) hl

/-- list + list: the new one does not lie where sys.modules does -/
def rCatX : R2 := fun x y H Q => ∃ l b xs zs, x = .ref l ∧ y = .ref b ∧ H l = some (.lst xs) ∧ H b = some (.lst zs) ∧
  xs.length + zs.length ≤ sizeLine ∧ ∀ p, p ≠ sysModules → H p = none → Q (.ref p) (upd H p (.lst (xs ++ zs)))
theorem op_catX : OpR X (binaryOp .Add) rCatX := by
  intro pins s σ H x y v u Q I rx ry h
  obtain ⟨l, b, xs, zs, rfl, rfl, hH, hB, hz, q⟩ := h
  cases rx
  cases ry
  obtain ⟨z, its, n, r, hl, e⟩ := I.lstM hH
  obtain ⟨z2, its2, n2, r2, hl2, e2⟩ := I.lstM hB
  refine PySem.P.add_list e e2 ?_ (by rw [List.size_toArray, List.size_toArray]; omega)
  rw [show its.toArray ++ its2.toArray = (its ++ its2).toArray by simp]
  refine ⟨.ref _, _, I.lnew (t' := s.toks) (r.append r2) ?_, rfl, q _ (Nat.ne_of_gt I.big) I.fresh⟩
  rw [List.length_append]
  omega
end

/-! ### defs that are called while an error is handled: the error is pinned -/
structure FnP (P : Program) (w : World) (K : PySem.W.Frag) (mg : Str → Option Value) (base : Heap) (CX : CXT)
    (k : Nat) (f : Addr) (fd : FuncData) (ps : List Str) (sp : Addr → Value → Option Addr → Sp) : Prop where
  len : ∀ a c d vs H Q E, sp a c d vs H Q E → vs.length = ps.length
  go : ∀ (A : Around) (outer : List Env) (s : Shared) (H : Hp) (args : Args) (us : List Value) (vs : List V) (Q : VK) (E : XK)
    (p : Addr × Obj) (c : Value) (d : Option Addr), A.guards = some [] → L2H.RoomH k A → L2H.PinOk outer H s p → Zc c d p.2 →
    (∃ fv, p.2.data = .fields fv) → Env0 P w K mg base A outer s H →
    BindsTo s fd args (ps.zip us) → Vals vs us → sp p.1 c d vs H Q E →
    codeAny (model P w) A (.call (.ref f) args) (CR CX outer P w H s Q E) s

theorem fnP_of {CX : CXT} {P : Program} {w : World} {K : PySem.W.Frag} {mg : Str → Option Value} {base : Heap} {k : Nat}
    {f : Addr} {name qual : Str} {params : Arguments} {body : List Stmt} {scope : Scope} {dV kV doc pm cdv ct oc : Value}
    {an od : Option Addr} {osl : Array (Option Value)} {N ps : List Str} {sp : Addr → Value → Option Addr → Sp}
    (lk : K.lookup f = some ⟨oc, od, .func (PySem.W.fnOf name qual params body scope dV kV doc pm an cdv ct), osl⟩)
    (hcd : PySem.W.codeIn K cdv qual = true) (S : FnScope N ps scope)
    (len : ∀ a c d vs H Q E, sp a c d vs H Q E → vs.length = ps.length)
    (hbody : ∀ (A : Around) (outer : List Env) (s : Shared) (H : Hp) (vs : List V) (Q : VK) (E : XK) (p : Addr × Obj) (c : Value)
      (d : Option Addr), A.guards = some [] → L2H.RoomH k (A.deeper (envOfC qual scope s.heap.objs.size f cdv)) → Zc c d p.2 →
      (∃ fv, p.2.data = .fields fv) → sp p.1 c d vs H Q E →
      ∃ t, PSs (L2H.cxH CX P w K mg base N qual scope f cdv A outer s H E p) body t ∧
        t { nx := fun _ H' => Q .non H', rt := Q } (start N vs) H) :
    FnP P w K mg base CX (k + 1) f (PySem.W.fnOf name qual params body scope dV kV doc pm an cdv ct) ps sp := by
  constructor
  · exact len
  intro A outer s H args us vs Q E p c d gd hr hpin hz hf e0 hb r hsp
  have hl := len _ _ _ _ _ _ _ hsp
  have KX : K.In s.heap := e0.mod.kin.keeps fun b o e => (e0.bs b o e).1
  have lim : s.heap.NoLimit := e0.mod.nolimit.keeps fun b o e => (e0.bs b o e).1
  have hk : ∀ y ∈ ps.zip us, scope.names.lookup y.1 = some .local ∨
      (scope.names.lookup y.1 = some .cell ∧
        ((cellsFrom (s.heap.objs.size + 1) scope.names []).lookup y.1).isSome = true) := by
    rintro ⟨n, v⟩ hy
    rcases S.par n (List.of_mem_zip hy).1 with q | q
    · exact .inl q
    · exact .inr ⟨q, PySem.W.cellsFrom_some _ _ _ (.inl q)⟩
  refine codeAny_call_function hr.depth (KX _ _ lk) rfl S.co S.gen rfl (PySem.W.codeRec_of KX hcd) ?_
  refine hb _ _ _ _ (wpAny_newFunctionEnv_cells S.kind hk ?_)
  intro env he s1 x
  subst he
  refine ⟨lim.keeps x.toInCall.keep, ?_⟩
  refine codeAny_func ?_
  obtain ⟨t, ht, hq⟩ := hbody A outer s H vs Q E p c d gd (hr.deeper _) hz hf hsp
  have I := L2H.inv_startH (CX := CX) (N := N) (E := E) S hpin e0 hl r x
  refine wpAny_mono (ht.run [] s1 (start N vs) H _ I hq) ?_ (fun e s' hs => hs)
  intro fl s' hs
  cases fl with
  | ret u =>
    obtain ⟨v, σ', H', J, rv, q⟩ := hs
    exact ⟨v, H', J.os, J.bare, J.base, J.hok, rv, q⟩
  | next =>
    obtain ⟨σ', H', J, q⟩ := hs
    exact ⟨V.non, H', J.os, J.bare, J.base, J.hok, rfl, q⟩
  | brk =>
    obtain ⟨_, _, _, q⟩ := hs
    exact q.elim
  | cont =>
    obtain ⟨_, _, _, q⟩ := hs
    exact q.elim

section
variable {P : Program} {w : World} {K : PySem.W.Frag} {mg : Str → Option Value} {base : Heap}
theorem okP {x qual : Str} {st : Stmt} {f : Addr} {fd : FuncData} {N ps : List Str} {k : Nat} {sp : Addr → Value → Option Addr → Sp}
    (F : Fun K x qual st f fd) (S : FnScope N ps (defScope st)) (len : ∀ a c d vs H Q E, sp a c d vs H Q E → vs.length = ps.length)
    (hbody : ∀ (cdv : Value) (A : Around) (outer : List Env) (s : Shared) (H : Hp) (vs : List V) (Q : VK) (E : XK) (p : Addr × Obj)
      (c : Value) (d : Option Addr), A.guards = some [] → L2H.RoomH k (A.deeper (envOfC qual (defScope st) s.heap.objs.size f cdv)) →
      Zc c d p.2 → (∃ fv, p.2.data = .fields fv) → sp p.1 c d vs H Q E →
      ∃ t, PSs (L2H.cxH CX0 P w K mg base N qual (defScope st) f cdv A outer s H E p).nox (defBody st) t ∧
        t { nx := fun _ H' => Q .non H', rt := Q } (start N vs) H) :
    FnP P w K mg base CX0 (k + 1) f fd ps sp := by
  obtain ⟨oc, od, kV, doc, pm, an, cdv, ct, osl, rfl, lk, hcd⟩ := F.ex
  refine fnP_of lk hcd S len ?_
  intro A outer s H vs Q E p c d g hr hz hf hsp
  obtain ⟨t, h, q⟩ := hbody cdv A outer s H vs Q E p c d g hr hz hf hsp
  exact ⟨t, h.nox, q⟩
end

section
variable {X : Cx} {k : Nat} {f : Addr} {fd : FuncData} {ps : List Str} {sp : Addr → Value → Option Addr → Sp} {x : Str} {p pos : Pos} {e : Expr}
  {es : List Expr} {t : TA} {a : Addr} {oe : Obj} {st : Stmt} {c : Value} {d : Option Addr}
theorem pe_dfP (D : Df X.K X.mg x st ps f fd) (F : FnP X.prog X.w X.K X.mg X.base CX0 k f fd ps sp) (gd : X.A.guards = some [])
    (hr : L2H.RoomH k X.A) (hp : (a, oe) ∈ X.pn) (hz : Zc c d oe) (hf : ∃ fv, oe.data = .fields fv) (hg : Gl X x) (ha : PA X (e :: es) t)
    (hdb : (x == ("__debug__" : Str)) = false := by decide)
    (he : starEach (e :: es) X.env = (false, eval e X.env) :: starEach es X.env := by rfl)
    (hpl : (backTo pos (starEach es X.env)).any (·.1) = false := by rfl) :
    PE X (.Call (.Name x p) (e :: es) [] pos) (tCall (sp a c d) [] E0 t) := by
  constructor
  intro pins s σ H Q I h
  refine wpAny_Call_Name_kw (ld_glob I hg D.g ?_ hdb)
  refine PySem.W.callWith_K (h₀ := X.base) I.ok.mod.kin D.F.kp (thn (ha.run pos pins s σ H _ I h) ?_) he hpl
  rintro us s1 ⟨vs, H1, I1, r, q⟩
  refine ⟨I1.kIn, ?_⟩
  rw [List.append_nil] at q
  have hl : us.length = ps.length := r.length.symm.trans (F.len _ _ _ _ _ _ _ q)
  have b := D.b s1 us I1.kIn (by rw [List.append_nil]; exact hl)
  rw [List.append_nil] at b
  have P1 := I1.pin (a, oe) (List.mem_append_left _ hp)
  have hpin : L2H.PinOk X.stack H1 s1 (a, oe) := by
    refine ⟨P1.1, P1.2.1, ?_, P1.2.2.2.2⟩
    intro hm
    exact (List.mem_cons.mp (I1.stkSub a hm)).elim P1.2.2.1 P1.2.2.2.1
  refine wpAny_call (codeAny_mono (F.go X.A X.stack s1 H1 ⟨us, []⟩ us vs Q E0 (a, oe) c d gd hr hpin hz hf I1.env0 b r q) ?_)
  intro r s' hq
  cases r with
  | error e => exact hq.elim
  | ok fl =>
    cases fl with
    | ret u => exact I1.after hq
    | next => exact hq.elim
    | brk => exact hq.elim
    | cont => exact hq.elim
end
end LP

set_option Elab.async false
set_option linter.all false
set_option maxRecDepth 100000
set_option maxHeartbeats 4000000
/-! LPQ: facts of the classes of own errors by one look at the written part; their __init__. -/
namespace LP
open PySem PySem.Spec L2
open PyProof.Rows hiding St

/-- what is wanted of each own class of errors -/
structure Xk (K : PySem.W.Frag) (C : Addr) : Prop where
  ec : ExcC K C
  kC : PySem.W.keepIn K (.ref C) = true
  tyC : PySem.W.typeIn K (.ref C) = some (.type "type")
def xkB (K : PySem.W.Frag) (C : Addr) : Bool :=
  decide (PySem.W.findIn K (.ref C) "__getattribute__" = some (some (.builtin "BaseException.__getattribute__"))) &&
  decide (PySem.W.findIn K (.ref C) "__getattr__" = some none) &&
  decide (PySem.W.subIn K (.ref C) (.type "BaseException") = some true) &&
  PySem.W.hasDictIn K C &&
  decide (PySem.W.findIn K (.ref C) "__class__" = some (some (.builtin "object.__class__"))) &&
  decide (PySem.W.specialIn K (.builtin "object.__class__") "__get__" = some (some (.builtin "getset_descriptor.__get__"))) &&
  decide (PySem.W.takesIn K (.builtin "object.__class__") = some true) &&
  decide (PySem.W.mroIn K C (.type "object") = some true) &&
  PySem.W.keepIn K (.ref C) && decide (PySem.W.typeIn K (.ref C) = some (.type "type"))
theorem xk_of {K : PySem.W.Frag} {C : Addr} (h : xkB K C = true) : Xk K C := by
  unfold xkB at h
  simp only [Bool.and_eq_true, decide_eq_true_eq] at h
  obtain ⟨⟨⟨⟨⟨⟨⟨⟨⟨h1, h2⟩, h3⟩, h4⟩, h5⟩, h6⟩, h7⟩, h8⟩, h9⟩, h10⟩ := h
  exact ⟨⟨h1, h2, h3, h4, h5, h6, h7, h8⟩, h9, h10⟩
theorem Xk.xf {K : PySem.W.Frag} {C : Addr} (h : Xk K C) : XfC K C := ⟨h.ec.hg, h.ec.hk, h.ec.hs, h.ec.hd⟩
theorem Xk.raises {X : Cx} {C : Addr} (h : Xk X.K C) : Raises X (.ref C) := raises_own h.ec.hs h.tyC

/-- a class with an own __init__ that keeps f; B: what makes it; bmS: the built-in bases -/
def ocB (K : PySem.W.Frag) (C : Addr) (B newId : String) (bmS : List Value) (f : Str) : Bool := (match K.lookup C with
  | some ⟨.type "type", _, .cls cd, sl⟩ => (match cd.mro, sl.toList with
    | .ref C' :: bm, [_, _, _, _, some (.builtin n), _] => C' == C && n == newId && !cd.hasDel && cd.hasDict && bm.contains (.type B) &&
        !bm.contains (.type "AttributeError") && !bm.contains (.type "NameError")
    | _, _ => false)
  | _ => false) && PySem.W.excOver K C bmS &&
  decide (PySem.W.findIn K (.ref C) "__setattr__" = some (some (.builtin "object.__setattr__"))) &&
  decide (PySem.W.findIn K (.ref C) f = some none)
theorem oc_of {K : PySem.W.Frag} {C : Addr} {B B' newId initId : String} {bmB bmS : List Value} {f : Str}
    (F : ExcBaseFacts B newId initId bmB) (SF : StoreFacts B' bmS "object.__setattr__" "object") (x : Xk K C)
    (q : ocB K C B newId bmS f = true) : Oc K C f := by
  unfold ocB at q
  simp only [Bool.and_eq_true, decide_eq_true_eq] at q
  obtain ⟨⟨⟨q, h2⟩, h3⟩, h4⟩ := q
  refine ⟨?_, ⟨_, _, SF, h2⟩, h3, x.ec.hs, x.tyC, x.kC, x.ec.hd, h4⟩
  split at q
  · rename_i dd cd sl ho
    split at q
    · rename_i C' bm k0 k1 k2 k3 n k5 hm hs
      simp only [Bool.and_eq_true, beq_iff_eq, Bool.not_eq_true'] at q
      obtain ⟨⟨⟨⟨⟨⟨rfl, rfl⟩, hdel⟩, hdt⟩, c1⟩, c2⟩, c3⟩ := q
      obtain ⟨nm, bs, mro, ns, qn, hd, sn, sub, ab, col, del⟩ := cd
      dsimp only at hm hdel hdt
      subst hm hdel hdt
      have hsl : sl = #[k0, k1, k2, k3, some (.builtin n), k5] := by
        obtain ⟨l⟩ := sl
        simp only at hs
        rw [hs]
      subst hsl
      exact ⟨B, n, initId, bmB, bm, nm, qn, ns, bs, sn, sub, ab, col, dd, k0, k1, k2, k3, k5, F, ⟨c1, c2, c3⟩, ho⟩
    · cases q
  · cases q

/-- an own class whose __init__ keeps f: all that making it asks -/
structure Ok1 (K : PySem.W.Frag) (mg : Str → Option Value) (x : Str) (C : Addr) (f : Str) (st : Stmt) (ps : List Str) (fI : Addr) (fd : FuncData) : Prop where
  g : mg x = some (.ref C)
  k : Xk K C
  o : Oc K C f
  i : PySem.W.findIn K (.ref C) "__init__" = some (some (.ref fI))
  t : PySem.W.typeIn K (.ref fI) = some (.type "function")
  F : Fun K "__init__" (x ++ ".__init__") st fI fd
  b : Binds K fd ps []
/-- the j-th statement of a class's body -/
def mth (s : Stmt) (j : Nat) : Stmt := match s with
  | .ClassDef _ _ _ body _ _ _ _ _ _ _ => body.getD j (.Pass ⟨0, 0, 0, 0⟩)
  | _ => .Pass ⟨0, 0, 0, 0⟩

section
variable {P : Program} {w : World} {K : PySem.W.Frag} {mg : Str → Option Value} {base : Heap}
/-- def __init__(self, v): self.f = v -/
theorem ok_ini {x : Str} {C fI : Addr} {fd : FuncData} {f v : Str} {st : Stmt} {p1 p2 p3 p4 : Pos} {qn : Str}
    (F : Fun K "__init__" qn st fI fd) (T : Oc K C f) (S : FnScope ["self", v] ["self", v] (defScope st))
    (hb : defBody st = [.Assign [.Attribute (.Name "self" p1) f p2] (.Name v p3) p4])
    (h0 : Vis (defScope st) "self") (h1 : Vis (defScope st) v) (d1 : (v == ("__debug__" : Str)) = false) (d2 : (v == ("__classdict__" : Str)) = false) :
    FnOk P w K mg base CX0 1 fI fd ["self", v] (spIni K C f) := by
  refine F.ok S ?_ ?_
  · rintro vs H Q E ⟨a, y, rfl, _⟩
    rfl
  rintro cdv A outer s H vs Q E hr ⟨a, y, rfl, _, ha, q⟩
  rw [hb]
  refine ⟨_, pss_one (ps_os1 (pe_var (i := 0) rfl h0 (by decide) (by decide)) (pe_var (i := 1) rfl h1 d1 d2)), ?_⟩
  refine ⟨y, rfl, .ref a, rfl, a, C, rfl, T, ha, ?_⟩
  intro dx n ne
  exact q dx n ne
end
section
variable {X : Cx} {k : Nat} {C fI : Addr} {fd : FuncData} {ps : List Str} {x f : Str} {st : Stmt} {e : Expr} {ta : TA} {p pos : Pos}
theorem pe_new1 (D : Ok1 X.K X.mg x C f st ps fI fd) (G : FnOk X.prog X.w X.K X.mg X.base CX0 k fI fd ps (spIni X.K C f)) (hr : Room (k + 1) X.A)
    (hg : Gl X x) (ha : PA X [e] ta) (hdb : (x == ("__debug__" : Str)) = false := by decide)
    (he : starEach [e] X.env = (false, eval e X.env) :: starEach [] X.env := by rfl)
    (hpl : (backTo pos (starEach [] X.env)).any (·.1) = false := by rfl) :
    PE X (.Call (.Name x p) [e] [] pos) (tMkV C f ta) := pe_mkv D.o D.i D.t G hr D.b hg D.g ha hdb he hpl
theorem pmk_new1 (D : Ok1 X.K X.mg x C f st ps fI fd) (G : FnOk X.prog X.w X.K X.mg X.base CX0 k fI fd ps (spIni X.K C f)) (hr : Room (k + 1) X.A)
    (hg : Gl X x) (ha : PA X [e] ta) (hdb : (x == ("__debug__" : Str)) = false := by decide)
    (he : starEach [e] X.env = (false, eval e X.env) :: starEach [] X.env := by rfl)
    (hpl : (backTo pos (starEach [] X.env)).any (·.1) = false := by rfl) :
    PMk X (.Call (.Name x p) [e] [] pos) (tMkR C f ta) := pmk_mkr D.o D.i D.t G hr D.b hg D.g ha hdb he hpl
end

/-- an own class over ValueError without own __init__ -/
structure Ok0 (K : PySem.W.Frag) (mg : Str → Option Value) (x : Str) (C : Addr) : Prop where
  g : mg x = some (.ref C)
  k : Xk K C
  e : PySem.W.excIn K C [.type "ValueError", .type "Exception", .type "BaseException", .type "object"] "ValueError.__new__" = true
section
variable {X : Cx} {C : Addr} {x m : Str} {e : Expr} {ta : TE} {p p2 pos : Pos} {j : Nat}
def tMk0 (C : Addr) (ta : TE) : TE := fun σ H Q => ta σ H fun _ H1 => ∀ a, H1 a = none → Q (.ref a) (upd H1 a (exo a C none))
theorem pe_new0 (D : Ok0 X.K X.mg x C) (hg : Gl X x) (he : PE X e ta)
    (hs : starEach [e] X.env = (false, eval e X.env) :: starEach [] X.env := by rfl)
    (hdb : (x == ("__debug__" : Str)) = false := by decide) :
    PE X (.Call (.Name x p) [e] [] pos) (tMk0 C ta) := pe_mk0 PySem.F.excBase_ValueError D.e D.g D.k.kC hg he hs hdb
theorem pmk_new0 (D : Ok0 X.K X.mg x C) (hg : Gl X x) (hdb : (x == ("__debug__" : Str)) = false := by decide) :
    PMk X (.Call (.Name x p) [.Constant (.str m) j p2] [] pos) (fun _ H Q => Q (.ref C) none H) :=
  pmk_own PySem.F.excBase_ValueError D.e D.g D.k.kC D.k.raises hg hdb
end

/-! ### isinstance of errors, by a table -/
def isOf (K : PySem.W.Frag) (C : Addr) : V → Option Bool
  | .ty n => PySem.W.kitOne K (.ref C) (.type n)
  | .ref D => PySem.W.kitOne K (.ref C) (.ref D)
  | _ => none
def rIsA (K : PySem.W.Frag) (pn : List (Addr × Obj)) (a C : Addr) : List V → Hp → VK → Prop := fun xs H Q =>
  ∃ c b, xs = [.ref a, c] ∧ ExcC K C ∧ XAt pn H a C ∧ isOf K C c = some b ∧ Q (.bl b) H
theorem call_isA {X : Cx} {K : PySem.W.Frag} {pn : List (Addr × Obj)} {a C : Addr} (eK : X.K = K) (ep : X.pn = pn) : CallR X (.builtin "isinstance") (rIsA K pn a C) := by
  subst eK
  subst ep
  refine call_imp call_isX ?_
  rintro xs H Q ⟨c, b, rfl, T, hx, e, q⟩
  cases c with
  | ty n => exact ⟨a, C, .ty n, .type n, b, rfl, .ty n, T, hx, e, q⟩
  | ref D => exact ⟨a, C, .ref D, .ref D, b, rfl, .own D, T, hx, e, q⟩
  | _ => cases e

theorem lookup1 {n : Str} {v : V} : List.lookup n [(n, v)] = some v := by simp [List.lookup]
/-! ### 'x' * int(b) -/
def bi (b : Bool) : Int := if b then 1 else 0
theorem bi_inj {a b : Bool} : bi a = bi b ↔ a = b := by
  cases a <;> cases b <;> decide
def ob (b : Bool) (z : Str) : Str := if b then z else ""
theorem len_ob (b : Bool) (z : Str) : (ob b z).length ≤ z.length := by
  unfold ob
  cases b
  · exact Nat.zero_le _
  · exact Nat.le_refl _
theorem len_ob1 (b : Bool) (z : Str) (n : Nat) (h : z.length ≤ n) : (ob b z).length ≤ n := Nat.le_trans (len_ob b z) h
section
variable {X : Cx}
def rIntX : List V → Hp → VK → Prop := fun xs H Q => ∃ k, xs = [.bl k] ∧ Q (.int (bi k)) H
theorem call_intX : CallR X (.type "int") rIntX := call_imp call_intB fun xs H Q ⟨k, h, q⟩ => ⟨k, h, q⟩
theorem rep_bi (b : Bool) (z : Str) : repS z (bi b) = ob b z := by
  cases b
  · simp [repS, Txt.mul, bi, ob]
    rfl
  · simp [repS, Txt.mul, bi, ob]
def rBit : R2 := fun x y H Q => ∃ z b, x = .str z ∧ y = .int (bi b) ∧ z.length ≤ 100 ∧ Q (.str (ob b z)) H
theorem op_bit : OpR X (binaryOp .Mult) rBit := by
  refine op_imp op_repS ?_
  rintro x y H Q ⟨z, b, rfl, rfl, hl, q⟩
  refine ⟨z, bi b, rfl, rfl, ⟨?_, ?_, ?_⟩, ?_⟩
  · cases b <;> decide
  · cases b <;> decide
  · rw [sizeLine_eq]
    cases b
    · show z.length * 0 ≤ _
      omega
    · show z.length * 1 ≤ _
      omega
  · rw [rep_bi]
    exact q
end
end LP

set_option Elab.async false
set_option linter.all false
set_option maxRecDepth 100000
set_option maxHeartbeats 2000000
/-! LPB: a slotted class of the text with its methods and properties, in short. -/
namespace LP
open PySem PySem.Spec L2 SlX
open PyProof.Rows hiding St signs

/-- both ways; simp does not see it -/
structure Bi (a b : Prop) : Prop where
  mp : a → b
  mpr : b → a
theorem inv_bi {α : Type} (P : α → L2.St → Hp → Prop) : ∃ Pv : α → L2.St → Hp → Prop, ∀ i σ H, Bi (Pv i σ H) (P i σ H) := ⟨P, fun _ _ _ => ⟨id, id⟩⟩
theorem inv_bi2 {α : Type} (P : α → Hp → Prop) : ∃ Pv : α → Hp → Prop, ∀ i H, Bi (Pv i H) (P i H) := ⟨P, fun _ _ => ⟨id, id⟩⟩
theorem ps_dead {X : Cx} {st : Stmt} : PS X st (fun _ _ _ => False) := ⟨fun _ _ _ _ _ _ h => h.elim⟩
theorem pe_dead {X : Cx} {e : Expr} : PE X e (fun _ _ _ => False) := ⟨fun _ _ _ _ _ _ h => h.elim⟩
/-- a slotted class -/
structure Ob (K : PySem.W.Frag) (mg : Str → Option Value) (x : Str) (C : Addr) : Prop where
  g : mg x = some (.ref C)
  sc : SCls K C
  si : SIsi K C
  kp : PySem.W.keepIn K (.ref C) = true
  mks : PySem.W.makesIn K C = true
  ne : PySem.W.findIn K (.ref C) "__ne__" = some (some (.builtin "object.__ne__"))
  sf : PySem.W.selfFirst K C = true
  nf : PySem.W.notFirst K C (.ref C) = true
  kit : PySem.W.kitOne K (.ref C) (.ref C) = some true
def obB (K : PySem.W.Frag) (C : Addr) : Bool :=
  PySem.W.plainGet K C Str.empty && PySem.W.isClsIn K C && PySem.W.plainOver K C &&
  decide (PySem.W.findIn K (.ref C) "__setattr__" = some (some (.builtin "object.__setattr__"))) &&
  decide (PySem.W.findIn K (.ref C) "__class__" = some (some (.builtin "object.__class__"))) &&
  decide (PySem.W.specialIn K (.builtin "object.__class__") "__get__" = some (some (.builtin "getset_descriptor.__get__"))) &&
  decide (PySem.W.takesIn K (.builtin "object.__class__") = some true) && decide (PySem.W.mroIn K C (.type "object") = some true) &&
  PySem.W.keepIn K (.ref C) && PySem.W.makesIn K C && decide (PySem.W.findIn K (.ref C) "__ne__" = some (some (.builtin "object.__ne__"))) &&
  PySem.W.selfFirst K C && PySem.W.notFirst K C (.ref C) && decide (PySem.W.kitOne K (.ref C) (.ref C) = some true)
theorem ob_of {K : PySem.W.Frag} {mg : Str → Option Value} {x : Str} {C : Addr} (g : mg x = some (.ref C)) (h : obB K C = true) : Ob K mg x C := by
  unfold obB at h
  simp only [Bool.and_eq_true, decide_eq_true_eq] at h
  obtain ⟨⟨⟨⟨⟨⟨⟨⟨⟨⟨⟨⟨⟨h1, h2⟩, h3⟩, h4⟩, h5⟩, h6⟩, h7⟩, h8⟩, h9⟩, h10⟩, h11⟩, h12⟩, h13⟩, h14⟩ := h
  exact ⟨g, ⟨h1, h2, h3, h4⟩, ⟨h5, h6, h7, h8⟩, h9, h10, h11, h12, h13, h14⟩
/-- the slot f at the place i -/
def slB (K : PySem.W.Frag) (C p : Addr) (f : Str) (i : Nat) : Bool :=
  decide (PySem.W.findIn K (.ref C) f = some (some (.ref p))) && decide (PySem.W.specialIn K (.ref p) "__get__" = some (some (.builtin "member_descriptor.__get__"))) &&
  decide (PySem.W.takesIn K (.ref p) = some true) && decide (PySem.W.typeIn K (.ref p) = some (.type "member_descriptor")) && decide (PySem.W.slotIn K p C = some i) && decide (i < 1000)
theorem sl_of {K : PySem.W.Frag} {C p : Addr} {f : Str} {i : Nat} (h : slB K C p f i = true) : Slot1 K C f p i := by
  unfold slB at h
  simp only [Bool.and_eq_true, decide_eq_true_eq] at h
  obtain ⟨⟨⟨⟨⟨h1, h2⟩, h3⟩, h4⟩, h5⟩, h6⟩ := h
  exact ⟨h1, h2, h3, h4, h5, h6⟩
/-- a def of the class -/
structure Mt (K : PySem.W.Frag) (C : Addr) (m q : Str) (st : Stmt) (ps : List Str) (f : Addr) (fd : FuncData) : Prop where
  F : Fun K m q st f fd
  at_ : PySem.W.findIn K (.ref C) m = some (some (.ref f))
  fn : PySem.W.isFn K (.ref f) = true
  b : Binds K fd ps []
theorem Mt.m {K : PySem.W.Frag} {C : Addr} {m q : Str} {st : Stmt} {ps : List Str} {f : Addr} {fd : FuncData} (D : Mt K C m q st ps f fd) : Meth K C m f := ⟨D.at_, D.fn, D.F.kp⟩
/-- a property of the class -/
structure Pt (K : PySem.W.Frag) (C : Addr) (m q : Str) (st : Stmt) (ps : List Str) (p f : Addr) (fd : FuncData) : Prop where
  F : Fun K m q st f fd
  at_ : PySem.W.findIn K (.ref C) m = some (some (.ref p))
  get : PySem.W.specialIn K (.ref p) "__get__" = some (some (.builtin "property.__get__"))
  tk : PySem.W.takesIn K (.ref p) = some true
  rc : ∃ rest, PySem.W.recIn K p "property" = some (.ref f :: rest)
  b : Binds K fd ps []

section
variable {X : Cx} {k : Nat} {C f p : Addr} {fd : FuncData} {ps : List Str} {sp : Sp} {x m q : Str} {st : Stmt} {np pos apos : Pos} {e o : Expr} {es : List Expr} {ta : TE} {t : TA}
/-- o.f, the i-th slot of an instance of the class at C -/
def tSlot (C : Addr) (i : Nat) (ta : TE) : TE := fun σ H Q => ta σ H fun x H1 => ∃ a dx vs v, x = .ref a ∧ Slt H1 a C dx vs ∧ vs[i]? = some (some v) ∧ Q v H1
theorem pe_slot {g : Str} {i : Nat} (O : Ob X.K X.mg x C) (S : Slot1 X.K C g p i) (he : PE X e ta) (hb : attributeBase e g X.env (eval e X.env) = eval e X.env := by rfl) : PE X (.Attribute e g pos) (tSlot C i ta) := by
  refine ⟨fun pins s σ H Q I h => ?_⟩
  refine attr_of hb (thn (he.run pins s σ H _ I h) fun u s1 ⟨x, H1, I1, rx, a, dx, vs, v, ex, hs, l, q⟩ => ?_)
  subst ex
  obtain rfl : u = Value.ref a := rx
  exact getslot_ok I1 hs O.sc S l fun u' s2 I2 ru => ⟨v, H1, I2, ru, q⟩
/-- o.m, a property -/
theorem pe_pr (O : Ob X.K X.mg x C) (D : Pt X.K C m q st ps p f fd) (G : FnOk X.prog X.w X.K X.mg X.base CX0 k f fd ps sp) (hr : Room (k + 1) X.A) (he : PE X o ta) (hb : attributeBase o m X.env (eval o X.env) = eval o X.env := by rfl) :
    PE X (.Attribute o m pos) (tPropSl C sp E0 ta) := pe_propSl he O.sc D.at_ D.get D.tk D.rc (toR G D.b) hr (fun _ _ _ _ z => z) hb
/-- o.m(e, ..) -/
theorem pe_mt {pl : Sem Bool} (O : Ob X.K X.mg x C) (D : Mt X.K C m q st ps f fd) (G : FnOk X.prog X.w X.K X.mg X.base CX0 k f fd ps sp) (hr : Room k X.A) (he : PE X o ta) (ha : PA X (e :: es) t)
    (hst : starEach (e :: es) X.env = (false, eval e X.env) :: starEach es X.env := by rfl) (hpl : (backTo pos (starEach es X.env)).any (·.1) = false := by rfl)
    (ht : eval (.Call (.Attribute o m apos) (e :: es) [] pos) X.env = (do
      let ov ← eval o X.env
      standAt apos.atName
      let (f, first) ← holding [ov] (getMethod ov m pl)
      callWith pos f first (backTo pos (starEach (e :: es) X.env)) (backToKw pos (keywordEach [] X.env))) := by rfl) :
    PE X (.Call (.Attribute o m apos) (e :: es) [] pos) (tMethSl C sp E0 ta t) := pe_methSl he O.sc D.m (toR G D.b) hr pass0 ha hst hpl ht
theorem pe_mt0 {pl : Sem Bool} (O : Ob X.K X.mg x C) (D : Mt X.K C m q st ps f fd) (G : FnOk X.prog X.w X.K X.mg X.base CX0 k f fd ps sp) (hr : Room k X.A) (he : PE X o ta)
    (ht : eval (.Call (.Attribute o m apos) [] [] pos) X.env = (do
      let ov ← eval o X.env
      standAt apos.atName
      let (f, first) ← holding [ov] (getMethod ov m pl)
      callWith pos f first (backTo pos (starEach [] X.env)) (backToKw pos (keywordEach [] X.env))) := by rfl) :
    PE X (.Call (.Attribute o m apos) [] [] pos) (tMethSl C sp E0 ta tNil) := pe_methSl0 he O.sc D.m (toR G D.b) hr pass0 ht
/-- C(e, ..) -/
theorem pe_mkS (O : Ob X.K X.mg x C) (D : Mt X.K C "__init__" q st ps f fd) (G : FnOk X.prog X.w X.K X.mg X.base CX0 k f fd ps sp) (hr : Room (k + 1) X.A) (hg : Gl X x) (ha : PA X (e :: es) t) (hdb : (x == ("__debug__" : Str)) = false := by decide)
    (he : starEach (e :: es) X.env = (false, eval e X.env) :: starEach es X.env := by rfl) (hpl : (backTo pos (starEach es X.env)).any (·.1) = false := by rfl) : PE X (.Call (.Name x np) (e :: es) [] pos) (StX.tMakeR C sp E0 t) :=
  StX.pe_makeR ⟨O.mks, D.at_, D.fn, O.kp⟩ (toR G D.b) hr hg O.g pass0 ha hdb he hpl
theorem op_eqS (O : Ob X.K X.mg x C) (D : Mt X.K C "__eq__" q st ps f fd) (G : FnOk X.prog X.w X.K X.mg X.base CX0 k f fd ps sp) (hr : Room k X.A) : OpR X (compareOp .Eq) (rOwn X.K C sp E0) :=
  op_own (fun _ _ => rfl) D.at_ D.fn (toR G D.b) hr pass0
theorem op_neS (O : Ob X.K X.mg x C) (D : Mt X.K C "__eq__" q st ps f fd) (G : FnOk X.prog X.w X.K X.mg X.base CX0 k f fd ps sp) (hr : Room (k + 1) X.A) : OpR X (compareOp .NotEq) (rOwnNe X.K C sp E0) :=
  op_ownNe O.si.cm O.ne D.at_ D.fn (toR G D.b) hr pass0
theorem op_binS {op : Operator} (O : Ob X.K X.mg x C) (D : Mt X.K C (PySem.dunder op.info.2) q st ps f fd) (G : FnOk X.prog X.w X.K X.mg X.base CX0 k f fd ps sp) (hr : Room k X.A) : OpR X (binaryOp op) (rOwnB C sp E0) :=
  op_ownB O.sf D.at_ D.fn (toR G D.b) hr pass0
theorem call_strS (D : Mt X.K C "__str__" q st ps f fd) (G : FnOk X.prog X.w X.K X.mg X.base CX0 k f fd ps sp) (hr : Room (k + 2) X.A) : CallR X (.type "str") (rStrOwn C sp E0) :=
  call_strOwn D.at_ D.fn (toR G D.b) hr pass0
/-- isinstance(x, C), x of the class itself -/
def rIsS (C : Addr) : List V → Hp → VK → Prop := fun xs H Q => ∃ a dx vs, xs = [V.ref a, .ref C] ∧ Slt H a C dx vs ∧ Q (.bl true) H
theorem call_isS (O : Ob X.K X.mg x C) : CallR X (.builtin "isinstance") (rIsS C) := by
  intro pins s σ H xs us Q I r h
  obtain ⟨a, dx, vs, rfl, hs, q⟩ := h
  exact call_isiSl (.ref C) pins s σ H _ us Q I r ⟨a, C, dx, vs, .ref C, true, rfl, rfl, fun w e => e, hs, O.sc, O.si, O.kit, q⟩
/-- x(e, ..) by a promise by positional values -/
theorem pe_dfR (F : FnR X.prog X.w X.K X.mg X.base CX0 k f sp) (hr : Room k X.A) (hk : PySem.W.keepIn X.K (.ref f) = true) (hg : Gl X x) (hm : X.mg x = some (.ref f)) (ha : PA X (e :: es) t) (hdb : (x == ("__debug__" : Str)) = false := by decide)
    (he : starEach (e :: es) X.env = (false, eval e X.env) :: starEach es X.env := by rfl) (hpl : (backTo pos (starEach es X.env)).any (·.1) = false := by rfl) :
    PE X (.Call (.Name x np) (e :: es) [] pos) (fun σ H Q => t σ H fun vs H1 => sp vs H1 Q E0) := by
  refine ⟨fun pins s σ H Q I h => ?_⟩
  refine wpAny_Call_Name_kw (ld_glob I hg hm ?_ hdb)
  refine PySem.W.callWith_K (h₀ := X.base) I.ok.mod.kin hk (thn (ha.run pos pins s σ H _ I h) fun us s1 ⟨vs, H1, I1, r, q⟩ => ⟨I1.kIn, ?_⟩) he hpl
  exact wpAny_call (run_fnR F hr pass0 I1 r q)
end
/-- def f( *v) of the text -/
structure Sf (K : PySem.W.Frag) (mg : Str → Option Value) (x : Str) (st : Stmt) (pv : Str) (f : Addr) (fd : FuncData) : Prop where
  F : Fun K x x st f fd
  g : mg x = some (.ref f)
  b : ∀ rest : List Value, bindArgs fd ⟨rest, []⟩ = (newTuple rest >>= fun t => pure [(pv, t)])
theorem Sf.ok {P : Program} {w : World} {K : PySem.W.Frag} {mg : Str → Option Value} {base : Heap} {x : Str} {st : Stmt} {pv : Str} {f : Addr} {fd : FuncData} {N : List Str} {k : Nat} {sp : Sp} (D : Sf K mg x st pv f fd) (S : FnScope N [pv] (defScope st))
    (hbody : ∀ (cdv : Value) (A : Around) (outer : List Env) (s : Shared) (H : Hp) (vs : List V) (Q : VK) (E : XK), Room k (A.deeper (envOfC x (defScope st) s.heap.objs.size f cdv)) → sp vs H Q E →
      ∃ t, PSs (cxOf CX0 P w K mg base N x (defScope st) f cdv A outer s H E).nox (defBody st) t ∧ t { nx := fun _ H' => Q .non H', rt := Q } (start N vs) H) :
    FnR P w K mg base CX0 (k + 1) f (fun vs H Q E => vs.length ≤ sizeLine ∧ ∀ p, H p = none → sp [V.ref p] (upd H p (.tup vs)) Q E) := by
  obtain ⟨oc, od, kV, doc, pm, an, cdv, ct, osl, rfl, lk, hcd⟩ := D.F.ex
  refine (StX.fn_star (ps := []) (pv := pv) (sp := sp) lk hcd S StX.cxUp_none (fun us rest hl => ?_) fun A outer s H vs Q E hr hsp => ?_).imp fun vs H Q E h => ⟨[], vs, rfl, rfl, h.1, h.2⟩
  · have e : us = [] := List.length_eq_zero_iff.mp hl
    subst e
    exact D.b rest
  · obtain ⟨t, h, q⟩ := hbody cdv A outer s H vs Q E hr hsp
    exact ⟨t, h.nox, q⟩
theorem Same.slt {H H' : Hp} {a C dx : Addr} {vs : List (Option V)} (e : Same H H') (h : Slt H a C dx vs) : Slt H' a C dx vs := by
  rcases h with ⟨h1, h2⟩ | ⟨h1, h2⟩
  · exact .inl ⟨e _ _ h1, h2⟩
  · exact .inr ⟨e _ _ h1, e _ _ h2⟩
/-- behind a store into a new instance: all that was there stays -/
theorem Same.made {H : Hp} {x dx C : Addr} {vs : List (Option V)} (hx : H x = none) (hd : H dx = none) : Same H (slH (upd (upd H dx (.own x)) x (.ins C dx [])) x C dx vs) := fun b o e => by
  have h1 := ne_of_none e hx
  have h2 := ne_of_none e hd
  rw [slH_ne h1 h2, upd_ne h1, upd_ne h2]
  exact e
end LP
/-! ### the same rules with the written part told: for use within comprehensions -/
namespace LP
open PySem PySem.Spec L2 SlX
open PyProof.Rows hiding St signs
section
variable {X : Cx} {K : PySem.W.Frag}
def rLenS (K : PySem.W.Frag) : List V → Hp → VK → Prop := fun xs H Q => ∃ p ys, xs = [.ref p] ∧ (SqL K H p ys ∨ SqT K H p ys) ∧ Q (.int ys.length) H
theorem call_lenK (hK : X.K = K) : CallR X (.builtin "len") (rLenS K) := by subst hK; exact call_len_seq
theorem ix_tupK (hK : X.K = K) : IxR X (rIxT K) := by subst hK; exact ix_tup
theorem ix_listK (hK : X.K = K) : IxR X (rIxL K) := by subst hK; exact ix_list
def rTupOf (K : PySem.W.Frag) : List V → Hp → VK → Prop := fun xs H Q => ∃ p ys, xs = [.ref p] ∧ ((SqL K H p ys ∧ ∀ l, H l = none → Q (.ref l) (upd H l (.tup ys))) ∨ (SqT K H p ys ∧ Q (.ref p) H))
theorem call_tupleK (hK : X.K = K) : CallR X (.type "tuple") (rTupOf K) := by subst hK; exact call_tuple_of
theorem cr_minK' (hK : X.K = K) (hc : X.calm = true) : CallR X (.builtin "min") (rMin K) := by subst hK; exact cr_min hc
theorem cr_maxK' (hK : X.K = K) (hc : X.calm = true) : CallR X (.builtin "max") (rMax K) := by subst hK; exact cr_max hc
theorem pi_tupK {tg l : Expr} {tl : TE} (hK : X.K = K) (hl : PE X l tl) : PI X tg l (iTup K tl) := by subst hK; exact pi_tup hl
theorem pi_listK {tg l : Expr} {tl : TE} (hK : X.K = K) (hl : PE X l tl) : PI X tg l (iList K tl) := by subst hK; exact pi_list hl
theorem pi_zipNK {tg e : Expr} {es : List Expr} {ta : TA} {p pos : Pos} (hK : X.K = K) (hg : Gl X "zip") (hm : X.mg "zip" = none) (ha : PA X (e :: es) ta)
    (hs : starEach (e :: es) X.env = (false, eval e X.env) :: starEach es X.env := by rfl) (hpl : (backTo pos (starEach es X.env)).any (·.1) = false := by rfl) :
    PI X tg (.Call (.Name "zip" p) (e :: es) [] pos) (LZ.iZipN K ta) := by subst hK; exact LZ.pi_zipN hg hm ha hs hpl
theorem pi_zipSK {tg e : Expr} {te : TE} {p sp_ pos : Pos} (hK : X.K = K) (hg : Gl X "zip") (hm : X.mg "zip" = none) (he : PE X e te)
    (hst : starEach [.Starred e sp_] X.env = [(true, eval e X.env)] := by rfl) :
    PI X tg (.Call (.Name "zip" p) [.Starred e sp_] [] pos) (LZ.iZipS K te) := by subst hK; exact LZ.pi_zipS hg hm he hst
theorem pi_enumNK {tg e : Expr} {ta : TA} {p pos : Pos} (hK : X.K = K) (hg : Gl X "enumerate") (hm : X.mg "enumerate" = none) (ha : PA X [e] ta) (hs : starEach [e] X.env = [(false, eval e X.env)] := by rfl) :
    PI X tg (.Call (.Name "enumerate" p) [e] [] pos) (LZ.iEnumN K ta) := by subst hK; exact LZ.pi_enumN hg hm ha hs
def rLenTM : List V → Hp → VK → Prop := fun xs H Q => ∃ p ys, xs = [.ref p] ∧ H p = some (.tup ys) ∧ Q (.int ys.length) H
theorem call_lenT : CallR X (.builtin "len") rLenTM := call_imp call_len_seq fun xs H Q ⟨p, ys, h1, h2, q⟩ => ⟨p, ys, h1, .inr (SqT.of h2), q⟩
def rIxTM : R2 := fun x y H Q => ∃ p xs i v, x = .ref p ∧ y = .int i ∧ H p = some (.tup xs) ∧ atI xs i = some v ∧ Q v H
theorem ix_TM : IxR X rIxTM := ix_imp ix_tup fun x y H Q ⟨p, xs, i, v, h1, h2, h3, h4, q⟩ => ⟨p, xs, i, v, h1, h2, SqT.of h3, h4, q⟩
def rTupM : List V → Hp → VK → Prop := fun xs H Q => ∃ p ys, xs = [.ref p] ∧ H p = some (.lst ys) ∧ ∀ l, H l = none → Q (.ref l) (upd H l (.tup ys))
theorem call_tupM : CallR X (.type "tuple") rTupM := call_imp call_tuple_of fun xs H Q ⟨p, ys, h1, h2, q⟩ => ⟨p, ys, h1, .inl ⟨SqL.of h2, q⟩⟩
def rJoin (K : PySem.W.Frag) : V → List V → Hp → VK → Prop := fun x xs H Q => ∃ a p, ∃ ys : List Str, x = .str a ∧ xs = [.ref p] ∧ (SqL K H p (ys.map V.str) ∨ SqT K H p (ys.map V.str)) ∧
    (ys.map (·.length)).sum + ys.length * a.length ≤ 16777216 ∧ Q (.str (Txt.join a ys)) H
theorem mt_joinK (hK : X.K = K) : MtR X "str.join" (rJoin K) := by subst hK; exact mt_join
theorem pg_tupK {es : List Expr} {k : Nat} {t : TGs} {n : Nat} {pos : Pos} (hK : X.K = K) (hc : X.calm = true) (h : PGs X es t)
    (hn : (assignEach es X.env).length = n := by rfl) (hst : (assignEach es X.env).findIdx? (·.1) = none := by rfl) : PG X (.Tuple es k pos) (gTup K n t) := by subst hK; exact pg_tup hc h hn hst
theorem pg_lstK {es : List Expr} {k : Nat} {t : TGs} {n : Nat} {pos : Pos} (hK : X.K = K) (hc : X.calm = true) (h : PGs X es t)
    (hn : (assignEach es X.env).length = n := by rfl) (hst : (assignEach es X.env).findIdx? (·.1) = none := by rfl) : PG X (.Tuple es k pos) (gLst K n t) := by subst hK; exact pg_lst hc h hn hst
theorem pe_slK {e : Expr} {f : Str} {pos : Pos} {ta : TE} (hK : X.K = K) (he : PE X e ta) (hb : attributeBase e f X.env (eval e X.env) = eval e X.env := by rfl) : PE X (.Attribute e f pos) (tSl K ta f) := by subst hK; exact pe_sl he hb
theorem op_eqSK {C f : Addr} {fd : FuncData} {ps : List Str} {sp : Sp} {x q : Str} {st : Stmt} {k : Nat} (hK : X.K = K) (O : Ob X.K X.mg x C) (D : Mt X.K C "__eq__" q st ps f fd) (G : FnOk X.prog X.w X.K X.mg X.base CX0 k f fd ps sp) (hr : Room k X.A) : OpR X (compareOp .Eq) (rOwn K C sp E0) := by
  subst hK; exact op_eqS O D G hr
theorem op_neSK {C f : Addr} {fd : FuncData} {ps : List Str} {sp : Sp} {x q : Str} {st : Stmt} {k : Nat} (hK : X.K = K) (O : Ob X.K X.mg x C) (D : Mt X.K C "__eq__" q st ps f fd) (G : FnOk X.prog X.w X.K X.mg X.base CX0 k f fd ps sp) (hr : Room (k + 1) X.A) : OpR X (compareOp .NotEq) (rOwnNe K C sp E0) := by
  subst hK; exact op_neS O D G hr
end
end LP

set_option Elab.async false
set_option linter.all false
set_option maxRecDepth 100000
set_option maxHeartbeats 2000000
/-! LPD: plain instances (with a dict), own in, len, call; own == beside a plain value; isinstance of both kinds. -/
namespace LP
open PySem PySem.Spec L2 SlX
open PyProof.Rows hiding St signs
/-- a plain class -/
structure Oq (K : PySem.W.Frag) (mg : Str → Option Value) (x : Str) (C : Addr) : Prop where
  g : mg x = some (.ref C)
  cl : Cls K C
  kp : PySem.W.keepIn K (.ref C) = true
  mks : PySem.W.makesIn K C = true
def oqB (K : PySem.W.Frag) (C : Addr) : Bool :=
  PySem.W.plainGet K C Str.empty && PySem.W.hasDictIn K C && PySem.W.plainOver K C &&
  decide (PySem.W.findIn K (.ref C) "__setattr__" = some (some (.builtin "object.__setattr__"))) && PySem.W.keepIn K (.ref C) && PySem.W.makesIn K C
theorem oq_of {K : PySem.W.Frag} {mg : Str → Option Value} {x : Str} {C : Addr} (g : mg x = some (.ref C)) (h : oqB K C = true) : Oq K mg x C := by
  unfold oqB at h
  simp only [Bool.and_eq_true, decide_eq_true_eq] at h
  obtain ⟨⟨⟨⟨⟨h1, h2⟩, h3⟩, h4⟩, h5⟩, h6⟩ := h
  exact ⟨g, ⟨h1, h2, h3, h4⟩, h5, h6⟩
section
variable {X : Cx} {k : Nat} {C f p : Addr} {fd : FuncData} {ps : List Str} {sp : Sp} {x m q : Str} {st : Stmt} {np pos apos : Pos} {e o value : Expr} {es : List Expr} {ta tv : TE} {t : TA}
/-- o.f, an attribute of an instance of the class at C -/
def tFldC (C : Addr) (f : Str) (ta : TE) : TE := fun σ H Q => ta σ H fun x H1 => ∃ a dx fs v, x = .ref a ∧ H1 a = some (.ins C dx fs) ∧ fs.lookup f = some v ∧ Q v H1
theorem pe_fldC {g : Str} (O : Oq X.K X.mg x C) (n : NoAttr X.K C g) (he : PE X e ta) (hb : attributeBase e g X.env (eval e X.env) = eval e X.env := by rfl) : PE X (.Attribute e g pos) (tFldC C g ta) := by
  refine ⟨fun pins s σ H Q I h => ?_⟩
  refine attr_of hb (thn (he.run pins s σ H _ I h) fun u s1 ⟨x, H1, I1, rx, a, dx, fs, v, ex, hs, l, q⟩ => ?_)
  subst ex
  obtain rfl : u = Value.ref a := rx
  exact getattr_ok I1 hs O.cl n l fun u' s2 I2 ru => ⟨v, H1, I2, ru, q⟩
def sFldC (C : Addr) (f : Str) (ta tv : TE) : TS := fun D σ H => tv σ H fun y H1 => ta σ H1 fun x H2 => ∃ a dx fs, x = .ref a ∧ H2 a = some (.ins C dx fs) ∧ fs.length < 1000 ∧ D.nx σ (upd H2 a (.ins C dx (putF f y fs)))
theorem ps_fldC {g : Str} {pos' : Pos} (O : Oq X.K X.mg x C) (n : NoAttr X.K C g) (ha : PE X o ta) (hv : PE X value tv) (hs : swapsWith value (some (.Attribute o g pos')) pos.line X.env = pure false := by rfl) : PS X (.Assign [.Attribute o g pos'] value pos) (sFldC C g ta tv) := by
  refine ⟨fun pins s σ H D I h => ?_⟩
  refine plainObj_wpAny_Assign_Attribute (thn (hv.run pins s σ H _ I h) fun u s1 ⟨y, H1, I1, ry, q⟩ => thn (ha.run pins s1 σ H1 _ I1 q) fun ov s2 ⟨x, H2, I2, rx, a, dx, fs, ex, ea, l, q2⟩ => ?_) hs
  subst ex
  obtain rfl : ov = Value.ref a := rx
  exact setattr_ok I2 ea O.cl n l ry fun s3 I3 => ⟨σ, _, I3, q2⟩
theorem pe_mtP {pl : Sem Bool} (O : Oq X.K X.mg x C) (D : Mt X.K C m q st ps f fd) (G : FnOk X.prog X.w X.K X.mg X.base CX0 k f fd ps sp) (hr : Room k X.A) (he : PE X o ta) (ha : PA X (e :: es) t)
    (hst : starEach (e :: es) X.env = (false, eval e X.env) :: starEach es X.env := by rfl) (hpl : (backTo pos (starEach es X.env)).any (·.1) = false := by rfl)
    (ht : eval (.Call (.Attribute o m apos) (e :: es) [] pos) X.env = (do
      let ov ← eval o X.env
      standAt apos.atName
      let (f, first) ← holding [ov] (getMethod ov m pl)
      callWith pos f first (backTo pos (starEach (e :: es) X.env)) (backToKw pos (keywordEach [] X.env))) := by rfl) :
    PE X (.Call (.Attribute o m apos) (e :: es) [] pos) (tMeth C m sp [] E0 ta t) := pe_meth he O.cl D.m G hr D.b .nil pass0 ha hst hpl ht
theorem pe_mkP (O : Oq X.K X.mg x C) (D : Mt X.K C "__init__" q st ps f fd) (G : FnOk X.prog X.w X.K X.mg X.base CX0 k f fd ps sp) (hr : Room (k + 1) X.A) (hg : Gl X x) (ha : PA X (e :: es) t) (hdb : (x == ("__debug__" : Str)) = false := by decide)
    (he : starEach (e :: es) X.env = (false, eval e X.env) :: starEach es X.env := by rfl) (hpl : (backTo pos (starEach es X.env)).any (·.1) = false := by rfl) : PE X (.Call (.Name x np) (e :: es) [] pos) (StX.tMakeR C sp E0 t) :=
  StX.pe_makeR ⟨O.mks, D.at_, D.fn, O.kp⟩ (toR G D.b) hr hg O.g pass0 ha hdb he hpl
/-- x in y, y an instance with an own __contains__ -/
def rInOwn (C : Addr) (sp : Sp) (E : XK) : R2 := fun x y H Q => ∃ a dx vs, y = .ref a ∧ Slt H a C dx vs ∧ sp [y, x] H (fun z H' => ∃ b, z = .bl b ∧ Q (.bl b) H') E
theorem op_inS (D : Mt X.K C "__contains__" q st ps f fd) (G : FnOk X.prog X.w X.K X.mg X.base CX0 k f fd ps sp) (hr : Room k X.A) : OpR X (compareOp .In) (rInOwn C sp E0) := by
  intro pins s σ H x y v u Q I rx ry h
  obtain ⟨a, dx, vs, rfl, ha, q⟩ := h
  cases (show u = Value.ref a from ry)
  obtain ⟨sl, od, _, J, _⟩ := slt_inst I ha
  obtain ⟨m, hF⟩ := I.fr
  refine PySem.W.in_K hF I.ok.mod.kin J D.at_ D.fn ?_
  refine wpAny_mono (wpAny_call (run_fnR (us := [.ref a, v]) (vs := [.ref a, x]) (toR G D.b) hr pass0 I (.cons rfl (.cons rx .nil)) q)) (fun w s' z => ?_) fun _ _ x => x
  obtain ⟨z', H', I', rz, b, eb, qz⟩ := z
  subst eb
  cases (show w = Value.bool b from rz)
  exact wpAny_truthy_bool ⟨.bl b, H', I', rfl, qz⟩
/-- len(x) by an own __len__ -/
def rLenOwn (C : Addr) (sp : Sp) (E : XK) : List V → Hp → VK → Prop := fun xs H Q => ∃ a dx vs, xs = [V.ref a] ∧ Slt H a C dx vs ∧ sp [.ref a] H (fun z H' => ∃ n : Nat, z = .int (n : Int) ∧ n < 2 ^ 63 ∧ Q z H') E
theorem call_lenS (D : Mt X.K C "__len__" q st ps f fd) (G : FnOk X.prog X.w X.K X.mg X.base CX0 k f fd ps sp) (hr : Room (k + 1) X.A) : CallR X (.builtin "len") (rLenOwn C sp E0) := by
  intro pins s σ H xs us Q I r h
  obtain ⟨a, dx, vs, rfl, hsl, q⟩ := h
  obtain ⟨u, rfl, ru⟩ := r.one
  cases (show u = Value.ref a from ru)
  obtain ⟨sl, od, _, J, _⟩ := slt_inst I hsl
  obtain ⟨m, hF⟩ := I.fr
  refine PySem.W.len_K hF I.ok.mod.kin J D.at_ D.fn (wpAny_mono (wpAny_call (run_at (us := [.ref a]) (ws := [.ref a]) (toR G D.b) hr.in1 I.env0.in1 pass0 I (.cons rfl .nil) q)) (fun w s' z => ?_) fun _ _ x => x)
  obtain ⟨z', H', I', rz, n, ez, hn, qz⟩ := z
  subst ez
  obtain ⟨t, e⟩ := (show ∃ t, w = Value.int n t from rz)
  cases e
  exact ⟨⟨by omega, by omega⟩, .int n, H', I'.tok _, ⟨_, rfl⟩, qz⟩
/-- f(e, ..), f gives an instance of the class at C -/
def tCallS (C : Addr) (sp : Sp) (tf : TE) (t : TA) : TE := fun σ H Q => tf σ H fun y H1 => ∃ a, y = V.ref a ∧ t σ H1 fun vs H2 => (∃ dx ws, Slt H2 a C dx ws) ∧ sp (V.ref a :: vs) H2 Q E0
theorem pe_callS {fe : Expr} {tf : TE} (D : Mt X.K C "__call__" q st ps f fd) (hfi : PySem.W.fnIn X.K f = true) (G : FnOk X.prog X.w X.K X.mg X.base CX0 k f fd ps sp) (hr : Room k X.A) (hf : PE X fe tf) (ha : PA X (e :: es) t)
    (ht : eval (.Call fe (e :: es) [] pos) X.env = (do callWith pos (← eval fe X.env) [] (backTo pos (starEach (e :: es) X.env)) (backToKw pos (keywordEach [] X.env))) := by rfl)
    (he : starEach (e :: es) X.env = (false, eval e X.env) :: starEach es X.env := by rfl) (hpl : (backTo pos (starEach es X.env)).any (·.1) = false := by rfl) : PE X (.Call fe (e :: es) [] pos) (tCallS C sp tf t) := by
  refine ⟨fun pins s σ H Q I h => ?_⟩
  have c : StX.CallO X.K C f := ⟨D.at_, D.fn, hfi⟩
  refine Call_ (thn (hf.run pins s σ H _ I h) fun u s1 ⟨y, H1, I1, ry, a, ey, q⟩ => ?_) ht
  subst ey
  obtain rfl : u = Value.ref a := ry
  refine StX.callO_with (thn (ha.run pos pins s1 σ H1 _ I1 q) fun us s2 ⟨vs, H2, I2, r, hi, q2⟩ => ?_) he hpl
  obtain ⟨ox, od, J, hd⟩ := StX.insC_at I2 (.inl hi)
  exact ⟨⟨C, ox, od, J, hd⟩, StX.run_callO c (toR G D.b) hr pass0 I2 (.inl hi) r q2⟩
/-- which built-in classes the class is none of -/
def kitN (K : PySem.W.Frag) (C : Addr) : Bool := ["NoneType", "bool", "int", "str", "list", "tuple", "dict"].all fun t => decide (PySem.W.kitOne K (.type t) (.ref C) = some false) && PySem.W.notFirst K C (.type t)
theorem kitN_at {K : PySem.W.Frag} {C : Addr} (h : kitN K C = true) {H : Hp} {v : V} {t : String} (p : Pl K H v t) : PySem.W.kitOne K (.type t) (.ref C) = some false ∧ PySem.W.notFirst K C (.type t) = true := by
  unfold kitN at h
  simp only [List.all_cons, List.all_nil, Bool.and_eq_true, decide_eq_true_eq, Bool.and_true] at h
  obtain ⟨h1, h2, h3, h4, h5, h6, h7⟩ := h
  cases p
  · exact h1
  · exact h2
  · exact h3
  · exact h4
  · exact h5
  · exact h6
  · exact h7
/-- isinstance(x, C), x of the class itself or a plain value -/
def rIsE (K : PySem.W.Frag) (C : Addr) : List V → Hp → VK → Prop := fun xs H Q => (∃ a dx vs, xs = [V.ref a, .ref C] ∧ Slt H a C dx vs ∧ Q (.bl true) H) ∨ (∃ v t, xs = [v, .ref C] ∧ Pl K H v t ∧ Q (.bl false) H)
theorem call_isE {K : PySem.W.Frag} (hK : X.K = K) (O : Ob X.K X.mg x C) (kn : kitN X.K C = true) : CallR X (.builtin "isinstance") (rIsE K C) := by
  subst hK
  intro pins s σ H xs us Q I r h
  rcases h with h | ⟨v, t, rfl, p, q⟩
  · exact call_isS O pins s σ H xs us Q I r h
  · exact call_isiK' (K := X.K) rfl pins s σ H _ us Q I r ⟨v, .ref C, .type t, .ref C, false, rfl, .own C, p.ty, (kitN_at kn p).1, q⟩
/-- the built-in class of a plain value, as the machine finds it -/
theorem pl_looks {pins : List (Addr × Obj)} {σ : L2.St} {H : Hp} {s : Shared} {v : V} {u : Value} {t : String} (I : Inv X pins σ H s) (h : Pl X.K H v t) (r : RelV v u) : PySem.W.Looks (model X.prog X.w) s.heap (typeOf u) (.type t) := by
  have ref : ∀ (a : Addr) (o : Obj), s.heap.get? a = some o → o.cls = .type t → PySem.W.Looks (model X.prog X.w) s.heap (typeOf (.ref a)) (.type t) := fun a o e c A Q E s' k q => by
    refine wpAny_typeOf_ref (k a o e) ?_
    rw [c]
    exact q
  cases h with
  | non => cases (show u = Value.none from r); exact PySem.W.Looks.of_pure rfl
  | bl b => cases (show u = Value.bool b from r); exact PySem.W.Looks.of_pure rfl
  | int i => obtain ⟨t, e⟩ := (show ∃ t, u = Value.int i t from r); cases e; exact PySem.W.Looks.of_pure rfl
  | str x => obtain ⟨t, e⟩ := (show ∃ t, u = Value.str x t from r); cases e; exact PySem.W.Looks.of_pure rfl
  | @lst a xs h =>
    cases (show u = Value.ref a from r)
    obtain ⟨its, rv, p, _⟩ := I.list (SqL.of h)
    obtain ⟨o, ho, hc, _⟩ := p.isList
    exact ref a o ho hc
  | @tup a xs h =>
    cases (show u = Value.ref a from r)
    obtain ⟨its, rv, ⟨o, ho, hc, _⟩, _⟩ := I.tuple (SqT.of h)
    exact ref a o ho hc
  | @dct a xs h =>
    cases (show u = Value.ref a from r)
    obtain ⟨_, _, vs, _, o, es, ep, h1, h2, _⟩ := (show ObjOk X.prog X.w H s.heap a (.dK xs) from I.hok a _ h)
    exact ref a o h1 h2.1
/-- x op y, x an instance of the class at C with an own def for op, y a plain value -/
def rOwnE (K : PySem.W.Frag) (C : Addr) (sp : Sp) (E : XK) : R2 := fun x y H Q => rOwn K C sp E x y H Q ∨ ∃ a dx vs t, x = .ref a ∧ Slt H a C dx vs ∧ Pl K H y t ∧ sp [x, y] H Q E
theorem op_eqE {K : PySem.W.Frag} (hK : X.K = K) (O : Ob X.K X.mg x C) (kn : kitN X.K C = true) (D : Mt X.K C "__eq__" q st ps f fd) (G : FnOk X.prog X.w X.K X.mg X.base CX0 k f fd ps sp) (hr : Room k X.A) : OpR X (compareOp .Eq) (rOwnE K C sp E0) := by
  subst hK
  intro pins s σ H x y v u Q I rx ry h
  rcases h with h | ⟨a, dx, vs, t, rfl, ha, p, q⟩
  · exact op_eqS O D G hr pins s σ H x y v u Q I rx ry h
  · cases (show v = Value.ref a from rx)
    obtain ⟨sl, od, _, J, _⟩ := slt_inst I ha
    obtain ⟨m, hF⟩ := I.fr
    show wpAny _ _ (richCompare .Eq (.ref a) u) _ _ _
    refine PySem.W.cmp_K (op := .Eq) (tb := .type t) hr.units0 hF I.ok.mod.kin J (pl_looks I p ry) (kitN_at kn p).2 D.at_ D.fn ?_
    refine wpAny_mono (wpAny_call (run_fnR (us := [.ref a, u]) (vs := [.ref a, y]) (toR G D.b) hr pass0 I (.cons rfl (.cons ry .nil)) q)) (fun w s' z => ?_) fun _ _ x => x
    obtain ⟨z', H', I', rz, qz⟩ := z
    exact cmpback rz ⟨z', H', I', rz, qz⟩
def rOwnNeE (K : PySem.W.Frag) (C : Addr) (sp : Sp) (E : XK) : R2 := fun x y H Q => rOwnNe K C sp E x y H Q ∨ ∃ a dx vs t, x = .ref a ∧ Slt H a C dx vs ∧ Pl K H y t ∧ sp [x, y] H (fun z H' => ∃ c, z = .bl c ∧ Q (.bl (!c)) H') E
theorem op_neE {K : PySem.W.Frag} (hK : X.K = K) (O : Ob X.K X.mg x C) (kn : kitN X.K C = true) (D : Mt X.K C "__eq__" q st ps f fd) (G : FnOk X.prog X.w X.K X.mg X.base CX0 k f fd ps sp) (hr : Room (k + 1) X.A) : OpR X (compareOp .NotEq) (rOwnNeE K C sp E0) := by
  subst hK
  intro pins s σ H x y v u Q I rx ry h
  rcases h with h | ⟨a, dx, vs, t, rfl, ha, p, q⟩
  · exact op_neS O D G hr pins s σ H x y v u Q I rx ry h
  · cases (show v = Value.ref a from rx)
    obtain ⟨sl, od, _, J, _⟩ := slt_inst I ha
    refine LPO.ne_own (tb := .type t) (by have := hr.units; omega) I.kIn J (pl_looks I p ry) (kitN_at kn p).2 O.si.cm O.ne D.at_ D.fn ?_
    refine wpAny_mono (wpAny_call (run_at (us := [.ref a, u]) (ws := [.ref a, y]) (toR G D.b) hr.in1 I.env0.in1 pass0 I (.cons rfl (.cons ry .nil)) q)) (fun w s' z => ?_) fun _ _ x => x
    obtain ⟨z', H', I', rz, c, ez, qz⟩ := z
    subst ez
    cases (show w = Value.bool c from rz)
    exact ⟨c, rfl, .bl (!c), H', I', rfl, qz⟩
/-- l.m() of a tracked list -/
def tLM0 (r : V → List V → Hp → VK → Prop) (to : TE) : TE := fun σ H Q => to σ H fun x H1 => ∃ p ys, x = .ref p ∧ H1 p = some (.lst ys) ∧ r x [] H1 Q
theorem pe_lm0 {name : Str} {cpos : Pos} {id : String} {r : V → List V → Hp → VK → Prop} {to : TE} (pa : PlainAttrs "list") (slot : Slot "list" name id) (hty : typeOf (.builtin id) = pure (.type "method_descriptor")) (hm : MtR X id r) (ho : PE X o to)
    (hbase : attributeBase o name X.env (eval o X.env) = eval o X.env := by rfl) (hline : (apos.endLine == cpos.line) = true := by rfl) : PE X (.Call (.Attribute o name apos) [] [] cpos) (tLM0 r to) := by
  refine pe_imp (pe_bm0 pa slot hty hm (pe_up ho) hbase hline) ?_
  intro σ H Q h
  refine ⟨_, h, ?_⟩
  rintro v H1 ⟨p, ys, rfl, hp, q⟩
  exact ⟨.inl ⟨rfl, ys, SqL.of hp⟩, q⟩
/-- x in a tracked tuple, in a tracked list, of flat values -/
def rInT (neg : Bool) : R2 := fun x y H Q => ∃ p xs, y = .ref p ∧ H p = some (.tup xs) ∧ flatV x = true ∧ xs.all flatV = true ∧ Q (.bl (if neg then !inV x xs else inV x xs)) H
theorem op_inT : OpR X (compareOp .In) (rInT false) := op_imp op_in_seq fun x y H Q ⟨p, xs, h1, h2, h3, h4, q⟩ => ⟨p, xs, h1, .inr (SqT.of h2), h3, h4, q⟩
theorem op_ninT : OpR X (compareOp .NotIn) (rInT true) := op_imp op_notIn_seq fun x y H Q ⟨p, xs, h1, h2, h3, h4, q⟩ => ⟨p, xs, h1, .inr (SqT.of h2), h3, h4, q⟩
def rInL (neg : Bool) : R2 := fun x y H Q => ∃ p xs, y = .ref p ∧ H p = some (.lst xs) ∧ flatV x = true ∧ xs.all flatV = true ∧ Q (.bl (if neg then !inV x xs else inV x xs)) H
theorem op_inL : OpR X (compareOp .In) (rInL false) := op_imp op_in_seq fun x y H Q ⟨p, xs, h1, h2, h3, h4, q⟩ => ⟨p, xs, h1, .inl (SqL.of h2), h3, h4, q⟩
theorem op_ninL : OpR X (compareOp .NotIn) (rInL true) := op_imp op_notIn_seq fun x y H Q ⟨p, xs, h1, h2, h3, h4, q⟩ => ⟨p, xs, h1, .inl (SqL.of h2), h3, h4, q⟩
end
end LP

set_option Elab.async false
set_option linter.all false
set_option maxRecDepth 100000
set_option maxHeartbeats 4000000
/-! LPL: defs that let an exception out, lambdas handed to a def that catches. -/
namespace LP
open PySem PySem.Spec L2 SlX
open PyProof.Rows hiding St
/-! ### defs that let an exception out -/
section
variable {P : Program} {w : World} {K : PySem.W.Frag} {mg : Str → Option Value} {base : Heap} {x qual : Str} {st : Stmt} {f : Addr} {fd : FuncData} {N ps : List Str} {k : Nat} {sp : Sp}
theorem okX (F : Fun K x qual st f fd) (S : FnScope N ps (defScope st)) (len : ∀ vs H Q E, sp vs H Q E → vs.length = ps.length)
    (hbody : ∀ (cdv : Value) (A : Around) (outer : List Env) (s : Shared) (H : Hp) (vs : List V) (Q : VK) (E : XK), Room k (A.deeper (envOfC qual (defScope st) s.heap.objs.size f cdv)) →
      Takes (cxOf (L2.CX P w) P w K mg base N qual (defScope st) f cdv A outer s H E) (fun cls d _ H' => E cls d H') → sp vs H Q E →
      ∃ t, PSs (cxOf (L2.CX P w) P w K mg base N qual (defScope st) f cdv A outer s H E) (defBody st) t ∧ t { nx := fun _ H' => Q .non H', rt := Q } (start N vs) H) :
    FnOk P w K mg base (L2.CX P w) (k + 1) f fd ps sp := by
  obtain ⟨oc, od, kV, doc, pm, an, cdv, ct, osl, rfl, lk, hcd⟩ := F.ex
  refine fn_of lk hcd S len fun A outer s H vs Q E hr hsp => hbody cdv A outer s H vs Q E hr ?_ hsp
  exact takes_of rfl rfl rfl rfl
/-- the same for a def whose code is known -/
theorem okL {c : Addr} (F : Fun K x qual st f fd) (hc : fd.code = .ref c) (S : FnScope N ps (defScope st)) (len : ∀ vs H Q E, sp vs H Q E → vs.length = ps.length)
    (hbody : ∀ (A : Around) (outer : List Env) (s : Shared) (H : Hp) (vs : List V) (Q : VK) (E : XK), Room k (A.deeper (envOfC qual (defScope st) s.heap.objs.size f (.ref c))) → sp vs H Q E →
      ∃ t, PSs (cxOf CX0 P w K mg base N qual (defScope st) f (.ref c) A outer s H E).nox (defBody st) t ∧ t { nx := fun _ H' => Q .non H', rt := Q } (start N vs) H) :
    FnOk P w K mg base CX0 (k + 1) f fd ps sp := by
  obtain ⟨oc, od, kV, doc, pm, an, cdv, ct, osl, rfl, lk, hcd⟩ := F.ex
  have e : cdv = .ref c := hc
  subst e
  refine fn_of lk hcd S len fun A outer s H vs Q E hr hsp => ?_
  obtain ⟨t, h, q⟩ := hbody A outer s H vs Q E hr hsp
  exact ⟨t, h.nox, q⟩
end
section
variable {X : Cx} {k : Nat} {f C p : Addr} {fd : FuncData} {ps : List Str} {sp : Sp} {x m q : Str} {st : Stmt} {e o : Expr} {es : List Expr} {np pos apos : Pos} {ta : TE} {t : TA} {E : XK}
/-- what a callee lets out goes on -/
theorem passX (tk : Takes X (fun cls d _ H => E cls d H)) : Passes (L2.CX X.prog X.w) X E := passes_call tk fun _ _ _ _ h => h
/-- C(e, ..), which may raise -/
theorem pe_mkX (tk : Takes X (fun cls d _ H => E cls d H)) (O : Ob X.K X.mg x C) (D : Mt X.K C "__init__" q st ps f fd) (G : FnOk X.prog X.w X.K X.mg X.base (L2.CX X.prog X.w) k f fd ps sp) (hr : Room (k + 1) X.A) (hg : Gl X x) (ha : PA X (e :: es) t) (hdb : (x == ("__debug__" : Str)) = false := by decide)
    (he : starEach (e :: es) X.env = (false, eval e X.env) :: starEach es X.env := by rfl) (hpl : (backTo pos (starEach es X.env)).any (·.1) = false := by rfl) : PE X (.Call (.Name x np) (e :: es) [] pos) (StX.tMakeR C sp E t) :=
  StX.pe_makeR ⟨O.mks, D.at_, D.fn, O.kp⟩ (toR G D.b) hr hg O.g (passX tk) ha hdb he hpl
theorem pe_mt0X {pl : Sem Bool} (tk : Takes X (fun cls d _ H => E cls d H)) (O : Ob X.K X.mg x C) (D : Mt X.K C m q st ps f fd) (G : FnOk X.prog X.w X.K X.mg X.base (L2.CX X.prog X.w) k f fd ps sp) (hr : Room k X.A) (he : PE X o ta)
    (ht : eval (.Call (.Attribute o m apos) [] [] pos) X.env = (do
      let ov ← eval o X.env
      standAt apos.atName
      let (f, first) ← holding [ov] (getMethod ov m pl)
      callWith pos f first (backTo pos (starEach [] X.env)) (backToKw pos (keywordEach [] X.env))) := by rfl) :
    PE X (.Call (.Attribute o m apos) [] [] pos) (tMethSl C sp E ta tNil) := pe_methSl0 he O.sc D.m (toR G D.b) hr (passX tk) ht
theorem op_binX {op : Operator} (tk : Takes X (fun cls d _ H => E cls d H)) (O : Ob X.K X.mg x C) (D : Mt X.K C (PySem.dunder op.info.2) q st ps f fd) (G : FnOk X.prog X.w X.K X.mg X.base (L2.CX X.prog X.w) k f fd ps sp) (hr : Room k X.A) : OpR X (binaryOp op) (rOwnB C sp E) :=
  op_ownB O.sf D.at_ D.fn (toR G D.b) hr (passX tk)
/-- isinstance(x, T), x an instance with slots -/
theorem call_isiSK {K : PySem.W.Frag} (hK : X.K = K) (u : Value) : CallR X (.builtin "isinstance") (rIsiSl K u) := by
  subst hK
  exact call_isiSl u
def rReprB : List V → Hp → VK → Prop := fun xs H Q => ∃ b, xs = [.bl b] ∧ Q (.str (if b then "True" else "False")) H
theorem call_reprB : CallR X (.builtin "repr") rReprB := by
  intro pins s σ H xs us Q I r h
  obtain ⟨b, rfl, q⟩ := h
  obtain ⟨u, rfl, rfl⟩ := vals1 r
  exact PySem.P.repr_of_bool ⟨.str _, H, I.tok _, ⟨_, rfl⟩, q⟩
end
/-! ### lambdas -/
section
open LamX
theorem takes_lam {X : Cx} {A : Around} {outer : List Env} {s : Shared} {H : Hp} {E : XK} {scope : Scope} {f c' : Addr} : Takes (lamCx X A outer s H E scope f c') (fun cls d _ H' => E cls d H') := takes_of rfl rfl rfl rfl
variable {X : Cx}
/-- try: a() / except x: return True / return False -/
def TTw (K : PySem.W.Frag) (CS : Addr) : (XK → Hp → VK → Prop) → Hp → VK → Prop := fun tl H Q =>
  tl (fun cls _ H' => PySem.W.exmOne K cls (.ref CS) = some true ∧ Q (.bl true) H') H (fun _ H' => Q (.bl false) H')
theorem word_gives {Ng : List Str} {x a e q : Str} {sg : Scope} {g CS : Addr} {cdg : Value} {j i : Nat} {p1 p2 p3 p4 p5 p6 p7 p8 p9 p10 : Pos} (hge : sg.names.lookup e = some .globalImplicit) (hme : X.mg e = some (.ref CS)) (hde : (e == ("__debug__" : Str)) = false) (h0 : ∀ f : Addr, (L2.start Ng [V.ref f])[0]? = some (some (V.ref f))) :
    GivesTo X Ng x sg g cdg [.Try [.Expr (.Call (.Name a p1) [] [] p2) p3] [.ExceptHandler (some (.Name e p4)) none [.Return (some (.Constant (.bool true) j p5)) p6] p7] [] [] p8, .Return (some (.Constant (.bool false) i p9)) p10] a q (TTw X.K CS) := by
  intro f c' s H Q tl act hc h
  have hgl : Gl (cxOf C8.CX0 X.prog X.w X.K X.mg X.base Ng x sg g cdg X.A X.stack s H C8.E0).nox e := hge
  refine ⟨_, pss_cons (ps_try_only (X := (cxOf C8.CX0 X.prog X.w X.K X.mg X.base Ng x sg g cdg X.A X.stack s H C8.E0).nox) (c := .ref CS)
      (tb := fun W D σ H => ∃ Ech : XK, (∀ cls d σ' H', Ech cls d H' → W cls d σ' H') ∧ σ[0]? = some (some (.ref f)) ∧ H c' = some (CodeO c' q) ∧ tl Ech H fun _ H' => D.nx σ H')
      rfl rfl ⟨hgl, hde, .inl hme⟩ LamX.takes0 (fun W pn xe tk _ => ?_) (fun a oe cls d pn _ _ => pss_one (ps_ret pe_bl))) (pss_one (ps_ret pe_bl)), ?_⟩
  · refine ⟨fun pins s' σ H' D I h' => ?_⟩
    obtain ⟨Ech, hW, h1, h2, h3⟩ := h'
    have hp := act W pn xe Ech p1 p2 tk hW
    have hq := pss_one (ps_expr (pos := p3) hp)
    exact hq.run pins s' σ H' D I ⟨h1, h2, h3⟩
  · exact ⟨fun cls _ H' => PySem.W.exmOne X.K cls (.ref CS) = some true ∧ Q (.bl true) H', fun cls d σ' H' ⟨e1, e2⟩ => ⟨true, e1, fun hb a _ => e2, fun hb => by cases hb⟩, h0 f, hc, h⟩
/-- x(lambda: body), x a def of this form -/
theorem pe_lw {K : PySem.W.Frag} {T : List (Addr × Str)} {x a e : Str} {g c P CS : Addr} {fd : FuncData} {st : Stmt} {Ng : List Str} {params : Arguments} {body : Expr} {scope : Scope} {t : XK → TE} {p lpos pos : Pos} {j i : Nat} {p1 p2 p3 p4 p5 p6 p7 p8 p9 p10 : Pos} (k : Nat) (hK : X.K = K)
    (D : Df X.K X.mg x st [a] g fd) (Sg : FnScope Ng [a] (defScope st)) (hNg : Ng[0]? = some a) (hva : Vis (defScope st) a)
    (hbg : defBody st = [.Try [.Expr (.Call (.Name a p1) [] [] p2) p3] [.ExceptHandler (some (.Name e p4)) none [.Return (some (.Constant (.bool true) j p5)) p6] p7] [] [] p8, .Return (some (.Constant (.bool false) i p9)) p10])
    (hge : (defScope st).names.lookup e = some .globalImplicit) (hme : X.mg e = some (.ref CS)) (hde : (e == ("__debug__" : Str)) = false) (h0 : ∀ f : Addr, (L2.start Ng [V.ref f])[0]? = some (some (V.ref f)))
    (hg : Gl X x) (TB : TabB X.base X.mg c P) (hcode : X.env.code = .ref c) (hmT : (P, X.env.qual ++ "<lambda>") ∈ T) (hu : ∀ p ∈ T, p.1 = P → p.2 = X.env.qual ++ "<lambda>") (hr : Room (k + 2) X.A) (L : LamS X.env.scope scope) (hdef : defaultsOf params X.env = ([], []))
    (hbind : ∀ (q : Str) (cl : List (Str × Addr)) (pm cv ctv : Value), bindArgs (PySem.W.kla_fn "<lambda>" q params body scope cl pm cv ctv) ⟨[], []⟩ = pure [])
    (hbody : ∀ (A : Around) (outer : List Env) (s : Shared) (H : Hp) (E : XK) (f c' : Addr), Room k (A.deeper (lamEnv X scope s.heap.objs.size f c')) → PE (lamCx X A outer s H E scope f c') body (t E))
    (hdb : (x == ("__debug__" : Str)) = false := by decide) (hd : (a == ("__debug__" : Str)) = false := by decide) (hcd : (a == ("__classdict__" : Str)) = false := by decide) :
    PE X (.Call (.Name x p) [.Lambda params body scope lpos] [] pos) (tLam T (TTw K CS) t) := by
  subst hK
  obtain ⟨oc, od, kV, doc, pm, an, cdv, ct, osl, rfl, lk, hcg⟩ := D.F.ex
  refine pe_lamcall hg D.g D.F.kp lk hcg D.b Sg hNg hva ?_ TB hcode hmT hu hr L hdef hbind hbody hdb hd hcd
  rw [hbg]
  exact word_gives hge hme hde h0
theorem tLam_eq {T : List (Addr × Str)} {TT : (XK → Hp → VK → Prop) → Hp → VK → Prop} {t : XK → TE} {σ : L2.St} {H : Hp} {Q : VK} : tLam T TT t σ H Q = (Tabs T H ∧ ∀ H1, ExtN H H1 → Tabs T H1 → TT (fun E H' Q' => t E σ H' Q') H1 Q) := rfl
theorem TTw_eq {K : PySem.W.Frag} {CS : Addr} {tl : XK → Hp → VK → Prop} {H : Hp} {Q : VK} : TTw K CS tl H Q = tl (fun cls _ H' => PySem.W.exmOne K cls (.ref CS) = some true ∧ Q (.bl true) H') H (fun _ H' => Q (.bl false) H') := rfl
/-- the end of a law whose defs make lambdas -/
theorem walk_ofAll {l : PySem.W.OpenLaw} {n k : Nat} {q : Program} {loose : List Str} {XP : (Str → Option Value) → Heap → Prop} {YP : World → Heap → Prop} {d : DefRec} {K : Params → PySem.W.Frag} {x : Str}
    (hn : l.most = some n) (hn2 : n ≤ sizeLine) (hdf : d.params.defaults = []) (hr : Room k callerA) (hY : ∀ (w : World) (h : Heap), YP w h → (K w.params).In h)
    (F : ∀ (w : World) (mg : Str → Option Value) (fa : Addr) (h : Heap), (K w.params).In h → h.Ns mainGlobals mg → mg d.name = some (.ref fa) →
      (∀ (y : Str) (c P : Addr), ((recsOf q).find? fun e => e.name == y).isSome = true → PySem.W.tabIn (K w.params) y = some (c, P) → PySem.W.CodeHd h c P ∧ h.get? P = some { cls := .none, data := .fields #[] }) → LawAtS l w (K w.params) CX0 k n x mg fa h) :
    PySem.W.WalkO q loose XP YP l.row.toRowW d [] (fun f vs => PySem.call f vs) := by
  refine Att.attach_callB hn hdf fun w s₀ s₁ mg mb fa o pm cd doc a vs ns G Y ho hd hcd hmg hobj hints hlen hbits hg => ?_
  have KX := hY w _ Y
  obtain ⟨fd, cs, sp, hT, nT, C, hb, hsp, hF⟩ := F w mg fa _ KX G.T.g hmg fun y c P hr ht => by
    obtain ⟨d', hd'⟩ := Option.isSome_iff_exists.mp hr
    exact PySem.W.tab_of G.T KX hd' ht
  exact law_callTs KX G.T.g G.T.b G.T.builtins G.T.nolimit hg hT nT C G.T.bmain hobj hints (Nat.le_trans hlen hn2) hr hF hb (fun H hH hS => hsp H a ns hlen hbits hH hS) fun H e s' z => z
end
end LP

set_option Elab.async false
set_option linter.all false
set_option maxRecDepth 100000
set_option maxHeartbeats 4000000
/-! LPM: dicts with tuple keys: items walked, comprehensions, sorted. -/
namespace LP
open PySem PySem.Spec L2 SlX
open PyProof.Rows hiding St
/-! ### d.items(), the keys tuples -/
section
variable {X : Cx} {pins : List (Addr × Obj)} {σ : L2.St} {H : Hp} {s : Shared} {d : Addr} {o : Obj}
/-- what a locked dict with tuple keys is: its entries -/
theorem frzT2 {ws : List (List Key × V)} (I : Inv X pins σ H s) (hd : H d = some (.frz o (.dT ws))) : (d == sysModules) = false ∧ s.heap.get? d = some o ∧ o.ExactDict ∧
    ∃ (es : Array DictEntry) (ep : Nat), o.data = .dict es ep ∧ es.size = ws.length ∧ ∀ (i : Nat) (k : List Key) (v : V), ws[i]? = some (k, v) → ∃ (en : DictEntry) (q : Addr), es[i]? = some en ∧ en.key = .ref q ∧ H q = some (.tup (k.map kV)) ∧ RelV v en.val := by
  obtain ⟨g, z, hs, xs, pr, o', es, ep, ho, hx, hdt, he, hn⟩ := I.hok d _ hd
  rw [g] at ho
  cases ho
  refine ⟨hs, g, hx, es, ep, hdt, ?_, fun i k v hi => ?_⟩
  · have a1 : es.size = xs.length := size_of_entries he
    have a2 : ws.length = xs.length := Paired.length pr
    omega
  · obtain ⟨b, hb, e1, e2, e3⟩ := paired_get pr hi
    have en := entry_at he i
    rw [hb] at en
    exact ⟨_, b.2.1, en, rfl, e2, e3⟩
end
/-- each turn a new pair of the key's own tuple and the value -/
def ItI (d : Addr) (o : Obj) (ws : List (List Key × V)) : It :=
  ⟨fun i H => H d = some (.frz o (.dT ws)) ∧ i < ws.length, fun i H x H' => ∃ (T q : Addr) (k : List Key) (v : V), ws[i]? = some (k, v) ∧ x = .ref T ∧ H T = none ∧ H q = some (.tup (k.map kV)) ∧ H' = upd H T (.tup [.ref q, v]), fun i H => H d = some (.frz o (.dT ws)) ∧ ws.length ≤ i⟩
theorem turn_itI {P : Program} {w : World} {K : PySem.W.Frag} {d : Addr} {o : Obj} {es : Array DictEntry} {ep kk : Nat} {tpos : Pos} {elts : List Expr} {ws : List (List Key × V)} (it : Addr) (hod : o.data = .dict es ep) (hsz : es.size = ws.length) :
    Turn P w K (.Tuple elts kk tpos) (ItI d o ws) [it] it (fun i h => ∃ ok ov, IsItemIter h it d i es.size ep ok ov) where
  mem := List.mem_singleton.mpr rfl
  obj := fun i h st b hb => by
    rw [List.mem_singleton.mp hb]
    obtain ⟨ok, ov, e⟩ := st
    exact ⟨_, e, fun v z => nomatch z⟩
  keep := fun i h h' ⟨ok, ov, e⟩ k => ⟨ok, ov, k it (List.mem_singleton.mpr rfl) _ e⟩
  item := by
    intro X hP hw hK hc i pins s σ H E I hf st hg
    subst hP hw hK
    obtain ⟨hd, hi⟩ := hg
    obtain ⟨hs, hgd, hx, es', ep', hdt, hsz', ent⟩ := frzT2 I hd
    obtain ⟨rfl, rfl⟩ := dict_ep hod hdt
    obtain ⟨⟨k, v⟩, hkv⟩ : ∃ p, ws[i]? = some p := ⟨ws[i], List.getElem?_eq_getElem hi⟩
    obtain ⟨en, q, hen, hkey, hq, rv⟩ := ent i k v hkv
    obtain ⟨ok, ov, he⟩ := st
    have hlt : it < s.heap.objs.size := Heap.lt_size he
    have his : i < es'.size := by omega
    have heq : es'[i] = en := by
      rw [Array.getElem?_eq_getElem his] at hen
      exact Option.some.inj hen
    refine DT.nextI he ⟨o, hgd, hx, hod⟩ his fun h' ho hT hz hk => ?_
    rw [heq] at ho hT
    refine ⟨_, rfl, wpAny_letOwnedTupleGo_items (s := { s with heap := h' }) ho fun h2 he2 sb => ?_⟩
    have hT2 : h2.get? s.heap.objs.size = some { cls := .type "tuple", data := .seq #[en.key, en.val] } := (sb.2 _ (Nat.ne_of_gt hlt)).trans hT
    have nw : ObjOk X.prog X.w (upd H s.heap.objs.size (.tup [.ref q, v])) h2 s.heap.objs.size (.tup [.ref q, v]) :=
      ⟨by show 2 ≤ sizeLine; decide, [en.key, en.val], .cons hkey (.cons rv .nil), ⟨_, hT2, rfl, _, rfl⟩⟩
    have J : Inv X pins σ (upd H s.heap.objs.size (.tup [.ref q, v])) { s with heap := h2 } :=
      I.turnedNew (t' := s.toks) (ch := [it]) (fun b ob hb e => (sb.2 b (fun z => hb (List.mem_singleton.mpr z))).trans (hk b ob (fun z => hb (List.mem_singleton.mpr z)) e)) hf (Nat.le_refl _) nw
    refine ⟨.ref s.heap.objs.size, _, J, rfl, ⟨_, q, k, v, hkv, rfl, I.hok.fresh (Nat.le_refl _), hq, rfl⟩, ⟨_, _, he2⟩, fun b hb => ?_⟩
    rw [List.mem_singleton.mp hb, upd_ne (Nat.ne_of_lt hlt)]
    exact (hf it (List.mem_singleton.mpr rfl)).1
  done := by
    intro X hP hw hK hc i pins s σ H E I hf st hg
    subst hP hw hK
    obtain ⟨hd, hi⟩ := hg
    obtain ⟨f0, f1, f2, f3, f4, f5⟩ := hf it (List.mem_singleton.mpr rfl)
    obtain ⟨hs, hgd, hx, es', ep', hdt, hsz', ent⟩ := frzT2 I hd
    obtain ⟨rfl, rfl⟩ := dict_ep hod hdt
    obtain ⟨ok, ov, he⟩ := st
    exact DT.endI (I.ok.hd hc) he ⟨o, hgd, hx, hod⟩ (by omega) fun h' eb => ⟨rfl, I.turned (t' := s.toks) (fun b ob hb e => eb b ob hb e) f0 f1 f3 f4 f5⟩
  self := fun A i s Q E ⟨_, _, e⟩ h => PySem.W.kcp_self e h
def iItT (td : TE) : TI := fun σ H R => td σ H fun x H1 => ∃ d o ws, x = .ref d ∧ H1 d = some (.frz o (.dT ws)) ∧ R (ItI d o ws) H1
/-- for (..), v in d.items() -/
theorem pi_itT {X : Cx} {e : Expr} {td : TE} {elts : List Expr} {kk : Nat} {tpos apos cpos : Pos} (he : PE X e td) (hbase : attributeBase e "items" X.env (eval e X.env) = eval e X.env := by rfl) (hline : (apos.endLine == cpos.line) = true := by rfl) :
    PI X (.Tuple elts kk tpos) (.Call (.Attribute e "items" apos) [] [] cpos) (iItT td) := by
  refine ⟨fun pins s σ H R I h => ?_⟩
  refine wpAny_Call_method (T := "dict") (id := "dict.items") hbase rfl hline F.plainAttrs_dict F.slot_dict_items F.type_dict_items (thn (he.run pins s σ H _ I h) fun u s1 ⟨x, H1, I1, rx, d, o, ws, ex, hd, q⟩ => ?_)
  subst ex
  obtain rfl : u = Value.ref d := rx
  obtain ⟨hs, hgd, hx, es, ep, hdt, hsz, ent⟩ := frzT2 I1 hd
  have raw : DT.Raw s1.heap d es ep := ⟨o, hgd, hx, hdt⟩
  refine ⟨raw.typeIs, fun a e => by cases e; exact ⟨o, hgd, hx.2.1⟩, ?_⟩
  have J : Inv X pins σ H1 { s1 with heap := s1.heap.push { cls := .type "dict_items", data := .fields #[.ref d] } } := I1.kept (t' := s1.toks) fun b ob q => Heap.get?_push_of_some _ q
  have fin : wpAny (model X.prog X.w) X.A (pyIter (.ref s1.heap.objs.size)) (PIE X pins σ (.Tuple elts kk tpos) R) X.xe { s1 with heap := s1.heap.push { cls := .type "dict_items", data := .fields #[.ref d] } } := by
    refine DT.iterI (d := d) ⟨_, Heap.get?_push_size _ rfl, rfl, rfl⟩ (raw.push _) (pi_one (tk := s1.toks) J _ (turn_itI _ hdt hsz) ⟨.none, .none, ?_⟩ q)
    exact Heap.get?_push_size _ rfl
  show wpAny _ _ (callWith cpos (.builtin "dict.items") [.ref d] [] []) _ X.xe s1
  exact method_meetsIn F.slot_dict_items F.entry_dict_items rfl (PySem.evalArgs_none ⟨rfl, raw.typeIs, F.args_dict_items_1 _, _, DT.meetsItems (es := es) (ep := ep) hs, raw, fin⟩)
/-! ### {k: v for .. in ..}, the keys tuples -/
section
variable {X : Cx}
theorem dset_ok {pins : List (Addr × Obj)} {σ : L2.St} {H H' : Hp} {s : Shared} {E : Value → Shared → Prop} {D : Addr} {y v : V} {u r : Value} {Q : Unit → Shared → Prop} (hu : X.A.units + 1 < cLine) (J : Inv X pins σ H s) (g : DPut H D y v H') (ry : RelV y u) (rv : RelV v r)
    (fin : ∀ s', Inv X pins σ H' s' → Q () s') : wpAny (model X.prog X.w) X.A (dictSet D u r) Q E s := by
  rcases g with ⟨ws, k, hD, rfl, hz, rfl⟩ | ⟨ws, k, b, hD, rfl, hb, hz, rfl⟩
  · exact d_dictSet J hD hz ry rv fin
  · cases (show u = Value.ref b from ry)
    obtain ⟨z, hd, xs, rel, dd⟩ := dt_of J.hok hD
    have zx : xs.length ≤ sizeLine := Paired.length rel ▸ z
    have zp : (putK ws k v).length ≤ sizeLine := Nat.le_trans (length_putK ws k v) hz
    refine wpAny_dictSet_heap (hsz := zx) (show (tupleKind (mixKind X.prog X.w)).room X.A from Nat.lt_of_succ_lt hu) (key_of J.hok hb) dd fun h2 d2 sb => fin _ ?_
    obtain ⟨q, es, ep, hq, g2, g3, g4, _, g5⟩ := d2
    have ht : ∀ c ys, H c = some (.tup ys) → upd H D (.dT (putK ws k v)) c = some (.tup ys) := fun c ys ec => (upd_ne (ne_of ec hD fun z => nomatch z)).trans ec
    exact d_write J (by rw [hD]; exact True.intro) sb ⟨q, hq⟩ ⟨zp, hd, _, (rel.put k hb rv).keeps ht, q, es, ep, hq, g2, g3, g4, g5⟩
/-- D: the new dict, t0 its kind -/
def tDcT (wi : TI) (g : TG) (tt : TT) (tk tv : TE) (vs : List Nat) : TE := fun σ H Q => wi σ H fun J H1 => ∀ D, H1 D = none → ∃ W : Nat → Nat → Hp → Prop, (∃ m, W 0 m (upd H1 D (.dT []))) ∧ ∀ i m H, W i m H →
  (J.stop i H ∧ Q (.ref D) H) ∨ (J.go i H ∧ ∃ Nx : Hp → Prop, (∀ H', Nx H' → ∃ m', m' < m ∧ W (i + 1) m' H') ∧ ∀ x H', J.yld i H x H' → g x (wipe σ vs) H' fun σ2 H2 => wipe σ2 vs = wipe σ vs ∧ tt σ2 H2 fun b H3 =>
    if b = true then tk σ2 H3 fun y H4 => tv σ2 H4 fun z H5 => ∃ H6, DPut H5 D y z H6 ∧ Nx H6 else Nx H3)
/-- the block's context, in which target, tests, key and value are read -/
abbrev Blk (X : Cx) (scope : Scope) (P : Cx → Prop) : Prop := ∀ (s : Shared) (H : Hp) (C : Addr) (cl : List (Str × Addr)) (fp : List Addr), P (X.blk s H scope (compEnvC scope cl C X.env) fp)
theorem pe_dcT {kx vx tg iter : Expr} {ifs : List Expr} {scope : Scope} {own : List (Str × Nat)} {pos : Pos} {wi : TI} {g : TG} {tt : TT} {tk tv : TE} (hu : X.A.units + 1 < cLine) (hc : X.calm = true) (hN : X.N.Nodup) (hi : PI X tg iter wi) (ok : BlkOk X.N X.env.scope scope own)
    (hg : Blk X scope fun Y => PG Y tg g) (ht : Blk X scope fun Y => PTs Y ifs tt) (hk : Blk X scope fun Y => PE Y kx tk) (hv : Blk X scope fun Y => PE Y vx tv) (hs : ∀ x, foldedSetIterable iter X.env x = pure x := by intro _; rfl) :
    PE X (.DictComp kx vx [⟨tg, iter, ifs, 0⟩] scope pos) (tDcT wi g tt tk tv (own.map (·.2))) := by
  refine ⟨fun pins s σ H Q I h => ?_⟩
  rw [arm_eval_DictComp]
  have has : ∀ y ∈ scope.names, y.2 = .free → ∃ c, X.env.cells.lookup y.1 = some c := fun y hy e => (ok.free y hy e).elim (fun k => I.ok.has _ (.inl k)) (fun k => I.ok.has _ (.inr k))
  refine wpAny_comprehension_free rfl hs (closure_ok has) ok.kind (fun y hy e => by rw [ok.uniq y hy, e]) ?_
  refine thn (hi.run pins s σ H _ I h) fun xv s1 hx => thn hx fun itv s2 h2 => ?_
  obtain ⟨it, fp, tn, J, H2, rfl, I2, T, st2, f2, q⟩ := h2
  refine wpAny_newObj_type (newEnv_comp ?_)
  obtain ⟨D, hD⟩ : ∃ D, s2.heap.objs.size = D := ⟨_, rfl⟩
  rw [hD]
  have fresh : H2 D = none := I2.hok.fresh (Nat.le_of_eq hD)
  obtain ⟨W, ⟨m0, w0⟩, turn⟩ := q D fresh
  obtain ⟨s3, hs3⟩ : ∃ s3 : Shared, s3 = { s2 with heap := s2.heap.push { cls := .type "dict", data := .dict #[] } } := ⟨_, rfl⟩
  have hh3 : s3.heap = s2.heap.push { cls := .type "dict", data := .dict #[] } := by rw [hs3]
  have old : ∀ b o, s2.heap.get? b = some o → s3.heap.get? b = some o := fun b o e => by rw [hh3]; exact Heap.get?_push_of_some _ e
  obtain ⟨H3, hH3⟩ : ∃ H3, upd H2 D (.dT []) = H3 := ⟨_, rfl⟩
  rw [hH3] at w0
  have I3 : Inv X pins σ H3 s3 := by
    rw [← hH3, hs3]
    refine I2.laid (t' := s2.toks) (fun b o e => Heap.get?_push_of_some _ e) (Nat.le_of_eq hD) ?_
    rw [← hD]
    exact dt_empty s2.heap I2.big
  have f3 : ∀ b ∈ fp, FpOk X pins H3 b ∧ b < s3.heap.objs.size := fun b hb => by
    obtain ⟨o, e, _⟩ := T.obj _ _ st2 b hb
    have lt2 := Heap.lt_size e
    have nb : b ≠ D := Nat.ne_of_lt (hD ▸ lt2)
    refine ⟨⟨?_, (f2 b hb).2⟩, Heap.lt_size (old b o e)⟩
    rw [← hH3, upd_ne nb]
    exact (f2 b hb).1
  have st3 : tn 0 s3.heap := T.keep _ _ _ st2 fun b _ o e => old b o e
  have I4 := block_start I3 ok hN f3
  rw [← hs3]
  obtain ⟨ce, hce⟩ : ∃ ce, compEnvC scope (cellsFrom (s3.heap.objs.size + 1) scope.names (cloFrom X.env.cells scope.names [])) s3.heap.objs.size X.env = ce := ⟨_, rfl⟩
  have here := And.intro (hg s3 H3 s3.heap.objs.size (cellsFrom (s3.heap.objs.size + 1) scope.names (cloFrom X.env.cells scope.names [])) fp) (ht s3 H3 s3.heap.objs.size (cellsFrom (s3.heap.objs.size + 1) scope.names (cloFrom X.env.cells scope.names [])) fp)
  have more := And.intro (hk s3 H3 s3.heap.objs.size (cellsFrom (s3.heap.objs.size + 1) scope.names (cloFrom X.env.cells scope.names [])) fp) (hv s3 H3 s3.heap.objs.size (cellsFrom (s3.heap.objs.size + 1) scope.names (cloFrom X.env.cells scope.names [])) fp)
  rw [hce] at I4 here more
  have cL : ce.locals = s3.heap.objs.size := by rw [← hce]; rfl
  obtain ⟨pg, pt⟩ := here
  obtain ⟨pk, pv⟩ := more
  obtain ⟨s4, hs4⟩ : ∃ s4 : Shared, s4 = { s3 with heap := pushCells (s3.heap.push { cls := .type "dict", data := .dict #[] }) scope.names } := ⟨_, rfl⟩
  rw [← hs4] at I4
  have st4 : tn 0 s4.heap := T.keep _ _ _ st3 fun b _ o e => by rw [hs4]; exact pushCells_keeps _ _ _ _ (Heap.get?_push_of_some _ e)
  have noFp : ∀ b ∈ fp, H3 b = none := fun b hb => (f3 b hb).1.1
  have stat : ∀ {σ' : L2.St} {H' : Hp} {s' : Shared}, Inv (X.blk s3 H3 scope ce fp) [] σ' H' s' → (∀ b ∈ fp, H' b = none) → ∀ b ∈ fp, FpOk (X.blk s3 H3 scope ce fp) [] H' b := fun {σ' H' s'} K' hn b hb =>
    ⟨hn b hb, (K'.ok.exf b hb).1, K'.ok.exfs b hb, .inl hb, fun x c e => (K'.ok.exf b hb).2 x c e, fun p hp => by cases (show p ∈ ([] : List (Addr × Obj)) ++ [] from hp)⟩
  have loop : ∀ post, (∀ s6 m H5, Inv X pins σ H5 s6 → Q (.ref D) H5 → s6.heap.Ns s3.heap.objs.size m → FpOk X pins H5 s3.heap.objs.size → post (.ok .next) s6) →
      codeAny (model X.prog X.w) X.A (.compLoop (.DictComp kx vx [⟨tg, iter, ifs, 0⟩] scope pos) 0 (.ref it) (.ref D) ce) post s4 := by
    intro post hpost
    refine compLoop_anyD (fun n s' => ∃ i H', Inv (X.blk s3 H3 scope ce fp) [] (wipe σ (own.map (·.2))) H' s' ∧ tn i s'.heap ∧ (∀ b ∈ fp, H' b = none) ∧ W i n H') ?_ m0 ⟨0, H3, I4, st4, noFp, w0⟩
    rintro n s5 ⟨i, H5, I5, st5, n5, w5⟩
    rcases turn i n H5 w5 with ⟨stop, qq⟩ | ⟨go, Nx, hNx, step⟩
    · have e1 := T.done (X.blk s3 H3 scope ce fp) rfl rfl rfl hc i [] s5 _ H5 (fun _ _ => False) I5 (stat I5 n5) st5 stop
      refine thnF e1 fun r s6 ⟨hr, I6⟩ => ?_
      subst hr
      have back : Inv X pins σ H5 s6 := I3.call' (ch := fp) I6.os I6.base I6.hok I6.bare fun b hb =>
        let z := (f3 b hb).1
        ⟨z.2.2.2.1, z.2.1, z.2.2.2.2.1, z.2.2.2.2.2⟩
      have nC : H5 s3.heap.objs.size = none := cL ▸ (show H5 ce.locals = none from I6.free)
      obtain ⟨m, hn, _⟩ := I6.loc
      have hn2 : s6.heap.Ns s3.heap.objs.size m := cL ▸ (show s6.heap.Ns ce.locals m from hn)
      exact hpost s6 m H5 back qq hn2 (I3.fpOk (Nat.le_refl _) nC)
    · have e1 := T.item (X.blk s3 H3 scope ce fp) rfl rfl rfl hc i [] s5 _ H5 (fun _ _ => False) I5 (stat I5 n5) st5 go
      refine thnF e1 fun r s6 ⟨u, hr, h6⟩ => ?_
      subst hr
      refine thnF h6 fun _ s7 ⟨x, H7, I7, r7, y7, st7, n7⟩ => ?_
      have P7 := I7.pinned (stat I7 n7) (T.obj _ _ st7)
      refine thnF (pg.run _ s7 _ H7 x u _ P7 r7 (step x H7 y7)) fun _ s8 ⟨σ8, H8, I8, hw8, q8⟩ => ?_
      refine thnF (pt.run _ s8 σ8 H8 _ I8 q8) fun b s9 ⟨H9, I9, q9⟩ => ?_
      have fin : ∀ {s' : Shared} {H' : Hp}, Inv (X.blk s3 H3 scope ce fp) ([] ++ pinsAt fp s7.heap) σ8 H' s' → Nx H' → ∃ m, m < n ∧ ∃ i H', Inv (X.blk s3 H3 scope ce fp) [] (wipe σ (own.map (·.2))) H' s' ∧ tn i s'.heap ∧ (∀ b ∈ fp, H' b = none) ∧ W i m H' := by
        intro s' H' K' nx
        obtain ⟨m', hm, w'⟩ := hNx H' nx
        have pin' : ∀ b ∈ fp, ∀ o, s7.heap.get? b = some o → s'.heap.get? b = some o ∧ H' b = none := fun b hb o e =>
          have z := K'.pin (b, o) (List.mem_append_right _ (List.mem_append_right _ (mem_pinsAt hb e)))
          ⟨z.1, z.2.1⟩
        have hl : (wipe σ (own.map (·.2))).length = σ8.length := by rw [← hw8, wipe_length]
        refine ⟨m', hm, i + 1, H', (K'.unpinned (pins := [])).weak hl (fun j v e => (wipe_some (hw8 ▸ e)).1), T.keep _ _ _ st7 fun b hb o e => (pin' b hb o e).1, fun b hb => ?_, w'⟩
        obtain ⟨o, e, _⟩ := T.obj _ _ st7 b hb
        exact (pin' b hb o e).2
      cases b with
      | false => exact fin I9 q9
      | true =>
        refine thnF (pk.run _ s9 σ8 H9 _ I9 q9) fun z s10 ⟨yk, H10, I10, r10, q10⟩ => ?_
        refine thnF (pv.run _ s10 σ8 H10 _ I10 q10) fun z2 s11 ⟨yv, H11, I11, r11, H12, put, nx⟩ => ?_
        exact dset_ok (X := X.blk s3 H3 scope ce fp) hu I11 put r10 r11 fun s12 I12 => fin I12 nx
  subst hce hs4
  refine codeAny_compStart_dict (loop _ ?key) (T.self X.A 0 _ _ _ st4 (loop _ ?key))
  intro s6 m H5 K' qq hn f
  refine ⟨m, hn, fun h9 sb => ?_⟩
  obtain ⟨a0, a1, a2, a3, a4, a5⟩ := f
  exact ⟨.ref D, H5, K'.turned (t' := s6.toks) (fun b o hb e => (sb.2 b hb).trans e) a0 a1 a3 a4 a5, rfl, qq⟩
end
end LP

set_option Elab.async false
set_option linter.all false
set_option maxRecDepth 100000
set_option maxHeartbeats 4000000
/-! LPN: sorted of lists of data and of dicts with tuple keys. -/
namespace LP
open PySem PySem.Spec L2 SlX
open PyProof.Rows hiding St
open PySem.W (EachIs dataLe AllAlike Sortable)
section
variable {X : Cx}
theorem each_of_vals {H : Hp} {pins : List (Addr × Obj)} {σ : L2.St} {s : Shared} {enc : V → PyData} (I : Inv X pins σ H s) : ∀ {xs : List V} {us : List Value}, Vals xs us → (∀ x ∈ xs, Dp X.K H x (enc x)) →
    EachIs (fun v x => RelV x v) us xs ∧ EachIs (fun v x => ∃ as, Reads s.heap v (enc x) as) us xs
  | _, _, .nil, _ => ⟨.nil, .nil⟩
  | _, _, .cons r t, h => by
    obtain ⟨a, b⟩ := each_of_vals I t fun x hx => h x (List.mem_cons_of_mem _ hx)
    exact ⟨.cons r a, .cons (Dp.reads I _ _ _ (h _ List.mem_cons_self) r) b⟩
theorem vals_of_each : ∀ {xs : List V} {us : List Value}, EachIs (fun v x => RelV x v) us xs → Vals xs us
  | _, _, .nil => .nil
  | _, _, .cons r t => .cons r (vals_of_each t)
/-- sorted(xs), xs a list of data of one kind -/
def rSortL (K : PySem.W.Frag) : List V → Hp → VK → Prop := fun vs H Q => ∃ (p : Addr) (xs : List V) (enc : V → PyData), vs = [.ref p] ∧ H p = some (.lst xs) ∧ (∀ x ∈ xs, Dp K H x (enc x)) ∧ AllAlike (xs.map enc) ∧ Sortable (xs.map enc) ∧ (∀ x ∈ xs, (enc x).depth ≤ 4) ∧
  ∀ l, H l = none → Q (.ref l) (upd H l (.lst (xs.mergeSort (dataLe false enc))))
theorem cr_sortL {K : PySem.W.Frag} (hK : X.K = K) (hu : X.A.units + 64 < cLine) : CallR X (.builtin "sorted") (rSortL K) := by
  subst hK
  intro pins s σ H vs us Q I r h
  obtain ⟨p, xs, enc, rfl, hp, dp, al, so, de, q⟩ := h
  obtain ⟨u, rfl, ru⟩ := vals1 r
  obtain rfl : u = Value.ref p := ru
  obtain ⟨z, its, n, rv, hl, e⟩ := I.lstM hp
  obtain ⟨e1, e2⟩ := each_of_vals (enc := enc) I rv dp
  refine PySem.W.sorted_data (PySem.IsL.isList e) e1 e2 al so z (fun b hb => by have := de b hb; omega) fun out ho ho2 => ?_
  obtain ⟨c, hc⟩ := sortedAll_at s.heap its out.toArray
  have zm : (xs.mergeSort (dataLe false enc)).length ≤ sizeLine := by rw [List.length_mergeSort]; exact z
  refine ⟨.ref (s.heap.objs.size + 1), upd H (s.heap.objs.size + 1) (.lst (xs.mergeSort (dataLe false enc))), I.laid (t' := s.toks) (fun b o hb => sortedAll_old hb) (Nat.le_succ _) ⟨zm, out, c, vals_of_each ho2, hc⟩, rfl, q _ (I.hok.fresh (Nat.le_succ _))⟩
/-! ### sorted(d), the keys tuples -/
def leK : List Key → List Key → Bool := dataLe false fun k => .tuple (k.map keyD)
def sortK (ks : List (List Key)) : List (List Key) := ks.mergeSort leK
def rSortD : List V → Hp → VK → Prop := fun vs H Q => ∃ (d : Addr) (ws : List (List Key × V)), vs = [.ref d] ∧ Rd H d (.dT ws) ∧ (∀ k ∈ ws.map (·.1), ∃ a b c : Str, k = [.inr a, .inr b, .inr c]) ∧
  ∀ l bs, H l = none → Paired (fun k b => H b = some (.tup (k.map kV))) (sortK (ws.map (·.1))) bs → Q (.ref l) (upd H l (.lst (bs.map V.ref)))
theorem alike3 (a b c a' b' c' : Str) : PySem.W.alike (.tuple [.str a, .str b, .str c]) (.tuple [.str a', .str b', .str c']) = true := by
  simp [PySem.W.alike, PySem.W.alikeAll]
theorem pair_of {H : Hp} : ∀ {ws : List (List Key × V)} {xs : List (List Key × Addr × Value)}, KT H ws xs → ∀ p ∈ xs.map (fun x => (x.1, x.2.1)), H p.2 = some (.tup (p.1.map kV))
  | _, _, .nil, p, hp => by cases hp
  | _, _, .cons h t, p, hp => by
    rcases List.mem_cons.mp hp with rfl | hp
    · have := h.2.1
      rw [h.1] at this
      exact this
    · exact pair_of t p hp
theorem keys_of {H : Hp} : ∀ {ws : List (List Key × V)} {xs : List (List Key × Addr × Value)}, KT H ws xs → ws.map (·.1) = xs.map (·.1)
  | _, _, .nil => rfl
  | _, _, .cons h t => by
    rw [List.map_cons, List.map_cons, keys_of t, h.1]
theorem reads3 {H : Hp} {pins : List (Addr × Obj)} {σ : L2.St} {s : Shared} {b : Addr} {x y z : Str} (I : Inv X pins σ H s) (hb : H b = some (.tup [.str x, .str y, .str z])) {h' : Heap} (kp : ∀ c o, s.heap.get? c = some o → h'.get? c = some o) :
    Reads h' (.ref b) (.tuple [.str x, .str y, .str z]) [] := by
  obtain ⟨its, rv, ⟨o, ho, hc, n, hd⟩, _⟩ := I.tuple (SqT.of hb)
  obtain ⟨u1, u2, u3, rfl, r1, r2, r3⟩ : ∃ u1 u2 u3, its = [u1, u2, u3] ∧ RelV (.str x) u1 ∧ RelV (.str y) u2 ∧ RelV (.str z) u3 := by
    cases rv with
    | cons r1 t => cases t with
      | cons r2 t => cases t with
        | cons r3 t => cases t; exact ⟨_, _, _, rfl, r1, r2, r3⟩
  obtain ⟨t1, rfl⟩ := r1
  obtain ⟨t2, rfl⟩ := r2
  obtain ⟨t3, rfl⟩ := r3
  exact Reads.tuple (kp _ _ ho) hc hd (ReadsAll.cons (Reads.str x t1) (ReadsAll.cons (Reads.str y t2) (ReadsAll.cons (Reads.str z t3) ReadsAll.nil)))
theorem paired_each {H : Hp} : ∀ {out : List Value} {ps : List (List Key × Addr)}, EachIs (fun v p => v = Value.ref p.2) out ps → (∀ p ∈ ps, H p.2 = some (.tup (p.1.map kV))) →
    Vals ((ps.map (·.2)).map V.ref) out ∧ Paired (fun k b => H b = some (.tup (k.map kV))) (ps.map (·.1)) (ps.map (·.2))
  | _, _, .nil, _ => ⟨.nil, .nil⟩
  | _, _, .cons r t, h => by
    obtain ⟨a, b⟩ := paired_each t fun p hp => h p (List.mem_cons_of_mem _ hp)
    exact ⟨.cons r a, .cons (h _ List.mem_cons_self) b⟩
theorem each_refs : ∀ (ps : List (List Key × Addr)), EachIs (fun v p => v = Value.ref p.2) (ps.map fun p => Value.ref p.2) ps
  | [] => .nil
  | p :: ps => .cons rfl (each_refs ps)
theorem cr_sortD (hc : X.calm = true) (hu : X.A.units + 64 < cLine) : CallR X (.builtin "sorted") rSortD := by
  intro pins s σ H vs us Q I r h
  obtain ⟨d, ws, rfl, hd, tri, q⟩ := h
  obtain ⟨u, rfl, ru⟩ := vals1 r
  obtain rfl : u = Value.ref d := ru
  obtain ⟨z, hs, ks, pr, o, es, ep, ho, hx, hdt, he, hn⟩ := (show ObjOk X.prog X.w H s.heap d (.dT ws) from hd.ok I.hok)
  have l1 : es.size = ks.length := size_of_entries he
  have l2 : ws.length = ks.length := Paired.length pr
  refine Calls.call_function_entry kind_sorted plain_sorted entry_sorted (args_sorted1 _) ?_
  unfold Builtin.«sorted»
  refine wpAny_bind (m := checkCount "sorted" 1 1 _) (wpAny_pure ?_)
  refine wpAny_bind (PySem.W.kdu_collect (A := X.A.in1) (kdl_raw hs hx hdt) (I.ok.hd hc) ho (by omega) fun h' tk acc kp it => ?_)
  obtain ⟨ps, hps⟩ : ∃ ps : List (List Key × Addr), ps = ks.map fun x => (x.1, x.2.1) := ⟨_, rfl⟩
  have hat : ∀ p ∈ ps, H p.2 = some (.tup (p.1.map kV)) := by rw [hps]; exact pair_of pr
  have hks : ps.map (·.1) = ws.map (·.1) := by rw [hps, List.map_map, keys_of pr]; rfl
  have ea : acc.toList = ps.map fun p => Value.ref p.2 := by
    have hl : acc.toList.length = ks.length := by rw [Array.length_toList, it.1]; exact l1
    rw [hps, List.map_map]
    refine List.ext_getElem? fun j => ?_
    rw [List.getElem?_map]
    cases hj : acc.toList[j]? with
    | none =>
      have h1 := List.getElem?_eq_none_iff.mp hj
      rw [List.getElem?_eq_none (by omega)]
      rfl
    | some v =>
      obtain ⟨en, hen, hv⟩ := it.2 j v (by rw [← Array.getElem?_toList]; exact hj)
      have qe := entry_at he j
      rw [hen] at qe
      cases hb : ks[j]? with
      | none =>
        rw [hb] at qe
        cases qe
      | some b =>
        rw [hb] at qe
        rw [hv, show en = _ from Option.some.inj qe]
        rfl
  have lp : ps.length = ks.length := by rw [hps, List.length_map]
  rw [ea]
  have hline : (ps.map fun p => Value.ref p.2).length ≤ sizeLine := by rw [List.length_map]; omega
  refine wpAny_bind (wpAny_newList ?_ hline)
  have hoL : (h'.push (seqObj "list" (ps.map fun p => Value.ref p.2).toArray 0)).get? h'.objs.size = some (seqObj "list" (ps.map fun p => Value.ref p.2).toArray 0) := Heap.get?_push_size _ rfl
  have trip : ∀ p ∈ ps, ∃ x y z : Str, p.1 = [.inr x, .inr y, .inr z] := fun p hp => tri p.1 (by rw [← hks]; exact List.mem_map.mpr ⟨p, hp, rfl⟩)
  have er : EachIs (fun v p => ∃ as, Reads (h'.push (seqObj "list" (ps.map fun p => Value.ref p.2).toArray 0)) v (.tuple (p.1.map keyD)) as ∧ h'.objs.size ∉ as) (ps.map fun p => Value.ref p.2) ps := by
    have gen : ∀ qs : List (List Key × Addr), (∀ p ∈ qs, p ∈ ps) → EachIs (fun v p => ∃ as, Reads (h'.push (seqObj "list" (ps.map fun p => Value.ref p.2).toArray 0)) v (.tuple (p.1.map keyD)) as ∧ h'.objs.size ∉ as) (qs.map fun p => Value.ref p.2) qs := by
      intro qs
      induction qs with
      | nil => exact fun _ => .nil
      | cons p qs ih =>
        intro hq
        refine .cons ?_ (ih fun p hp => hq p (List.mem_cons_of_mem _ hp))
        obtain ⟨x, y, z, ek⟩ := trip p (hq p List.mem_cons_self)
        have hp := hat p (hq p List.mem_cons_self)
        rw [ek] at hp ⊢
        exact ⟨[], reads3 I hp (fun c o e => Heap.get?_push_of_some _ (kp c o e)), by simp⟩
    exact gen ps fun p hp => hp
  have al : AllAlike (ps.map fun p => .tuple (p.1.map keyD)) := by
    intro a ha b hb
    obtain ⟨p, hp, rfl⟩ := List.mem_map.mp ha
    obtain ⟨p', hp', rfl⟩ := List.mem_map.mp hb
    obtain ⟨x, y, z, e1⟩ := trip p hp
    obtain ⟨x', y', z', e2⟩ := trip p' hp'
    rw [e1, e2]
    exact alike3 ..
  have so : Sortable (ps.map fun p => .tuple (p.1.map keyD)) := .inl fun a ha => by
    obtain ⟨p, hp, rfl⟩ := List.mem_map.mp ha
    obtain ⟨x, y, z, e1⟩ := trip p hp
    rw [e1]
    exact ⟨_, _, rfl⟩
  refine wpAny_bind (wpAny_holding (PySem.W.list_sort_data hoL (each_refs ps) er al so (by omega) (fun p hp => ?_) fun out ho1 ho2 => ?_))
  · obtain ⟨x, y, z, e1⟩ := trip p hp
    rw [e1]
    show X.A.in1.units + 1 + (PyData.tuple [.str x, .str y, .str z]).depth < cLine
    have : (PyData.tuple [.str x, .str y, .str z]).depth ≤ 2 := by simp [PyData.depth, PyData.depthAll]
    have : X.A.in1.units ≤ X.A.units + 2 := by first | exact Nat.le_refl _ | (show X.A.units + 1 ≤ _; omega) | (show X.A.units ≤ _; omega)
    omega
  · obtain ⟨c, hcc⟩ := sortedHeap_at (vs := ps.map fun p => Value.ref p.2) (out := out.toArray) hoL
    have pm := List.mergeSort_perm ps (dataLe false fun p => PyData.tuple (p.1.map keyD))
    obtain ⟨v1, v2⟩ := paired_each ho2 fun p hp => hat p (pm.mem_iff.mp hp)
    have mk : (ps.mergeSort (dataLe false fun p => PyData.tuple (p.1.map keyD))).map (·.1) = sortK (ws.map (·.1)) := by
      rw [← hks]
      exact List.map_mergeSort fun a _ b _ => rfl
    rw [mk] at v2
    have zl : (((ps.mergeSort (dataLe false fun p => PyData.tuple (p.1.map keyD))).map (·.2)).map V.ref).length ≤ sizeLine := by
      rw [List.length_map, List.length_map, List.length_mergeSort]
      omega
    have gn : s.heap.get? h'.objs.size = none := by
      cases e : s.heap.get? h'.objs.size with
      | none => rfl
      | some ob => exact absurd (Heap.lt_size (kp _ _ e)) (Nat.lt_irrefl _)
    refine wpAny_pure ⟨_, rfl, .ref h'.objs.size, _, I.laidN (t' := tk) (o := .lst (((ps.mergeSort (dataLe false fun p => PyData.tuple (p.1.map keyD))).map (·.2)).map V.ref)) (fun b ob e => ?_) gn (I.hok.gone gn) ⟨zl, out, c, v1, hcc⟩, rfl, q _ _ (I.hok.gone gn) v2⟩
    have e' := kp b ob e
    have hlt := Heap.lt_size e'
    rw [sortedHeap_old (Nat.ne_of_lt hlt) (by rw [size_push']; exact Nat.lt_succ_of_lt hlt)]
    exact Heap.get?_push_of_some _ e'
end
/-! ### small rules -/
section
variable {X : Cx}
theorem pa_starK {K : PySem.W.Frag} {e : Expr} {p : Pos} {es : List Expr} {te : TE} {t : TA} (hK : X.K = K) (he : PE X e te) (hr : PA X es t) (hs : starEach (.Starred e p :: es) X.env = (true, eval e X.env) :: starEach es X.env := by rfl) : PA X (.Starred e p :: es) (StX.tStar K te t) := by
  subst hK
  exact StX.pa_star he hr hs
def rInD : R2 := fun x y H Q => ∃ a o, y = .ref a ∧ DGet H a x o ∧ Q (.bl o.isSome) H
def rNinD : R2 := fun x y H Q => ∃ a o, y = .ref a ∧ DGet H a x o ∧ Q (.bl (!o.isSome)) H
theorem op_inD (hu : X.A.units + 1 < cLine) : OpR X (compareOp .In) rInD := by
  intro pins s σ H x y v u Q I rx ry h
  obtain ⟨a, o, rfl, g, q⟩ := h
  obtain rfl : u = Value.ref a := ry
  exact d_in hu I g rx fun s3 I3 => ⟨.bl o.isSome, H, I3, rfl, q⟩
theorem op_ninD (hu : X.A.units + 1 < cLine) : OpR X (compareOp .NotIn) rNinD := by
  intro pins s σ H x y v u Q I rx ry h
  obtain ⟨a, o, rfl, g, q⟩ := h
  obtain rfl : u = Value.ref a := ry
  exact d_notIn hu I g rx fun s3 I3 => ⟨.bl (!o.isSome), H, I3, rfl, q⟩
theorem sl_tupK {K : PySem.W.Frag} (hK : X.K = K) : SlR X (rSlT K) := by subst hK; exact sl_tup
theorem sl_listK {K : PySem.W.Frag} (hK : X.K = K) : SlR X (rSlL K) := by subst hK; exact sl_list
end
theorem scal_intE (a b : Int) : scal (.int a) (.int b) = true := rfl
theorem scal_blE (a b : Bool) : scal (.bl a) (.bl b) = true := rfl
/-- zip of two, the second shorter -/
theorem walk_zipS {K : PySem.W.Frag} {s1 s2 : LZ.Sv} {xs ys : List V} (hl : ys.length < xs.length) : Walk (LZ.ItzN K [s1, s2]) ys.length (fun H => s1.has K H xs ∧ s2.has K H ys) (YPair (fun i => xs[i]?) (fun i => ys[i]?)) := by
  refine ⟨fun i H hi q j s e => ?_, fun H q => ⟨1, by simp, fun s e => ?_, fun j s hj e => ?_⟩, fun i H v H' hi q y => ?_⟩
  · match j with
    | 0 => cases e; exact ⟨xs, _, q.1, List.getElem?_eq_getElem (by omega)⟩
    | 1 => cases e; exact ⟨ys, _, q.2, List.getElem?_eq_getElem hi⟩
    | j + 2 => cases e
  · cases e
    exact ⟨ys, q.2, Nat.le_refl _⟩
  · obtain rfl : j = 0 := by omega
    cases e
    exact ⟨xs, _, q.1, List.getElem?_eq_getElem hl⟩
  · obtain ⟨T, zs, h1, h2, h3, h4, h5⟩ := y
    have a := h5 0 s1 xs rfl q.1
    have b := h5 1 s2 ys rfl q.2
    have hx := List.getElem?_eq_getElem (show i < xs.length by omega)
    have hy := List.getElem?_eq_getElem hi
    rw [hx] at a
    rw [hy] at b
    obtain ⟨z1, z2, rfl⟩ : ∃ z1 z2, zs = [z1, z2] := by
      match zs, h4 with
      | [z1, z2], _ => exact ⟨z1, z2, rfl⟩
    have ea : xs[i]? = some z1 := hx.trans a.symm
    have eb : ys[i]? = some z2 := hy.trans b.symm
    exact ⟨T, z1, z2, h1, h2, h3, ea, eb⟩
/-! ### comprehensions with two for -/
/-- all but D stays -/
def Sb (D : Addr) (H H' : Hp) : Prop := ∀ b o, b ≠ D → H b = some o → H' b = some o
theorem Sb.put {D : Addr} {H H' : Hp} {o : HO} (h : Sb D H H') : Sb D H (upd H' D o) := fun b u hb e => by
  rw [upd_ne hb]
  exact h b u hb e
theorem Sb.same {D : Addr} {H0 H H' : Hp} (e : Same H0 H) (hD : H0 D = none) (h : Sb D H H') : Same H0 H' := fun b o hb => h b o (ne_of_none hb hD) (e b o hb)
/-- what the second for of a comprehension is asked -/
def Inner (J1 : It) (g1 : TG) (te : TE) (vs1 : List Nat) (σ2 : L2.St) (D : Addr) (Nx : Hp → Prop) (H4 : Hp) : Prop := ∃ W1 : Nat → Nat → Hp → Prop, (∃ m, W1 0 m H4) ∧ ∀ j k H, W1 j k H →
  (J1.stop j H ∧ Nx H) ∨ (J1.go j H ∧ ∃ Nx1 : Hp → Prop, (∀ H', Nx1 H' → ∃ k', k' < k ∧ W1 (j + 1) k' H') ∧ ∀ x H', J1.yld j H x H' → g1 x (wipe σ2 vs1) H' fun σ3 H5 => wipe σ3 vs1 = wipe σ2 vs1 ∧ tYes σ3 H5 fun b H6 =>
    if b = true then te σ3 H6 fun y H7 => ∃ acc, H7 D = some (.lst acc) ∧ acc.length < sizeLine ∧ Nx1 (upd H7 D (.lst (acc ++ [y]))) else Nx1 H6)
theorem inner_cat {J1 : It} {G1 : Hp → Prop} {ys : List V} (W1 : Walk J1 ys.length G1 (YAt ys)) {j1 : Nat} {te : TE} {vs1 : List Nat} {σ2 : L2.St} {H4 : Hp} {D : Addr} {acc : List V} {Nx : Hp → Prop} (v : V → V) (hD : H4 D = some (.lst acc)) (hz : acc.length + ys.length ≤ 1000000)
    (hG1 : ∀ H', Sb D H4 H' → G1 H') (hw1 : ∀ y, wipe ((wipe σ2 vs1).set j1 (some y)) vs1 = wipe σ2 vs1) (hte : ∀ y, y ∈ ys → ∀ H', Sb D H4 H' → ∀ R : VK, R (v y) H' → te ((wipe σ2 vs1).set j1 (some y)) H' R)
    (fin : ∀ H', Sb D H4 H' → H' D = some (.lst (acc ++ ys.map v)) → Nx H') : Inner J1 (gName j1) te vs1 σ2 D Nx H4 := by
  obtain ⟨P1, hP1⟩ : ∃ P1 : Nat → Hp → Prop, ∀ j H', P1 j H' ↔ (Sb D H4 H' ∧ H' D = some (.lst (acc ++ (ys.take j).map v))) := ⟨_, fun _ _ => Iff.rfl⟩
  refine ⟨fun j m H' => m = ys.length - j ∧ j ≤ ys.length ∧ P1 j H', ⟨ys.length, rfl, Nat.zero_le _, (hP1 _ _).mpr ⟨fun b o _ e => e, by rw [List.take_zero, List.map_nil, List.append_nil]; exact hD⟩⟩, ?_⟩
  rintro j m H2 ⟨rfl, hj, p1⟩
  obtain ⟨sb, hd⟩ := (hP1 _ _).mp p1
  by_cases hlt : j < ys.length
  · refine .inr ⟨W1.goes j H2 hlt (hG1 H2 sb), P1 (j + 1), fun H' p' => ⟨ys.length - (j + 1), by omega, rfl, hlt, p'⟩, fun y H' yy => ?_⟩
    obtain ⟨rfl, ey⟩ := W1.yields j H2 y H' hlt (hG1 H2 sb) yy
    refine ⟨hw1 y, hte y (List.mem_of_getElem? ey) H' sb _ ⟨_, hd, ?_, (hP1 _ _).mpr ⟨sb.put, ?_⟩⟩⟩
    · rw [List.length_append, List.length_map, List.length_take]
      exact Nat.lt_of_le_of_lt (show acc.length + min j ys.length ≤ 1000000 by omega) (by decide)
    · have et : ys.take (j + 1) = ys.take j ++ [y] := by rw [List.take_add_one, ey]; rfl
      rw [upd_same, et, List.map_append, List.append_assoc]
      rfl
  · have e : j = ys.length := by omega
    subst e
    rw [List.take_length] at hd
    exact .inl ⟨W1.stops H2 (hG1 H2 sb), fin H2 sb hd⟩
def catN (f : Nat → List V) (n : Nat) : List V := (List.range n).flatMap f
theorem catN_succ (f : Nat → List V) (n : Nat) : catN f (n + 1) = catN f n ++ f n := by
  unfold catN
  rw [List.range_succ, List.flatMap_append]
  simp
theorem lc2_cat {J : It} {n : Nat} {G : Hp → Prop} {Y : Nat → Hp → V → Hp → Prop} (W : Walk J n G Y) {g : TG} {wi1 : TI} {g1 : TG} {te : TE} {vs vs1 : List Nat} {σ : L2.St} {H : Hp} {Q : VK} (f : Nat → List V) (hG : ∀ H1, Same H H1 → G H1)
    (he : ∀ i x H1 H2 D (Nx : Hp → Prop), i < n → H D = none → Same H H1 → H1 D = some (.lst (catN f i)) → Y i H1 x H2 → (∀ H3, Same H H3 → H3 D = some (.lst (catN f i ++ f i)) → Nx H3) →
      g x (wipe σ vs) H2 fun σ2 H3 => wipe σ2 vs = wipe σ vs ∧ tYes σ2 H3 fun b H4 => if b = true then wi1 σ2 H4 fun J1 H5 => Inner J1 g1 te vs1 σ2 D Nx H5 else Nx H4)
    (q : ∀ p H2, H p = none → Same H H2 → H2 p = some (.lst (catN f n)) → Q (.ref p) H2) : Lc2Loop J g wi1 g1 te vs vs1 σ H Q := by
  intro D hD
  obtain ⟨Pv, hP⟩ : ∃ Pv : Nat → Hp → Prop, ∀ i H', Pv i H' ↔ (Same H H' ∧ H' D = some (.lst (catN f i))) := ⟨_, fun _ _ => Iff.rfl⟩
  refine ⟨fun i m H' => m = n - i ∧ i ≤ n ∧ Pv i H', ⟨n, rfl, Nat.zero_le _, (hP _ _).mpr ⟨Same.new hD, upd_same⟩⟩, ?_⟩
  rintro i m H1 ⟨rfl, hi, p⟩
  obtain ⟨sm, hd⟩ := (hP _ _).mp p
  by_cases hlt : i < n
  · refine .inr ⟨W.goes i H1 hlt (hG H1 sm), Pv (i + 1), fun H' p' => ⟨n - (i + 1), by omega, rfl, hlt, p'⟩, fun x H' y => ?_⟩
    exact he i x H1 H' D (Pv (i + 1)) hlt hD sm hd (W.yields i H1 x H' hlt (hG H1 sm) y) fun H3 s3 d3 => (hP _ _).mpr ⟨s3, by rw [catN_succ]; exact d3⟩
  · have e : i = n := by omega
    subst e
    exact .inl ⟨W.stops H1 (hG H1 sm), q D H1 hD sm hd⟩
theorem walk_itI {d : Addr} {o : Obj} {ws : List (List Key × V)} : Walk (ItI d o ws) ws.length (fun H => H d = some (.frz o (.dT ws)))
    (fun i H x H' => ∃ (T q : Addr) (k : List Key) (v : V), ws[i]? = some (k, v) ∧ x = .ref T ∧ H T = none ∧ H q = some (.tup (k.map kV)) ∧ H' = upd H T (.tup [.ref q, v])) :=
  ⟨fun _ _ hi q => ⟨q, hi⟩, fun _ q => ⟨q, Nat.le_refl _⟩, fun _ _ _ _ _ _ y => y⟩
/-! ### dict comprehensions over what is walked -/
def DcLoop (J : It) (g : TG) (tk tv : TE) (vs : List Nat) (σ : L2.St) (H1 : Hp) (Q : VK) : Prop := ∀ D, H1 D = none → ∃ W : Nat → Nat → Hp → Prop, (∃ m, W 0 m (upd H1 D (.dT []))) ∧ ∀ i m H, W i m H →
  (J.stop i H ∧ Q (.ref D) H) ∨ (J.go i H ∧ ∃ Nx : Hp → Prop, (∀ H', Nx H' → ∃ m', m' < m ∧ W (i + 1) m' H') ∧ ∀ x H', J.yld i H x H' → g x (wipe σ vs) H' fun σ2 H2 => wipe σ2 vs = wipe σ vs ∧ tYes σ2 H2 fun b H3 =>
    if b = true then tk σ2 H3 fun y H4 => tv σ2 H4 fun z H5 => ∃ H6, DPut H5 D y z H6 ∧ Nx H6 else Nx H3)
theorem tDcT_eq (wi : TI) (g : TG) (tk tv : TE) (vs : List Nat) (σ : L2.St) (H : Hp) (Q : VK) : tDcT wi g tYes tk tv vs σ H Q = wi σ H fun J H1 => DcLoop J g tk tv vs σ H1 Q := rfl
theorem put_new {κ : Type} [DecidableEq κ] {ws : List (κ × V)} {k : κ} {v : V} (h : ∀ p ∈ ws, p.1 ≠ k) : putK ws k v = ws ++ [(k, v)] := by
  unfold putK
  rw [if_neg]
  intro z
  obtain ⟨p, hp, e⟩ := List.any_eq_true.mp z
  exact h p hp (of_decide_eq_true e)
theorem dcT_out {J : It} {n : Nat} {G : Hp → Prop} {Y : Nat → Hp → V → Hp → Prop} (W : Walk J n G Y) {g : TG} {tk tv : TE} {vs : List Nat} {σ : L2.St} {H : Hp} {Q : VK} (f : Nat → List Key × V) (nd : ∀ i j, i < j → j < n → (f i).1 ≠ (f j).1) (hn : n ≤ 1000000) (hG : ∀ H1, Same H H1 → G H1)
    (he : ∀ i x H1 H2 D (Nx : Hp → Prop), i < n → H D = none → Same H H1 → Y i H1 x H2 → (∀ b H3, Same H1 H3 → H3 b = some (.tup ((f i).1.map kV)) → ∃ H6, DPut H3 D (.ref b) (f i).2 H6 ∧ Nx H6) →
      g x (wipe σ vs) H2 fun σ2 H3 => wipe σ2 vs = wipe σ vs ∧ tYes σ2 H3 fun c H4 => if c = true then tk σ2 H4 fun y H5 => tv σ2 H5 fun z H6 => ∃ H7, DPut H6 D y z H7 ∧ Nx H7 else Nx H4)
    (q : ∀ p H2, H p = none → Same H H2 → H2 p = some (.dT ((List.range n).map f)) → Q (.ref p) H2) : DcLoop J g tk tv vs σ H Q := by
  intro D hD
  obtain ⟨Pv, hP⟩ : ∃ Pv : Nat → Hp → Prop, ∀ i H', Pv i H' ↔ (Same H H' ∧ H' D = some (.dT ((List.range i).map f))) := ⟨_, fun _ _ => Iff.rfl⟩
  refine ⟨fun i m H' => m = n - i ∧ i ≤ n ∧ Pv i H', ⟨n, rfl, Nat.zero_le _, (hP _ _).mpr ⟨Same.new hD, upd_same⟩⟩, ?_⟩
  rintro i m H1 ⟨rfl, hi, p⟩
  obtain ⟨sm, hd⟩ := (hP _ _).mp p
  by_cases hlt : i < n
  · refine .inr ⟨W.goes i H1 hlt (hG H1 sm), Pv (i + 1), fun H' p' => ⟨n - (i + 1), by omega, rfl, hlt, p'⟩, fun x H' y => ?_⟩
    refine he i x H1 H' D (Pv (i + 1)) hlt hD sm (W.yields i H1 x H' hlt (hG H1 sm) y) fun b H3 s3 hb => ?_
    have ln : ((List.range i).map f).length < sizeLine := by
      rw [List.length_map, List.length_range]
      exact Nat.lt_of_le_of_lt (show i ≤ 1000000 by omega) (by decide)
    refine ⟨_, DPut.t (s3 _ _ hd) hb ln, (hP _ _).mpr ⟨Same.lay (sm.trans s3) hD, ?_⟩⟩
    rw [upd_same, put_new]
    · rw [List.range_succ, List.map_append]
      rfl
    · intro q hq
      obtain ⟨j, hj, rfl⟩ := List.mem_map.mp hq
      exact nd j i (List.mem_range.mp hj) hlt
  · have e : i = n := by omega
    subst e
    exact .inl ⟨W.stops H1 (hG H1 sm), q D H1 hD sm hd⟩
/-- a slot stored, the rest of the block left as it is -/
theorem sSl_go {K : PySem.W.Frag} {ta tv : TE} {f : Str} {D : Ends} {σ : L2.St} {H : Hp} (h : tv σ H fun y H1 => ta σ H1 fun x H2 => ∃ a C dx p vs i, x = .ref a ∧ Slt H2 a C dx vs ∧ SCls K C ∧ Slot1 K C f p i ∧ D.nx σ (slH H2 a C dx (putS i y vs))) : sSl K ta tv f D σ H := h
end LP

set_option Elab.async false
set_option linter.all false
set_option maxRecDepth 100000
set_option maxHeartbeats 4000000
/-! LPV: sets of texts by a comprehension, their number; dicts of pairs. -/
namespace LP
open PySem PySem.Spec L2 SlX
open PyProof.Rows hiding St
section
variable {P : Program} {w : World} {A : Around} {E : Value → Shared → Prop} {s : Shared}
/-- a text more -/
theorem setT_plus {a : Addr} {k : Str} {tk : Tok} {xs : List Str} {Q : Value → Shared → Prop} (T : HoldsT w s.heap a xs xs.length) (room : xs.length + 1 < scanBound)
    (q : ∀ h', Heap.SameBut a s.heap h' → HoldsT w h' a (xs ++ [k]) (xs ++ [k]).length → Q .none { s with heap := h', toks := s.toks + 1 }) : wpAny (model P w) A (call (.builtin "set.add") [.ref a, .str k tk]) Q E s := by
  obtain ⟨M, m, R, hm, hM⟩ := T
  have ty : s.TypeIs (.ref a) "set" := by
    obtain ⟨o, es, ep, t, ho, hex, hd, _⟩ := R
    exact ⟨o, ho, hex.1⟩
  refine wpAny_call_entry F.slot_set_add ty F.entry_set_add ?_ (F.args_set_add_2 _ _)
  unfold Builtin.«set.add» Builtin.Frozenset.oneOther Builtin.Frozenset.addrOf setAdd
  simp only [List.isEmpty_nil, bind_assoc]
  refine wpAny_bind (wpAny_pure (wpAny_bind (wpAny_pure (wpAny_bind (wpAny_holding (wpAny_bind ((strKind P w).pyHash (strKind_is P w k tk) ?_)))))))
  refine setT_add (s := { s with toks := s.toks + 1 }) R (Nat.lt_of_le_of_lt (Nat.succ_le_succ hm) room) fun h' sb r => wpAny_pure ⟨_, rfl, q h' sb ⟨_, _, r, ?_, fun j => ?_⟩⟩
  · rw [List.length_append]
    show _ ≤ xs.length + 1
    split <;> omega
  · rw [List.take_length, Bool.or_eq_true, decide_eq_true_eq, List.mem_append, List.mem_singleton, hM j, List.take_length]
theorem newSet_okT {Q : Value → Shared → Prop} (h : Q (.ref s.heap.objs.size) { s with heap := s.heap.push (freshSet w) }) : wpAny (model P w) A (newSet (.type "set")) Q E s := PpSet.newSet_ok h
end
section
variable {X : Cx}
theorem txS_get {pins : List (Addr × Obj)} {σ : L2.St} {H : Hp} {s : Shared} {a : Addr} {xs : List Str} (I : Inv X pins σ H s) (ha : H a = some (TxS X.w a xs)) : HoldsT X.w s.heap a xs xs.length := by
  exact (I.hok a _ ha).1
/-- {e for ..}, the items texts -/
def tScT (w : World) (wi : TI) (g : TG) (tt : TT) (te : TE) (vs : List Nat) : TE := fun σ H Q => wi σ H fun J H1 => ∀ D, H1 D = none → ∃ W : Nat → Nat → Hp → Prop, (∃ m, W 0 m (upd H1 D (TxS w D []))) ∧ ∀ i m H, W i m H →
  (J.stop i H ∧ Q (.ref D) H) ∨ (J.go i H ∧ ∃ Nx : Hp → Prop, (∀ H', Nx H' → ∃ m', m' < m ∧ W (i + 1) m' H') ∧ ∀ x H', J.yld i H x H' → g x (wipe σ vs) H' fun σ2 H2 => wipe σ2 vs = wipe σ vs ∧ tt σ2 H2 fun b H3 =>
    if b = true then te σ2 H3 fun y H4 => ∃ (k : Str) (xs : List Str), y = .str k ∧ H4 D = some (TxS w D xs) ∧ xs.length + 1 < scanBound ∧ Nx (upd H4 D (TxS w D (xs ++ [k]))) else Nx H3)
theorem pe_scT {elt tg iter : Expr} {ifs : List Expr} {scope : Scope} {own : List (Str × Nat)} {pos : Pos} {wi : TI} {g : TG} {tt : TT} {te : TE} (hc : X.calm = true) (hN : X.N.Nodup) (hi : PI X tg iter wi) (ok : BlkOk X.N X.env.scope scope own)
    (hg : Blk X scope fun Y => PG Y tg g) (ht : Blk X scope fun Y => PTs Y ifs tt) (he : Blk X scope fun Y => PE Y elt te) (hs : ∀ x, foldedSetIterable iter X.env x = pure x := by intro _; rfl) :
    PE X (.SetComp elt [⟨tg, iter, ifs, 0⟩] scope pos) (tScT X.w wi g tt te (own.map (·.2))) := by
  refine ⟨fun pins s σ H Q I h => ?_⟩
  rw [PpSet.eval_SetComp]
  have has : ∀ y ∈ scope.names, y.2 = .free → ∃ c, X.env.cells.lookup y.1 = some c := fun y hy e => (ok.free y hy e).elim (fun k => I.ok.has _ (.inl k)) (fun k => I.ok.has _ (.inr k))
  refine wpAny_comprehension_free rfl hs (closure_ok has) ok.kind (fun y hy e => by rw [ok.uniq y hy, e]) ?_
  refine thn (hi.run pins s σ H _ I h) fun xv s1 hx => thn hx fun itv s2 h2 => ?_
  obtain ⟨it, fp, tn, J, H2, rfl, I2, T, st2, f2, q⟩ := h2
  refine newSet_okT (newEnv_comp ?_)
  obtain ⟨D, hD⟩ : ∃ D, s2.heap.objs.size = D := ⟨_, rfl⟩
  rw [hD]
  have fresh : H2 D = none := I2.hok.fresh (Nat.le_of_eq hD)
  obtain ⟨W, ⟨m0, w0⟩, turn⟩ := q D fresh
  obtain ⟨s3, hs3⟩ : ∃ s3 : Shared, s3 = { s2 with heap := s2.heap.push (freshSet X.w) } := ⟨_, rfl⟩
  have hh3 : s3.heap = s2.heap.push (freshSet X.w) := by rw [hs3]
  have old : ∀ b o, s2.heap.get? b = some o → s3.heap.get? b = some o := fun b o e => by rw [hh3]; exact Heap.get?_push_of_some _ e
  obtain ⟨H3, hH3⟩ : ∃ H3, upd H2 D (TxS X.w D []) = H3 := ⟨_, rfl⟩
  rw [hH3] at w0
  have I3 : Inv X pins σ H3 s3 := by
    rw [← hH3, hs3]
    refine I2.laid (t' := s2.toks) (fun b o e => Heap.get?_push_of_some _ e) (Nat.le_of_eq hD) ?_
    rw [← hD]
    exact txS_ok (setT_fresh X.w [])
  have f3 : ∀ b ∈ fp, FpOk X pins H3 b ∧ b < s3.heap.objs.size := fun b hb => by
    obtain ⟨o, e, _⟩ := T.obj _ _ st2 b hb
    have lt2 := Heap.lt_size e
    have nb : b ≠ D := Nat.ne_of_lt (hD ▸ lt2)
    refine ⟨⟨?_, (f2 b hb).2⟩, Heap.lt_size (old b o e)⟩
    rw [← hH3, upd_ne nb]
    exact (f2 b hb).1
  have st3 : tn 0 s3.heap := T.keep _ _ _ st2 fun b _ o e => old b o e
  have I4 := block_start I3 ok hN f3
  rw [← hs3]
  obtain ⟨ce, hce⟩ : ∃ ce, compEnvC scope (cellsFrom (s3.heap.objs.size + 1) scope.names (cloFrom X.env.cells scope.names [])) s3.heap.objs.size X.env = ce := ⟨_, rfl⟩
  have here := And.intro (hg s3 H3 s3.heap.objs.size (cellsFrom (s3.heap.objs.size + 1) scope.names (cloFrom X.env.cells scope.names [])) fp) (ht s3 H3 s3.heap.objs.size (cellsFrom (s3.heap.objs.size + 1) scope.names (cloFrom X.env.cells scope.names [])) fp)
  have pe := he s3 H3 s3.heap.objs.size (cellsFrom (s3.heap.objs.size + 1) scope.names (cloFrom X.env.cells scope.names [])) fp
  rw [hce] at I4 here pe
  have cL : ce.locals = s3.heap.objs.size := by rw [← hce]; rfl
  obtain ⟨pg, pt⟩ := here
  obtain ⟨s4, hs4⟩ : ∃ s4 : Shared, s4 = { s3 with heap := pushCells (s3.heap.push { cls := .type "dict", data := .dict #[] }) scope.names } := ⟨_, rfl⟩
  rw [← hs4] at I4
  have st4 : tn 0 s4.heap := T.keep _ _ _ st3 fun b _ o e => by rw [hs4]; exact pushCells_keeps _ _ _ _ (Heap.get?_push_of_some _ e)
  have noFp : ∀ b ∈ fp, H3 b = none := fun b hb => (f3 b hb).1.1
  have stat : ∀ {σ' : L2.St} {H' : Hp} {s' : Shared}, Inv (X.blk s3 H3 scope ce fp) [] σ' H' s' → (∀ b ∈ fp, H' b = none) → ∀ b ∈ fp, FpOk (X.blk s3 H3 scope ce fp) [] H' b := fun {σ' H' s'} K' hn b hb =>
    ⟨hn b hb, (K'.ok.exf b hb).1, K'.ok.exfs b hb, .inl hb, fun x c e => (K'.ok.exf b hb).2 x c e, fun p hp => by cases (show p ∈ ([] : List (Addr × Obj)) ++ [] from hp)⟩
  have loop : ∀ post, (∀ s6 m H5, Inv X pins σ H5 s6 → Q (.ref D) H5 → s6.heap.Ns s3.heap.objs.size m → FpOk X pins H5 s3.heap.objs.size → post (.ok .next) s6) →
      codeAny (model X.prog X.w) X.A (.compLoop (.SetComp elt [⟨tg, iter, ifs, 0⟩] scope pos) 0 (.ref it) (.ref D) ce) post s4 := by
    intro post hpost
    refine PpSet.compLoopS_any (fun n s' => ∃ i H', Inv (X.blk s3 H3 scope ce fp) [] (wipe σ (own.map (·.2))) H' s' ∧ tn i s'.heap ∧ (∀ b ∈ fp, H' b = none) ∧ W i n H') ?_ m0 ⟨0, H3, I4, st4, noFp, w0⟩
    rintro n s5 ⟨i, H5, I5, st5, n5, w5⟩
    rcases turn i n H5 w5 with ⟨stop, qq⟩ | ⟨go, Nx, hNx, step⟩
    · have e1 := T.done (X.blk s3 H3 scope ce fp) rfl rfl rfl hc i [] s5 _ H5 (fun _ _ => False) I5 (stat I5 n5) st5 stop
      refine thnF e1 fun r s6 ⟨hr, I6⟩ => ?_
      subst hr
      have back : Inv X pins σ H5 s6 := I3.call' (ch := fp) I6.os I6.base I6.hok I6.bare fun b hb =>
        let z := (f3 b hb).1
        ⟨z.2.2.2.1, z.2.1, z.2.2.2.2.1, z.2.2.2.2.2⟩
      have nC : H5 s3.heap.objs.size = none := cL ▸ (show H5 ce.locals = none from I6.free)
      obtain ⟨m, hn, _⟩ := I6.loc
      have hn2 : s6.heap.Ns s3.heap.objs.size m := cL ▸ (show s6.heap.Ns ce.locals m from hn)
      exact hpost s6 m H5 back qq hn2 (I3.fpOk (Nat.le_refl _) nC)
    · have e1 := T.item (X.blk s3 H3 scope ce fp) rfl rfl rfl hc i [] s5 _ H5 (fun _ _ => False) I5 (stat I5 n5) st5 go
      refine thnF e1 fun r s6 ⟨u, hr, h6⟩ => ?_
      subst hr
      refine thnF h6 fun _ s7 ⟨x, H7, I7, r7, y7, st7, n7⟩ => ?_
      have P7 := I7.pinned (stat I7 n7) (T.obj _ _ st7)
      refine thnF (pg.run _ s7 _ H7 x u _ P7 r7 (step x H7 y7)) fun _ s8 ⟨σ8, H8, I8, hw8, q8⟩ => ?_
      refine thnF (pt.run _ s8 σ8 H8 _ I8 q8) fun b s9 ⟨H9, I9, q9⟩ => ?_
      have fin : ∀ {s' : Shared} {H' : Hp}, Inv (X.blk s3 H3 scope ce fp) ([] ++ pinsAt fp s7.heap) σ8 H' s' → Nx H' → ∃ m, m < n ∧ ∃ i H', Inv (X.blk s3 H3 scope ce fp) [] (wipe σ (own.map (·.2))) H' s' ∧ tn i s'.heap ∧ (∀ b ∈ fp, H' b = none) ∧ W i m H' := by
        intro s' H' K' nx
        obtain ⟨m', hm, w'⟩ := hNx H' nx
        have pin' : ∀ b ∈ fp, ∀ o, s7.heap.get? b = some o → s'.heap.get? b = some o ∧ H' b = none := fun b hb o e =>
          have z := K'.pin (b, o) (List.mem_append_right _ (List.mem_append_right _ (mem_pinsAt hb e)))
          ⟨z.1, z.2.1⟩
        have hl : (wipe σ (own.map (·.2))).length = σ8.length := by rw [← hw8, wipe_length]
        refine ⟨m', hm, i + 1, H', (K'.unpinned (pins := [])).weak hl (fun j v e => (wipe_some (hw8 ▸ e)).1), T.keep _ _ _ st7 fun b hb o e => (pin' b hb o e).1, fun b hb => ?_, w'⟩
        obtain ⟨o, e, _⟩ := T.obj _ _ st7 b hb
        exact (pin' b hb o e).2
      cases b with
      | false => exact fin I9 q9
      | true =>
        refine thnF (pe.run _ s9 σ8 H9 _ I9 q9) fun z s10 ⟨yv, H10, I10, r10, k, xs, ey, hD10, hz10, nx⟩ => ?_
        subst ey
        obtain ⟨tk, rfl⟩ : ∃ tk, z = Value.str k tk := r10
        have T0 := txS_get (X := X.blk s3 H3 scope ce fp) I10 hD10
        refine setT_plus T0 hz10 fun h' sb new => ?_
        have have_o : ∃ u, h'.get? D = some u := by
          obtain ⟨_, _, ⟨o, _, _, _, ho, _⟩, _⟩ := new
          exact ⟨o, ho⟩
        exact fin (I10.write (e := D) (t' := s10.toks + 1) (by rw [hD10]; trivial) (.inl rfl) (fun b u hb hu => (sb.2 b hb).trans hu) have_o (txS_ok new)) nx
  subst hce hs4
  refine PpSet.codeAny_compStart_set (loop _ ?key) (T.self X.A 0 _ _ _ st4 (loop _ ?key))
  intro s6 m H5 K' qq hn f
  refine ⟨m, hn, fun h9 sb => ?_⟩
  obtain ⟨a0, a1, a2, a3, a4, a5⟩ := f
  exact ⟨.ref D, H5, K'.turned (t' := s6.toks) (fun b o hb e => (sb.2 b hb).trans e) a0 a1 a3 a4 a5, rfl, qq⟩
/-- the same, folded -/
def ScLoop (w : World) (J : It) (g : TG) (te : TE) (vs : List Nat) (σ : L2.St) (H1 : Hp) (Q : VK) : Prop := ∀ D, H1 D = none → ∃ W : Nat → Nat → Hp → Prop, (∃ m, W 0 m (upd H1 D (TxS w D []))) ∧ ∀ i m H, W i m H →
  (J.stop i H ∧ Q (.ref D) H) ∨ (J.go i H ∧ ∃ Nx : Hp → Prop, (∀ H', Nx H' → ∃ m', m' < m ∧ W (i + 1) m' H') ∧ ∀ x H', J.yld i H x H' → g x (wipe σ vs) H' fun σ2 H2 => wipe σ2 vs = wipe σ vs ∧
    te σ2 H2 fun y H4 => ∃ (k : Str) (xs : List Str), y = .str k ∧ H4 D = some (TxS w D xs) ∧ xs.length + 1 < scanBound ∧ Nx (upd H4 D (TxS w D (xs ++ [k]))))
theorem tScT_eq (w : World) (wi : TI) (g : TG) (te : TE) (vs : List Nat) (σ : L2.St) (H : Hp) (Q : VK) : tScT w wi g tYes te vs σ H Q = wi σ H fun J H1 => ScLoop w J g te vs σ H1 Q := rfl
theorem sc_texts {w : World} {J : It} {n : Nat} {G : Hp → Prop} {Y : Nat → Hp → V → Hp → Prop} (W : Walk J n G Y) {g : TG} {te : TE} {vs : List Nat} {σ : L2.St} {H : Hp} {Q : VK} (f : Nat → Str) (hn : n + 1 < scanBound) (hG : ∀ H1, Same H H1 → G H1)
    (he : ∀ i x H1 H2, i < n → Same H H1 → Y i H1 x H2 → ∀ R : VK, (∀ H3, Same H1 H3 → R (.str (f i)) H3) → g x (wipe σ vs) H2 fun σ2 H3 => wipe σ2 vs = wipe σ vs ∧ te σ2 H3 R)
    (q : ∀ p H2, H p = none → Same H H2 → H2 p = some (TxS w p ((List.range n).map f)) → Q (.ref p) H2) : ScLoop w J g te vs σ H Q := by
  intro D hD
  refine ⟨fun i m H' => m = n - i ∧ i ≤ n ∧ Same H H' ∧ H' D = some (TxS w D ((List.range i).map f)), ⟨n, rfl, Nat.zero_le _, Same.new hD, upd_same⟩, ?_⟩
  rintro i m H1 ⟨rfl, hi, sm, hd⟩
  by_cases hlt : i < n
  · refine .inr ⟨W.goes i H1 hlt (hG _ sm), fun H' => Same H H' ∧ H' D = some (TxS w D ((List.range (i + 1)).map f)), fun H' p => ⟨n - (i + 1), by omega, rfl, hlt, p⟩, fun x H2 y => he i x H1 H2 hlt sm (W.yields i H1 x H2 hlt (hG _ sm) y) _ fun H3 s3 => ⟨f i, _, rfl, s3 _ _ hd, ?_, Same.lay (sm.trans s3) hD, ?_⟩⟩
    · rw [List.length_map, List.length_range]
      omega
    · rw [upd_same, List.range_succ, List.map_append]
      rfl
  · have e : i = n := by omega
    subst e
    exact .inl ⟨W.stops H1 (hG _ sm), q D H1 hD sm hd⟩
/-- len of a set of texts -/
def rLenTx (w : World) : List V → Hp → VK → Prop := fun vs H Q => ∃ (a : Addr) (xs : List Str), vs = [.ref a] ∧ H a = some (TxS w a xs) ∧ ∀ ks : List Str, ks.Nodup → (∀ k, k ∈ ks ↔ k ∈ xs) → Q (.int (ks.length : Int)) H
theorem cr_lenTx {w : World} (hw : X.w = w) : CallR X (.builtin "len") (rLenTx w) := by
  subst hw
  intro pins s σ H vs us Q I r h
  obtain ⟨a, xs, rfl, ha, q⟩ := h
  rw [Vals.ref1 r]
  obtain ⟨M, m, ⟨o, es, ep, t, ho, hex, hd, T, hf, hn, hw⟩, hm, hM⟩ := txS_get I ha
  have fe := T.few
  refine call_len_set ho hex hd hf (by have : scanBound < 2 ^ 63 := by decide
                                       omega) ?_
  have q2 := q (es.toList.map tkey) T.nd fun k => by rw [← T.mem k, hM k, List.take_length]
  rw [List.length_map, Array.length_toList] at q2
  exact ⟨.int (es.size : Int), H, I.kept (t' := s.toks + 1 + 1) fun b ob q => q, ⟨_, rfl⟩, q2⟩
theorem pairs_at {P : Program} {w : World} : ∀ {es : List DictEntry} {kvs : List (Key × Value)}, Pairs (mixKind P w) es kvs → ∀ (i : Nat) (e : DictEntry), es[i]? = some e → ∃ k, kvs[i]? = some (k, e.val) ∧ (mixKind P w).is k e.key = true
  | _, _, .nil, i, e, h => by simp at h
  | _, _, .cons (kv := kv) a b t, 0, e, h => by
    cases h
    exact ⟨kv.1, by rw [b]; rfl, a⟩
  | _, _, .cons a b t, i + 1, e, h => by
    obtain ⟨k, h1, h2⟩ := pairs_at t i e h
    exact ⟨k, h1, h2⟩
theorem vals_kv : ∀ {kvs : List (Key × V)} {vs : List (Key × Value)}, KV kvs vs → Vals (kvs.map (·.2)) (vs.map (·.2))
  | _, _, .nil => .nil
  | _, _, .cons h t => .cons h.2 (vals_kv t)
section
variable {e : Expr} {te : TE} {p apos cpos pos : Pos}
/-- list(e.values()) -/
def tListVals (te : TE) : TE := fun σ H Q => te σ H fun x H1 => ∃ (d : Addr) (kvs : List (Key × V)), x = .ref d ∧ H1 d = some (.dK kvs) ∧ ∀ l, H1 l = none → Q (.ref l) (upd H1 l (.lst (kvs.map (·.2))))
theorem pe_listVals (hc : X.calm = true) (he : PE X e te) (hg : Gl X "list") (hm : X.mg "list" = none) (hv : bootBuiltins "list" = some (.type "list")) (hbase : attributeBase e "values" X.env (eval e X.env) = eval e X.env := by rfl) (hline : (apos.endLine == cpos.line) = true := by rfl)
    (hs : starEach [.Call (.Attribute e "values" apos) [] [] cpos] X.env = (false, eval (.Call (.Attribute e "values" apos) [] [] cpos) X.env) :: starEach [] X.env := by rfl) :
    PE X (.Call (.Name "list" p) [.Call (.Attribute e "values" apos) [] [] cpos] [] pos) (tListVals te) := by
  refine ⟨fun pins s σ H Q I hq => wpAny_Call_Name_kw (ld_blt I hg hm hv (PyProof.Rows.callWith_type1 ?_ hs rfl))⟩
  rw [hs]
  refine Calls.spliced_cons (wpAny_Call_method (T := "dict") (id := "dict.values") hbase rfl hline F.plainAttrs_dict F.slot_dict_values F.type_dict_values (thn (he.run pins s σ H _ I hq) ?_))
  rintro u s1 ⟨x, H1, I1, rx, d, kvs, ex, hd, q⟩
  subst ex
  obtain rfl : u = Value.ref d := rx
  obtain ⟨hz, hs0, vs, kv, hdo⟩ := I1.hok d _ hd
  obtain ⟨ep, hat⟩ := hdo.dictAt
  have lk : kvs.length = vs.length := Paired.length kv
  have I2 : Inv X pins σ H1 { s1 with heap := s1.heap.push { cls := .type "dict_values", data := .fields #[.ref d] } } := I1.kept (t' := s1.toks) fun b ob q => Heap.get?_push_of_some _ q
  refine ⟨hdo.typeIs, hdo.mapOf.noDict, ?_⟩
  show wpAny (model X.prog X.w) X.A (callWith cpos (.builtin "dict.values") [.ref d] [] []) _ X.xe s1
  refine method_meetsIn F.slot_dict_values F.entry_dict_values rfl (PySem.evalArgs_none ⟨rfl, hdo.typeIs, F.args_dict_values_1 _, _, meets_dict_values (mixKind X.prog X.w) d hs0, ⟨vs, hdo⟩, Calls.spliced_nil ?_⟩)
  refine PySem.W.kdl_call (PySem.W.kdl_values (knd := mixKind X.prog X.w) (d := d) (kvs := vs) (ep := ep)) (I1.ok.hd hc) ⟨⟨_, Heap.get?_push_size _ rfl, rfl, rfl⟩, hat.push _⟩ (by omega) fun h' tk acc c hk hS hacc => ?_
  have ev : acc.toList = vs.map (·.2) := PySem.W.kdl_vals_eq acc.toList (by rw [Array.length_toList]; exact hacc.1) fun j v ej => hacc.2 j v (by rw [← Array.getElem?_toList]; exact ej)
  have vv : Vals (kvs.map (·.2)) acc.toList := by rw [ev]; exact vals_kv kv
  exact ⟨.ref _, _, I2.laid (t' := tk) (o := .lst (kvs.map (·.2))) hk (Nat.le_refl _) ⟨by rw [List.length_map]; exact hz, acc.toList, c, vv, by rw [Array.toArray_toList]; exact hS⟩, rfl, q _ (I2.hok.fresh (Nat.le_refl _))⟩
/-- dict(e.items()) -/
def tDictItems (te : TE) : TE := fun σ H Q => te σ H fun x H1 => ∃ (d : Addr) (kvs : List (Key × V)), x = .ref d ∧ H1 d = some (.dK kvs) ∧ ∀ l, H1 l = none → Q (.ref l) (upd H1 l (.dK (mergeK [] kvs)))
theorem pe_dictItems (hc : X.calm = true) (he : PE X e te) (hg : Gl X "dict") (hm : X.mg "dict" = none) (hv : bootBuiltins "dict" = some (.type "dict")) (hbase : attributeBase e "items" X.env (eval e X.env) = eval e X.env := by rfl) (hline : (apos.endLine == cpos.line) = true := by rfl)
    (hs : starEach [.Call (.Attribute e "items" apos) [] [] cpos] X.env = (false, eval (.Call (.Attribute e "items" apos) [] [] cpos) X.env) :: starEach [] X.env := by rfl) :
    PE X (.Call (.Name "dict" p) [.Call (.Attribute e "items" apos) [] [] cpos] [] pos) (tDictItems te) := by
  refine ⟨fun pins s σ H Q I hq => wpAny_Call_Name_kw (ld_blt I hg hm hv (PyProof.Rows.callWith_type1 ?_ hs rfl))⟩
  rw [hs]
  refine Calls.spliced_cons (wpAny_Call_method (T := "dict") (id := "dict.items") hbase rfl hline F.plainAttrs_dict F.slot_dict_items F.type_dict_items (thn (he.run pins s σ H _ I hq) ?_))
  rintro u s1 ⟨x, H1, I1, rx, d, kvs, ex, hd, q⟩
  subst ex
  obtain rfl : u = Value.ref d := rx
  obtain ⟨hz, hs0, vs, kv, hdo⟩ := I1.hok d _ hd
  have lk : kvs.length = vs.length := Paired.length kv
  have I2 : Inv X pins σ H1 { s1 with heap := s1.heap.push { cls := .type "dict_items", data := .fields #[.ref d] } } := I1.kept (t' := s1.toks) fun b ob q => Heap.get?_push_of_some _ q
  refine ⟨hdo.typeIs, hdo.mapOf.noDict, ?_⟩
  show wpAny (model X.prog X.w) X.A (callWith cpos (.builtin "dict.items") [.ref d] [] []) _ X.xe s1
  refine method_meetsIn F.slot_dict_items F.entry_dict_items rfl (PySem.evalArgs_none ⟨rfl, hdo.typeIs, F.args_dict_items_1 _, _, meets_dict_items (mixKind X.prog X.w) d hs0, ⟨vs, hdo⟩, Calls.spliced_nil ?_⟩)
  obtain ⟨ob, es, ep, g1, g2, g3, g4, g5, g6⟩ := id hdo
  have raw : s1.heap.DictRaw d es ep := ⟨ob, g1, g2, g3⟩
  have lo : (s1.heap.push { cls := .type "dict_items", data := .fields #[.ref d] }).objs.size = s1.heap.objs.size + 1 := Heap.size_push ..
  refine PySem.call_dict_pairs (knd := mixKind X.prog X.w) (kvs := vs) (PySem.PairArg.items s1.heap.objs.size d es ep) (I1.ok.hd hc) ⟨⟨_, Heap.get?_push_size _ rfl, rfl, rfl, rfl⟩, ⟨ob, Heap.get?_push_of_some _ g1, g2, g3⟩⟩ ⟨?_, ?_⟩ ?_ fun h' tk hd' hk => ?_
  · rw [← Array.length_toList]
    exact (Pairs.length g5).symm
  · rintro i key v ⟨hi, rfl, rfl⟩
    exact pairs_at g5 i _ (by rw [Array.getElem?_toList]; exact Array.getElem?_eq_getElem hi)
  · rw [← Array.length_toList, Pairs.length g5, ← lk]
    exact hz
  · have hm2 : ((s1.heap.push { cls := .type "dict_items", data := .fields #[.ref d] }).objs.size == sysModules) = false := beq_eq_false_iff_ne.mpr (Nat.ne_of_gt I2.big)
    have hlen : (mergeK [] kvs).length ≤ sizeLine := Nat.le_trans (length_mergeK kvs []) (by rw [List.length_nil, Nat.zero_add]; exact hz)
    exact ⟨.ref _, _, I2.laid (t' := tk) (fun b o e => hk b o (fun z => nomatch z) e) (Nat.le_refl _) (show ObjOk X.prog X.w _ _ _ (.dK (mergeK [] kvs)) from ⟨hlen, hm2, merged [] vs, KV.merge kv .nil, hd'⟩), rfl, q _ (I2.hok.fresh (Nat.le_refl _))⟩
end
end
end LP

set_option Elab.async false
set_option linter.all false
set_option maxRecDepth 100000
set_option maxHeartbeats 2000000
/-! DT: == of data that are alike; sorted texts are one list. -/
namespace LP
open PySem PySem.Spec L2
open PyProof.Rows hiding St signs
theorem rising_pw : ∀ (p : Str) (l : List Str), risingS p l = true → (p :: l).Pairwise (fun a b => ¬ b.cps.toList < a.cps.toList)
  | p, [], _ => by simp
  | p, x :: l, h => by
    unfold risingS at h
    rw [Bool.and_eq_true, Bool.not_eq_true', ltCps_eq, decide_eq_false_iff_not] at h
    have ih := rising_pw x l h.2
    refine List.pairwise_cons.mpr ⟨fun y hy => ?_, ih⟩
    rcases List.mem_cons.mp hy with rfl | hy
    · exact h.1
    · have h2 := (List.pairwise_cons.mp ih).1 y hy
      intro z
      have hx : x.cps.toList ≤ y.cps.toList := List.not_lt.mp h2
      have hp : p.cps.toList ≤ x.cps.toList := List.not_lt.mp h.1
      exact absurd z (List.not_lt.mpr (List.le_trans hp hx))
theorem sorted_pw {l : List Str} (h : sortedS l = true) : l.Pairwise (fun a b => ¬ b.cps.toList < a.cps.toList) := by
  cases l with
  | nil => exact .nil
  | cons x r => exact rising_pw x r h
theorem key_inj {a b : Str} (h : a.cps.toList = b.cps.toList) : a = b := by
  have : a.cps = b.cps := Array.toList_inj.mp h
  cases a
  cases b
  cases this
  rfl
theorem pw_unique : ∀ (ys zs : List Str), ys.Pairwise (fun a b => ¬ b.cps.toList < a.cps.toList) → zs.Pairwise (fun a b => ¬ b.cps.toList < a.cps.toList) → ys.Nodup → zs.Nodup → (∀ k, k ∈ ys ↔ k ∈ zs) → ys = zs
  | [], zs, _, _, _, _, m => by
    cases zs with
    | nil => rfl
    | cons b t => exact absurd ((m b).mpr (List.mem_cons_self ..)) (List.not_mem_nil)
  | a :: r, zs, py, pz, ny, nz, m => by
    cases zs with
    | nil => exact absurd ((m a).mp (List.mem_cons_self ..)) (List.not_mem_nil)
    | cons b t =>
      have py' := List.pairwise_cons.mp py
      have pz' := List.pairwise_cons.mp pz
      have ny' := List.nodup_cons.mp ny
      have nz' := List.nodup_cons.mp nz
      have e : a = b := by
        rcases List.mem_cons.mp ((m a).mp (List.mem_cons_self ..)) with e | ha
        · exact e
        · rcases List.mem_cons.mp ((m b).mpr (List.mem_cons_self ..)) with e | hb
          · exact e.symm
          · have h1 := List.not_lt.mp (pz'.1 a ha)
            have h2 := List.not_lt.mp (py'.1 b hb)
            exact key_inj (List.le_antisymm h2 h1)
      subst e
      rw [pw_unique r t py'.2 pz'.2 ny'.2 nz'.2 fun k => ⟨fun hk => ?_, fun hk => ?_⟩]
      · rcases List.mem_cons.mp ((m k).mp (List.mem_cons_of_mem _ hk)) with e | h
        · subst e
          exact absurd hk ny'.1
        · exact h
      · rcases List.mem_cons.mp ((m k).mpr (List.mem_cons_of_mem _ hk)) with e | h
        · subst e
          exact absurd hk nz'.1
        · exact h
/-- what is sorted out of the same members is the same list -/
theorem Sorted.uniq {ys zs xs xs' : List Str} (h : Sorted ys xs) (h' : Sorted zs xs') (e : ∀ k, k ∈ xs ↔ k ∈ xs') : ys = zs :=
  pw_unique ys zs (sorted_pw h.up) (sorted_pw h'.up) h.nd h'.nd fun k => (h.mem k).trans ((e k).trans (h'.mem k).symm)
/-- promises of one def, put together -/
theorem fnOk_ex {P : Program} {w : World} {K : PySem.W.Frag} {mg : Str → Option Value} {base : Heap} {CX : CXT} {k : Nat} {f : Addr} {fd : FuncData} {ps : List Str} {ι : Type} {sp : ι → Sp} (F : ∀ i, FnOk P w K mg base CX k f fd ps (sp i)) :
    FnOk P w K mg base CX k f fd ps (fun vs H Q E => ∃ i, sp i vs H Q E) :=
  ⟨fun vs H Q E ⟨i, q⟩ => (F i).len vs H Q E q, fun A outer s H args us vs Q E hr he hb hv ⟨i, hs⟩ => (F i).run A outer s H args us vs Q E hr he hb hv hs⟩
/-! ### data -/
theorem dps {K : PySem.W.Frag} {H : Hp} : ∀ l : List Str, DpAll K H (l.map .str) (l.map .str)
  | [] => .nil
  | x :: l => .cons (.str x) (dps l)
theorem lays : ∀ l : List Str, (∀ x, x ∈ l → PyData.strOk x = true) → PyData.canLayAll0 (l.map .str) = true
  | [], _ => rfl
  | x :: l, h => by
    rw [List.map_cons, PyData.canLayAll0, lays l (fun y hy => h y (List.mem_cons_of_mem _ hy))]
    rw [show PyData.canLay0 (.str x) = PyData.strOk x from rfl, h x (List.mem_cons_self ..)]
    rfl
theorem deps : ∀ l : List Str, PyData.depthAll (l.map .str) = 0
  | [] => rfl
  | x :: l => by
    rw [List.map_cons, PyData.depthAll, PyData.depth, deps l]
    rfl
/-- two values that are the same data -/
theorem eq_same {K : PySem.W.Frag} {H : Hp} {x y : V} {d : PyData} {Q : VK} (hx : Dp K H x d) (hy : Dp K H y d) (hs : SeqAt.shaped d = true) (q : Q (.bl true) H) : rEqD K x y H Q := by
  refine ⟨d, d, hx, hy, hs, hs, ?_⟩
  have h : d.canLay0 = true := by
    unfold SeqAt.shaped at hs
    rw [Bool.and_eq_true] at hs
    exact hs.1
  rw [SeqAt.eqv_refl d h]
  exact q
theorem ne_same {K : PySem.W.Frag} {H : Hp} {x y : V} {d : PyData} {Q : VK} (hx : Dp K H x d) (hy : Dp K H y d) (hs : SeqAt.shaped d = true) (q : Q (.bl false) H) : rNeD K x y H Q := by
  refine ⟨d, d, hx, hy, hs, hs, ?_⟩
  have h : d.canLay0 = true := by
    unfold SeqAt.shaped at hs
    rw [Bool.and_eq_true] at hs
    exact hs.1
  rw [SeqAt.eqv_refl d h]
  exact q
theorem seqIx {r : Int} {n : Nat} (h0 : 0 ≤ r) (h1 : r < (n : Int)) : seqIndex? r n = some r.toNat := by
  unfold seqIndex?
  have h2 : ¬ r < 0 := by omega
  simp [h0, h1, h2]
theorem erase_map {α β : Type} (f : α → β) : ∀ (l : List α) (k : Nat), (l.map f).eraseIdx k = (l.eraseIdx k).map f
  | [], _ => rfl
  | x :: l, 0 => rfl
  | x :: l, k + 1 => by
    show f x :: (l.map f).eraseIdx k = _
    rw [erase_map f l k]
    rfl
/-! ### the dice change, what else is there stays -/
def Dk (d : Addr) (H H' : Hp) : Prop := (∀ b o, b ≠ d → H b = some o → H' b = some o) ∧ ∃ x y z : Int, H' d = some (.lst [.int x, .int y, .int z])
theorem Dk.refl {d : Addr} {H : Hp} {x y z : Int} (h : H d = some (.lst [.int x, .int y, .int z])) : Dk d H H := ⟨fun _ _ _ e => e, x, y, z, h⟩
theorem Dk.trans {d : Addr} {A B C : Hp} (h : Dk d A B) (k : Dk d B C) : Dk d A C := ⟨fun b o hb e => k.1 b o hb (h.1 b o hb e), k.2⟩
theorem Dk.same {d : Addr} {A B C : Hp} (h : Dk d A B) (k : Same B C) : Dk d A C := ⟨fun b o hb e => k _ _ (h.1 b o hb e), let ⟨x, y, z, q⟩ := h.2; ⟨x, y, z, k _ _ q⟩⟩
theorem Dk.of {d : Addr} {A B : Hp} {x y z : Int} (h : A d = some (.lst [.int x, .int y, .int z])) (k : Same A B) : Dk d A B := ⟨fun b o _ e => k _ _ e, x, y, z, k _ _ h⟩
theorem Dk.roll {d : Addr} {A : Hp} (x y z : Int) : Dk d A (upd A d (.lst [.int x, .int y, .int z])) := ⟨fun b o hb e => by rw [upd_ne hb]; exact e, x, y, z, upd_same⟩
/-- an object that was not there may change -/
theorem Dk.lay {d : Addr} {H H' : Hp} (k : Dk d H H') {p : Addr} {o : HO} (hp : H p = none) (hd : p ≠ d) : Dk d H (upd H' p o) := by
  obtain ⟨k1, x, y, z, k2⟩ := k
  refine ⟨fun b u hb e => ?_, x, y, z, ?_⟩
  · rw [upd_ne (ne_of_none e hp)]
    exact k1 b u hb e
  · rw [upd_ne hd.symm]
    exact k2
theorem Dk.ne {d : Addr} {H : Hp} {x y z : Int} (h : H d = some (.lst [.int x, .int y, .int z])) {p : Addr} (hp : H p = none) : p ≠ d := by
  intro e
  rw [e, h] at hp
  cases hp
theorem Dk.none {d : Addr} {H H' : Hp} (k : Dk d H H') {p : Addr} (hd : p ≠ d) (h : H' p = Option.none) : H p = Option.none := by
  cases e : H p with
  | none => rfl
  | some o =>
    rw [k.1 p o hd e] at h
    cases h
end LP

set_option Elab.async false
set_option linter.all false
set_option maxRecDepth 100000
set_option maxHeartbeats 4000000
set_option exponentiation.threshold 5000
namespace K07
open PySem PySem.Spec L2 LP
open PyProof.Rows hiding St
def top (i : Nat) : Stmt := PySem.Challenge.pw_lastprices_k07_whole_renamed_machines.main.body.getD i (.Pass ⟨0, 0, 0, 0⟩)
abbrev s_is_integer : Stmt := top 33
abbrev N_is_integer : List Str := ["value"]
abbrev P_is_integer : List Str := ["value"]
theorem sc_is_integer : FnScope N_is_integer P_is_integer (defScope s_is_integer) :=
  ⟨rfl, rfl, rfl, by decide +kernel, rfl, by decide +kernel, by decide +kernel⟩
abbrev s_is_within : Stmt := top 34
abbrev N_is_within : List Str := ["value", "low", "high"]
abbrev P_is_within : List Str := ["value", "low", "high"]
theorem sc_is_within : FnScope N_is_within P_is_within (defScope s_is_within) :=
  ⟨rfl, rfl, rfl, by decide +kernel, rfl, by decide +kernel, by decide +kernel⟩
abbrev s_is_spelt : Stmt := top 35
abbrev N_is_spelt : List Str := ["value", "letter"]
abbrev P_is_spelt : List Str := ["value"]
theorem sc_is_spelt : FnScope N_is_spelt P_is_spelt (defScope s_is_spelt) :=
  ⟨rfl, rfl, rfl, by decide +kernel, rfl, by decide +kernel, by decide +kernel⟩
abbrev s_is_name : Stmt := top 36
abbrev N_is_name : List Str := ["value"]
abbrev P_is_name : List Str := ["value"]
theorem sc_is_name : FnScope N_is_name P_is_name (defScope s_is_name) :=
  ⟨rfl, rfl, rfl, by decide +kernel, rfl, by decide +kernel, by decide +kernel⟩
abbrev s_is_letter : Stmt := top 37
abbrev N_is_letter : List Str := ["value"]
abbrev P_is_letter : List Str := ["value"]
theorem sc_is_letter : FnScope N_is_letter P_is_letter (defScope s_is_letter) :=
  ⟨rfl, rfl, rfl, by decide +kernel, rfl, by decide +kernel, by decide +kernel⟩
abbrev s_are_names : Stmt := top 39
abbrev N_are_names : List Str := ["value", "name", "one", "other"]
abbrev P_are_names : List Str := ["value"]
theorem sc_are_names : FnScope N_are_names P_are_names (defScope s_are_names) :=
  ⟨rfl, rfl, rfl, by decide +kernel, rfl, by decide +kernel, by decide +kernel⟩
abbrev s_is_place : Stmt := top 47
abbrev N_is_place : List Str := ["value"]
abbrev P_is_place : List Str := ["value"]
theorem sc_is_place : FnScope N_is_place P_is_place (defScope s_is_place) :=
  ⟨rfl, rfl, rfl, by decide +kernel, rfl, by decide +kernel, by decide +kernel⟩
abbrev s_is_price : Stmt := top 48
abbrev N_is_price : List Str := ["value"]
abbrev P_is_price : List Str := ["value"]
theorem sc_is_price : FnScope N_is_price P_is_price (defScope s_is_price) :=
  ⟨rfl, rfl, rfl, by decide +kernel, rfl, by decide +kernel, by decide +kernel⟩
abbrev s_are_ends : Stmt := top 49
abbrev N_are_ends : List Str := ["value"]
abbrev P_are_ends : List Str := ["value"]
theorem sc_are_ends : FnScope N_are_ends P_are_ends (defScope s_are_ends) :=
  ⟨rfl, rfl, rfl, by decide +kernel, rfl, by decide +kernel, by decide +kernel⟩
abbrev s_states_of : Stmt := top 50
abbrev N_states_of : List Str := ["firsts", "lasts", "arcs", "inner", "state", "letter", "later", "end"]
abbrev P_states_of : List Str := ["firsts", "lasts", "arcs"]
theorem sc_states_of : FnScope N_states_of P_states_of (defScope s_states_of) :=
  ⟨rfl, rfl, rfl, by decide +kernel, rfl, by decide +kernel, by decide +kernel⟩
abbrev s_are_parts : Stmt := top 51
abbrev N_are_parts : List Str := ["firsts", "lasts", "arcs", "place"]
abbrev P_are_parts : List Str := ["firsts", "lasts", "arcs"]
theorem sc_are_parts : FnScope N_are_parts P_are_parts (defScope s_are_parts) :=
  ⟨rfl, rfl, rfl, by decide +kernel, rfl, by decide +kernel, by decide +kernel⟩
abbrev s_steps_in : Stmt := top 52
abbrev N_steps_in : List Str := ["arcs", "found", "state", "letter", "later", "price"]
abbrev P_steps_in : List Str := ["arcs"]
theorem sc_steps_in : FnScope N_steps_in P_steps_in (defScope s_steps_in) :=
  ⟨rfl, rfl, rfl, by decide +kernel, rfl, by decide +kernel, by decide +kernel⟩
abbrev s_is_renaming : Stmt := top 40
abbrev N_is_renaming : List Str := ["names", "value", "name"]
abbrev P_is_renaming : List Str := ["names", "value"]
theorem sc_is_renaming : FnScope N_is_renaming P_is_renaming (defScope s_is_renaming) :=
  ⟨rfl, rfl, rfl, by decide +kernel, rfl, by decide +kernel, by decide +kernel⟩
abbrev s_dice : Stmt := top 55
abbrev N_dice : List Str := ["_law_script", "_law_spot", "_law_cell", "_law_great", "_law_left"]
abbrev P_dice : List Str := ["_law_script", "_law_spot"]
theorem sc_dice : FnScope N_dice P_dice (defScope s_dice) :=
  ⟨rfl, rfl, rfl, by decide +kernel, rfl, by decide +kernel, by decide +kernel⟩
abbrev s_roll : Stmt := top 56
abbrev N_roll : List Str := ["_law_dice_here", "_law_total", "_law_found", "_law_one", "_law_two"]
abbrev P_roll : List Str := ["_law_dice_here", "_law_total"]
theorem sc_roll : FnScope N_roll P_roll (defScope s_roll) :=
  ⟨rfl, rfl, rfl, by decide +kernel, rfl, by decide +kernel, by decide +kernel⟩
abbrev s_pick : Stmt := top 57
abbrev N_pick : List Str := ["_law_dice_here", "_law_items"]
abbrev P_pick : List Str := ["_law_dice_here", "_law_items"]
theorem sc_pick : FnScope N_pick P_pick (defScope s_pick) :=
  ⟨rfl, rfl, rfl, by decide +kernel, rfl, by decide +kernel, by decide +kernel⟩
abbrev s_mixed : Stmt := top 58
abbrev N_mixed : List Str := ["_law_dice_here", "_law_items", "_law_left", "_law_found", "_law_turn"]
abbrev P_mixed : List Str := ["_law_dice_here", "_law_items"]
theorem sc_mixed : FnScope N_mixed P_mixed (defScope s_mixed) :=
  ⟨rfl, rfl, rfl, by decide +kernel, rfl, by decide +kernel, by decide +kernel⟩
abbrev s_some : Stmt := top 59
abbrev N_some : List Str := ["_law_dice_here", "_law_items", "_law_kept", "_law_item"]
abbrev P_some : List Str := ["_law_dice_here", "_law_items"]
theorem sc_some : FnScope N_some P_some (defScope s_some) :=
  ⟨rfl, rfl, rfl, by decide +kernel, rfl, by decide +kernel, by decide +kernel⟩
abbrev s_state_names : Stmt := top 60
abbrev N_state_names : List Str := ["_law_dice_here", "_law_many"]
abbrev P_state_names : List Str := ["_law_dice_here", "_law_many"]
theorem sc_state_names : FnScope N_state_names P_state_names (defScope s_state_names) :=
  ⟨rfl, rfl, rfl, by decide +kernel, rfl, by decide +kernel, by decide +kernel⟩
abbrev s_plain : Stmt := top 61
abbrev N_plain : List Str := ["_law_lines_here", "_law_found", "_law_line", "_law_words"]
abbrev P_plain : List Str := ["_law_lines_here"]
theorem sc_plain : FnScope N_plain P_plain (defScope s_plain) :=
  ⟨rfl, rfl, rfl, by decide +kernel, rfl, by decide +kernel, by decide +kernel⟩
abbrev s_lines : Stmt := top 62
abbrev N_lines : List Str := ["_law_plain_here", "_law_found", "_law_state", "_law_letter", "_law_later"]
abbrev P_lines : List Str := ["_law_plain_here"]
theorem sc_lines : FnScope N_lines P_lines (defScope s_lines) :=
  ⟨rfl, rfl, rfl, by decide +kernel, rfl, by decide +kernel, by decide +kernel⟩
abbrev s_made : Stmt := top 63
abbrev N_made : List Str := ["_law_plain_here"]
abbrev P_made : List Str := ["_law_plain_here"]
theorem sc_made : FnScope N_made P_made (defScope s_made) :=
  ⟨rfl, rfl, rfl, by decide +kernel, rfl, by decide +kernel, by decide +kernel⟩
abbrev s_block : Stmt := top 64
abbrev N_block : List Str := ["_law_lines_here"]
abbrev P_block : List Str := []
theorem sc_block : FnScope N_block P_block (defScope s_block) :=
  ⟨rfl, rfl, rfl, by decide +kernel, rfl, by decide +kernel, by decide +kernel⟩
abbrev s_count : Stmt := top 65
abbrev N_count : List Str := []
abbrev P_count : List Str := []
theorem sc_count : FnScope N_count P_count (defScope s_count) :=
  ⟨rfl, rfl, rfl, by decide +kernel, rfl, by decide +kernel, by decide +kernel⟩
abbrev s_deal : Stmt := top 66
abbrev N_deal : List Str := []
abbrev P_deal : List Str := []
theorem sc_deal : FnScope N_deal P_deal (defScope s_deal) :=
  ⟨rfl, rfl, rfl, by decide +kernel, rfl, by decide +kernel, by decide +kernel⟩
abbrev s_either : Stmt := top 67
abbrev N_either : List Str := ["_law_lines_here"]
abbrev P_either : List Str := []
theorem sc_either : FnScope N_either P_either (defScope s_either) :=
  ⟨rfl, rfl, rfl, by decide +kernel, rfl, by decide +kernel, by decide +kernel⟩
abbrev s_thrice : Stmt := top 68
abbrev N_thrice : List Str := ["_law_lines_here"]
abbrev P_thrice : List Str := []
theorem sc_thrice : FnScope N_thrice P_thrice (defScope s_thrice) :=
  ⟨rfl, rfl, rfl, by decide +kernel, rfl, by decide +kernel, by decide +kernel⟩
abbrev s_uneven : Stmt := top 69
abbrev N_uneven : List Str := []
abbrev P_uneven : List Str := []
theorem sc_uneven : FnScope N_uneven P_uneven (defScope s_uneven) :=
  ⟨rfl, rfl, rfl, by decide +kernel, rfl, by decide +kernel, by decide +kernel⟩
abbrev s_paid : Stmt := top 70
abbrev N_paid : List Str := ["_law_lines_here"]
abbrev P_paid : List Str := []
theorem sc_paid : FnScope N_paid P_paid (defScope s_paid) :=
  ⟨rfl, rfl, rfl, by decide +kernel, rfl, by decide +kernel, by decide +kernel⟩
abbrev s_written : Stmt := top 71
abbrev N_written : List Str := ["_law_way"]
abbrev P_written : List Str := ["_law_way"]
theorem sc_written : FnScope N_written P_written (defScope s_written) :=
  ⟨rfl, rfl, rfl, by decide +kernel, rfl, by decide +kernel, by decide +kernel⟩
abbrev s_drawn_machine : Stmt := top 72
abbrev N_drawn_machine : List Str := ["_law_dice_here", "_law_states", "_law_letters", "_law_names", "_law_signs", "_law_arcs", "_law_state", "_law_sign", "_law_later"]
abbrev P_drawn_machine : List Str := ["_law_dice_here", "_law_states", "_law_letters"]
theorem sc_drawn_machine : FnScope N_drawn_machine P_drawn_machine (defScope s_drawn_machine) :=
  ⟨rfl, rfl, rfl, by decide +kernel, rfl, by decide +kernel, by decide +kernel⟩
abbrev s_any_machine : Stmt := top 73
abbrev N_any_machine : List Str := ["_law_dice_here", "_law_states", "_law_letters"]
abbrev P_any_machine : List Str := ["_law_dice_here", "_law_states", "_law_letters"]
theorem sc_any_machine : FnScope N_any_machine P_any_machine (defScope s_any_machine) :=
  ⟨rfl, rfl, rfl, by decide +kernel, rfl, by decide +kernel, by decide +kernel⟩
abbrev s_images : Stmt := top 74
abbrev N_images : List Str := ["_law_dice_here", "_law_names", "_law_pool", "_law_found", "_law_name", "_law_rest", "_law_image_here"]
abbrev P_images : List Str := ["_law_dice_here", "_law_names"]
theorem sc_images : FnScope N_images P_images (defScope s_images) :=
  ⟨rfl, rfl, rfl, by decide +kernel, rfl, by decide +kernel, by decide +kernel⟩
abbrev s_image : Stmt := top 75
abbrev N_image : List Str := ["_law_plain_here", "_law_images_here", "_law_arcs", "_law_state", "_law_letter", "_law_later", "_law_firsts", "_law_lasts"]
abbrev P_image : List Str := ["_law_plain_here", "_law_images_here"]
theorem sc_image : FnScope N_image P_image (defScope s_image) :=
  ⟨rfl, rfl, rfl, by decide +kernel, rfl, by decide +kernel, by decide +kernel⟩
abbrev s_spread : Stmt := top 76
abbrev N_spread : List Str := ["_law_machine", "_law_text", "_law_here", "_law_state", "_law_letter", "_law_later", "_law_other", "_law_price"]
abbrev P_spread : List Str := ["_law_machine", "_law_text"]
theorem sc_spread : FnScope N_spread P_spread (defScope s_spread) :=
  ⟨rfl, rfl, rfl, by decide +kernel, rfl, by decide +kernel, by decide +kernel⟩
abbrev s_pair_right : Stmt := top 77
abbrev N_pair_right : List Str := ["_law_dice_here", "_law_machine", "_law_later", "_law_images_here", "_law_state", "_law_letter", "_law_due", "_law_other", "_law_price", "_law_turn", "_law_text", "_law_step", "_law_told"]
abbrev P_pair_right : List Str := ["_law_dice_here", "_law_machine", "_law_later", "_law_images_here"]
theorem sc_pair_right : FnScope N_pair_right P_pair_right (defScope s_pair_right) :=
  ⟨rfl, rfl, rfl, by decide +kernel, rfl, by decide +kernel, by decide +kernel⟩
abbrev s_right : Stmt := top 78
abbrev N_right : List Str := ["_law_dice_here", "_law_plain_here", "_law_first", "_law_machine", "_law_total", "_law_name", "_law_turn", "_law_images_here", "_law_later", "_law_back"]
abbrev P_right : List Str := ["_law_dice_here"]
theorem sc_right : FnScope N_right P_right (defScope s_right) :=
  ⟨rfl, rfl, rfl, by decide +kernel, rfl, by decide +kernel, by decide +kernel⟩
abbrev s_law : Stmt := top 79
abbrev N_law : List Str := ["_law_script", "_law_spot"]
abbrev P_law : List Str := ["_law_script"]
theorem sc_law : FnScope N_law P_law (defScope s_law) :=
  ⟨rfl, rfl, rfl, by decide +kernel, rfl, by decide +kernel, by decide +kernel⟩
abbrev s_Machine___init__ : Stmt := mth (top 53) 1
abbrev N_Machine___init__ : List Str := ["self", "firsts", "lasts", "arcs", "place", "told", "state", "letter", "later", "price"]
abbrev P_Machine___init__ : List Str := ["self", "firsts", "lasts", "arcs"]
theorem sc_Machine___init__ : FnScope N_Machine___init__ P_Machine___init__ (defScope s_Machine___init__) :=
  ⟨rfl, rfl, rfl, by decide +kernel, rfl, by decide +kernel, by decide +kernel⟩
abbrev s_Machine_steps : Stmt := mth (top 53) 9
abbrev N_Machine_steps : List Str := ["self", "state", "letter"]
abbrev P_Machine_steps : List Str := ["self", "state", "letter"]
theorem sc_Machine_steps : FnScope N_Machine_steps P_Machine_steps (defScope s_Machine_steps) :=
  ⟨rfl, rfl, rfl, by decide +kernel, rfl, by decide +kernel, by decide +kernel⟩
abbrev s_Machine_renamed : Stmt := mth (top 53) 12
abbrev N_Machine_renamed : List Str := ["self", "names", "arcs", "state", "letter", "later", "price", "firsts"]
abbrev P_Machine_renamed : List Str := ["self", "names"]
theorem sc_Machine_renamed : FnScope N_Machine_renamed P_Machine_renamed (defScope s_Machine_renamed) :=
  ⟨rfl, rfl, rfl, by decide +kernel, rfl, by decide +kernel, by decide +kernel⟩
abbrev s_Machine___len__ : Stmt := mth (top 53) 22
abbrev N_Machine___len__ : List Str := ["self"]
abbrev P_Machine___len__ : List Str := ["self"]
theorem sc_Machine___len__ : FnScope N_Machine___len__ P_Machine___len__ (defScope s_Machine___len__) :=
  ⟨rfl, rfl, rfl, by decide +kernel, rfl, by decide +kernel, by decide +kernel⟩
abbrev s_Machine___eq__ : Stmt := mth (top 53) 24
abbrev N_Machine___eq__ : List Str := ["self", "other"]
abbrev P_Machine___eq__ : List Str := ["self", "other"]
theorem sc_Machine___eq__ : FnScope N_Machine___eq__ P_Machine___eq__ (defScope s_Machine___eq__) :=
  ⟨rfl, rfl, rfl, by decide +kernel, rfl, by decide +kernel, by decide +kernel⟩
abbrev s_Machine_firsts : Stmt := mth (top 53) 3
abbrev N_Machine_firsts : List Str := ["self"]
abbrev P_Machine_firsts : List Str := ["self"]
theorem sc_Machine_firsts : FnScope N_Machine_firsts P_Machine_firsts (defScope s_Machine_firsts) :=
  ⟨rfl, rfl, rfl, by decide +kernel, rfl, by decide +kernel, by decide +kernel⟩
abbrev s_Machine_states : Stmt := mth (top 53) 6
abbrev N_Machine_states : List Str := ["self"]
abbrev P_Machine_states : List Str := ["self"]
theorem sc_Machine_states : FnScope N_Machine_states P_Machine_states (defScope s_Machine_states) :=
  ⟨rfl, rfl, rfl, by decide +kernel, rfl, by decide +kernel, by decide +kernel⟩
abbrev s_Machine_letters : Stmt := mth (top 53) 7
abbrev N_Machine_letters : List Str := ["self", "state", "letter", "later"]
abbrev P_Machine_letters : List Str := ["self"]
theorem sc_Machine_letters : FnScope N_Machine_letters P_Machine_letters (defScope s_Machine_letters) :=
  ⟨rfl, rfl, rfl, by decide +kernel, rfl, by decide +kernel, by decide +kernel⟩
abbrev s_Machine_lines : Stmt := mth (top 53) 8
abbrev N_Machine_lines : List Str := ["self"]
abbrev P_Machine_lines : List Str := ["self"]
theorem sc_Machine_lines : FnScope N_Machine_lines P_Machine_lines (defScope s_Machine_lines) :=
  ⟨rfl, rfl, rfl, by decide +kernel, rfl, by decide +kernel, by decide +kernel⟩
structure Bt (mg : Str → Option Value) : Prop where
  abs : mg "abs" = none
  all : mg "all" = none
  bool : mg "bool" = none
  dict : mg "dict" = none
  int : mg "int" = none
  isinstance : mg "isinstance" = none
  len : mg "len" = none
  list : mg "list" = none
  max : mg "max" = none
  min : mg "min" = none
  range : mg "range" = none
  set : mg "set" = none
  sorted : mg "sorted" = none
  str : mg "str" = none
  tuple : mg "tuple" = none
  zip : mg "zip" = none
structure Cs (mg : Str → Option Value) : Prop where
  LIMIT : ∃ t_LIMIT, mg "LIMIT" = some (.int (10 ^ 60) t_LIMIT)
  ALPHABET : ∃ t_ALPHABET, mg "ALPHABET" = some (.str "abcdefghijklmnopqrstuvwxyz" t_ALPHABET)
  MAX_LETTERS : ∃ t_MAX_LETTERS, mg "MAX_LETTERS" = some (.int 8 t_MAX_LETTERS)
  MAX_STATES : ∃ t_MAX_STATES, mg "MAX_STATES" = some (.int 24 t_MAX_STATES)
  MAX_PRICE : ∃ t_MAX_PRICE, mg "MAX_PRICE" = some (.int 9 t_MAX_PRICE)
  FIRST : ∃ t_FIRST, mg "FIRST" = some (.str "first" t_FIRST)
  LAST : ∃ t_LAST, mg "LAST" = some (.str "last" t_LAST)
  ARC : ∃ t_ARC, mg "ARC" = some (.str "arc" t_ARC)
structure Ad where
  (a_is_integer : Addr)
  (d_is_integer : FuncData)
  (a_is_within : Addr)
  (d_is_within : FuncData)
  (a_is_spelt : Addr)
  (d_is_spelt : FuncData)
  (a_is_name : Addr)
  (d_is_name : FuncData)
  (a_is_letter : Addr)
  (d_is_letter : FuncData)
  (a_are_names : Addr)
  (d_are_names : FuncData)
  (a_is_place : Addr)
  (d_is_place : FuncData)
  (a_is_price : Addr)
  (d_is_price : FuncData)
  (a_are_ends : Addr)
  (d_are_ends : FuncData)
  (a_states_of : Addr)
  (d_states_of : FuncData)
  (a_are_parts : Addr)
  (d_are_parts : FuncData)
  (a_steps_in : Addr)
  (d_steps_in : FuncData)
  (a_is_renaming : Addr)
  (d_is_renaming : FuncData)
  (a_dice : Addr)
  (d_dice : FuncData)
  (a_roll : Addr)
  (d_roll : FuncData)
  (a_pick : Addr)
  (d_pick : FuncData)
  (a_mixed : Addr)
  (d_mixed : FuncData)
  (a_some : Addr)
  (d_some : FuncData)
  (a_state_names : Addr)
  (d_state_names : FuncData)
  (a_plain : Addr)
  (d_plain : FuncData)
  (a_lines : Addr)
  (d_lines : FuncData)
  (a_made : Addr)
  (d_made : FuncData)
  (a_block : Addr)
  (d_block : FuncData)
  (a_count : Addr)
  (d_count : FuncData)
  (a_deal : Addr)
  (d_deal : FuncData)
  (a_either : Addr)
  (d_either : FuncData)
  (a_thrice : Addr)
  (d_thrice : FuncData)
  (a_uneven : Addr)
  (d_uneven : FuncData)
  (a_paid : Addr)
  (d_paid : FuncData)
  (a_written : Addr)
  (d_written : FuncData)
  (a_drawn_machine : Addr)
  (d_drawn_machine : FuncData)
  (a_any_machine : Addr)
  (d_any_machine : FuncData)
  (a_images : Addr)
  (d_images : FuncData)
  (a_image : Addr)
  (d_image : FuncData)
  (a_spread : Addr)
  (d_spread : FuncData)
  (a_pair_right : Addr)
  (d_pair_right : FuncData)
  (a_right : Addr)
  (d_right : FuncData)
  (a_law : Addr)
  (d_law : FuncData)
  (a_Machine___init__ : Addr)
  (d_Machine___init__ : FuncData)
  (a_Machine_steps : Addr)
  (d_Machine_steps : FuncData)
  (a_Machine_renamed : Addr)
  (d_Machine_renamed : FuncData)
  (a_Machine___len__ : Addr)
  (d_Machine___len__ : FuncData)
  (a_Machine___eq__ : Addr)
  (d_Machine___eq__ : FuncData)
  (a_Machine_firsts : Addr)
  (d_Machine_firsts : FuncData)
  (a_Machine_states : Addr)
  (d_Machine_states : FuncData)
  (a_Machine_letters : Addr)
  (d_Machine_letters : FuncData)
  (a_Machine_lines : Addr)
  (d_Machine_lines : FuncData)
  (c_Machine : Addr)
  (p_Machine_firsts : Addr)
  (p_Machine_states : Addr)
  (p_Machine_letters : Addr)
  (p_Machine_lines : Addr)
  (q_Machine_own_arcs : Addr)
  (q_Machine_own_firsts : Addr)
  (q_Machine_own_lasts : Addr)
  (q_Machine_own_lines : Addr)
  (q_Machine_own_states : Addr)
  (q_Machine_own_steps : Addr)
structure Ds (K : PySem.W.Frag) (mg : Str → Option Value) (Z : Ad) : Prop where
  is_integer : Df K mg "is_integer" s_is_integer P_is_integer Z.a_is_integer Z.d_is_integer
  is_within : Df K mg "is_within" s_is_within P_is_within Z.a_is_within Z.d_is_within
  is_spelt : Df K mg "is_spelt" s_is_spelt P_is_spelt Z.a_is_spelt Z.d_is_spelt
  is_name : Df K mg "is_name" s_is_name P_is_name Z.a_is_name Z.d_is_name
  is_letter : Df K mg "is_letter" s_is_letter P_is_letter Z.a_is_letter Z.d_is_letter
  are_names : Df K mg "are_names" s_are_names P_are_names Z.a_are_names Z.d_are_names
  is_place : Df K mg "is_place" s_is_place P_is_place Z.a_is_place Z.d_is_place
  is_price : Df K mg "is_price" s_is_price P_is_price Z.a_is_price Z.d_is_price
  are_ends : Df K mg "are_ends" s_are_ends P_are_ends Z.a_are_ends Z.d_are_ends
  states_of : Df K mg "states_of" s_states_of P_states_of Z.a_states_of Z.d_states_of
  are_parts : Df K mg "are_parts" s_are_parts P_are_parts Z.a_are_parts Z.d_are_parts
  steps_in : Df K mg "steps_in" s_steps_in P_steps_in Z.a_steps_in Z.d_steps_in
  is_renaming : Df K mg "is_renaming" s_is_renaming P_is_renaming Z.a_is_renaming Z.d_is_renaming
  dice : Df K mg "_law_dice" s_dice P_dice Z.a_dice Z.d_dice
  roll : Df K mg "_law_roll" s_roll P_roll Z.a_roll Z.d_roll
  pick : Df K mg "_law_pick" s_pick P_pick Z.a_pick Z.d_pick
  mixed : Df K mg "_law_mixed" s_mixed P_mixed Z.a_mixed Z.d_mixed
  some : Df K mg "_law_some" s_some P_some Z.a_some Z.d_some
  state_names : Df K mg "_law_state_names" s_state_names P_state_names Z.a_state_names Z.d_state_names
  plain : Df K mg "_law_plain" s_plain P_plain Z.a_plain Z.d_plain
  lines : Df K mg "_law_lines" s_lines P_lines Z.a_lines Z.d_lines
  made : Df K mg "_law_made" s_made P_made Z.a_made Z.d_made
  block : Df K mg "_law_block" s_block P_block Z.a_block Z.d_block
  count : Df K mg "_law_count" s_count P_count Z.a_count Z.d_count
  deal : Df K mg "_law_deal" s_deal P_deal Z.a_deal Z.d_deal
  either : Df K mg "_law_either" s_either P_either Z.a_either Z.d_either
  thrice : Df K mg "_law_thrice" s_thrice P_thrice Z.a_thrice Z.d_thrice
  uneven : Df K mg "_law_uneven" s_uneven P_uneven Z.a_uneven Z.d_uneven
  paid : Df K mg "_law_paid" s_paid P_paid Z.a_paid Z.d_paid
  written : Df K mg "_law_written" s_written P_written Z.a_written Z.d_written
  drawn_machine : Df K mg "_law_drawn_machine" s_drawn_machine P_drawn_machine Z.a_drawn_machine Z.d_drawn_machine
  any_machine : Df K mg "_law_any_machine" s_any_machine P_any_machine Z.a_any_machine Z.d_any_machine
  images : Df K mg "_law_images" s_images P_images Z.a_images Z.d_images
  image : Df K mg "_law_image" s_image P_image Z.a_image Z.d_image
  spread : Df K mg "_law_spread" s_spread P_spread Z.a_spread Z.d_spread
  pair_right : Df K mg "_law_pair_right" s_pair_right P_pair_right Z.a_pair_right Z.d_pair_right
  right : Df K mg "_law_right" s_right P_right Z.a_right Z.d_right
  law : Df K mg "law" s_law P_law Z.a_law Z.d_law
  Machine___init__ : Mt K Z.c_Machine "__init__" "Machine.__init__" s_Machine___init__ P_Machine___init__ Z.a_Machine___init__ Z.d_Machine___init__
  Machine_steps : Mt K Z.c_Machine "steps" "Machine.steps" s_Machine_steps P_Machine_steps Z.a_Machine_steps Z.d_Machine_steps
  Machine_renamed : Mt K Z.c_Machine "renamed" "Machine.renamed" s_Machine_renamed P_Machine_renamed Z.a_Machine_renamed Z.d_Machine_renamed
  Machine___len__ : Mt K Z.c_Machine "__len__" "Machine.__len__" s_Machine___len__ P_Machine___len__ Z.a_Machine___len__ Z.d_Machine___len__
  Machine___eq__ : Mt K Z.c_Machine "__eq__" "Machine.__eq__" s_Machine___eq__ P_Machine___eq__ Z.a_Machine___eq__ Z.d_Machine___eq__
  Machine_firsts : Pt K Z.c_Machine "firsts" "Machine.firsts" s_Machine_firsts P_Machine_firsts Z.p_Machine_firsts Z.a_Machine_firsts Z.d_Machine_firsts
  Machine_states : Pt K Z.c_Machine "states" "Machine.states" s_Machine_states P_Machine_states Z.p_Machine_states Z.a_Machine_states Z.d_Machine_states
  Machine_letters : Pt K Z.c_Machine "letters" "Machine.letters" s_Machine_letters P_Machine_letters Z.p_Machine_letters Z.a_Machine_letters Z.d_Machine_letters
  Machine_lines : Pt K Z.c_Machine "lines" "Machine.lines" s_Machine_lines P_Machine_lines Z.p_Machine_lines Z.a_Machine_lines Z.d_Machine_lines
  Machine : Ob K mg "Machine" Z.c_Machine
  Machine_kn : kitN K Z.c_Machine = true
  Machine_own_arcs : SlX.Slot1 K Z.c_Machine "own_arcs" Z.q_Machine_own_arcs 0
  Machine_own_firsts : SlX.Slot1 K Z.c_Machine "own_firsts" Z.q_Machine_own_firsts 1
  Machine_own_lasts : SlX.Slot1 K Z.c_Machine "own_lasts" Z.q_Machine_own_lasts 2
  Machine_own_lines : SlX.Slot1 K Z.c_Machine "own_lines" Z.q_Machine_own_lines 3
  Machine_own_states : SlX.Slot1 K Z.c_Machine "own_states" Z.q_Machine_own_states 4
  Machine_own_steps : SlX.Slot1 K Z.c_Machine "own_steps" Z.q_Machine_own_steps 5

local macro_rules | `(tactic| walk_at "rd") => `(tactic| try simp only [cx_K, cx_w, tRet, tSeq_eq, tAsg, tDrop, tIfS_eq, tNext, gName, gSub, tAndV, tOrV, tNotV, tB, tTest, tAnd, tOr, tNot, tIf, tCB, tCons, tNil, tVar, tC, tOp, tUn, tChain, rI0, rI, rU, tLst, tTup, tCall, tPar,   tFor_eq, tLc_eq, iRng1, iRng2, iList, iTup, iStr, iZip, tRevL, tDisp, tPairs, tYes, wipe, id, rNe, rEq, scal_str, rIxS, tSM, tLM, rIxM, rLenM, rCat, rInt, rIntB, rSetL, rAppend, rExtend, rAllM, rRepS, rRng2, rInRng, atI0, atI1, atI2, ixN30, ixN32, upd_same, upd_upd,   L2.start, List.map_cons, List.map_nil, List.length_cons, List.length_nil, List.reduceReplicate, List.replicate_succ, List.replicate_zero, Nat.reduceAdd, Nat.reduceSub, List.nil_append, List.cons_append, List.append_nil,   List.getElem?_cons_zero, List.getElem?_cons_succ, List.set_cons_zero, List.set_cons_succ, Int.zero_add,   Option.some.injEq, HO.lst.injEq, HO.tup.injEq, HO.rng.injEq, V.int.injEq, V.bl.injEq, V.str.injEq, V.ref.injEq, reduceCtorEq, exists_eq_left, exists_eq_left', exists_eq_right, exists_eq', exists_eq, exists_and_left, true_and, and_true, false_and, and_assoc, exists_false, List.cons.injEq, ↓reduceIte, if_true, if_false, Bool.false_eq_true, tLc2_eq, LP.tDcT_eq, LP.rSortD, rLenS, rLenTM, rIxTM, rTupM, HO.tup.injEq, Bool.not_true, Bool.not_false, rJoin, LZ.iZipN, LZ.iEnumN, gTup, gLst, gCons, gNil, tSlot, SlX.tPropSl, SlX.tMethSl, StX.tMakeR, rStrOwn, tFldC, tMeth, tLM0, rPop, rPopAt, rInT, rInL, tFmt, tJs, LP.tCallS, HO.ins.injEq, tPar3, tAug, ipI, L2.tSl, tPart, tNoPart, rSlS, LP.rIsE, Nat.reduceEqDiff, Int.reduceEq, true_or, or_true, false_or, or_false, or_self, decide_true, decide_false, decide_not, Bool.decide_eq_true, Bool.decide_eq_false, not_true_eq_false, not_false_eq_true, LP.scal_intE, LP.scal_blE, rSlT, tDGet, tDGet2, sDPut, tLock, tLockE, StX.tStar, LP.rInD, LP.rNinD, iKeys, LP.iItT, tDNewT, tDNewK, iVals, iItems, LP.tScT_eq, LP.tListVals, LP.tDictItems, *])
local macro_rules | `(tactic| walk_at "go") => `(tactic| (refine later ?_; walk_at "rd"))
local macro_rules | `(tactic| walk_at "gg") => `(tactic| repeat (refine later ?_; walk_at "rd"))
local macro_rules | `(tactic| walk_at "cj") => `(tactic| repeat (refine And.intro (by first | assumption | exact cpow60 | exact cpow59 | exact cpow17 | exact mul60 | decide | exact .inl ⟨by decide, by decide⟩ | exact .inr ⟨by decide, by decide⟩ | omega | exact ⟨by decide, by decide⟩) ?_))
/-! ### the dice -/
section
variable {P : Program} {w : World} {K : PySem.W.Frag} {mg : Str → Option Value} {base : Heap} {Z : Ad}
def spRoll : Sp := fun vs H Q _ => ∃ (d : Addr) (x y z n : Int), vs = [.ref d, .int n] ∧ H d = some (.lst [.int x, .int y, .int z]) ∧ 0 < n ∧ n.natAbs.log2 < 9000 ∧
  ∀ r x' y' z' : Int, 0 ≤ r → r < n → Q (.int r) (upd H d (.lst [.int x', .int y', .int z']))
theorem ok_roll (D : Ds K mg Z) (B : Bt mg) : FnOk P w K mg base CX0 1 Z.a_roll Z.d_roll P_roll spRoll := by
  refine D.roll.F.ok sc_roll (fun vs H Q E h => ?_) (fun cdv A outer s H vs Q E hr h => ?_)
  · obtain ⟨d, x, y, z, n, rfl, _⟩ := h
    rfl
  · obtain ⟨d, x, y, z, n, rfl, hd, hn, hlog, q⟩ := h
    refine ⟨_, (pss_cons (ps_if (pt_cmpR op_gt (pe_ix ix_M (pv 0) pe_int (fun _ _ => rfl)) pe_int (nomark _)) (pss_cons (ps_set (i := 2) sc_roll.nd rfl (Or.inl rfl) (pe_op op_mod (pe_callTy call_intI (by rfl) B.int (by decide +kernel) (pa_cons (pe_ix ix_M (pv 0) pe_int (fun _ _ => rfl)) pa_nil)) (pv 1)))
    (pss_cons (ps_asg (pe_op op_fdivW (pe_ix ix_M (pv 0) pe_int (fun _ _ => rfl)) (pv 1)) (pg_sub (pv 0) pe_int set_list))
    (pss_one (ps_ret (pv 2))))) pss_nil)
    (pss_cons (ps_asg (pe_op op_add (pe_ix ix_M (pv 0) pe_int (fun _ _ => rfl)) pe_int) (pg_sub (pv 0) pe_int set_list))
    (pss_cons (ps_set (i := 3) sc_roll.nd rfl (Or.inl rfl) (pe_op op_mod (pe_callTy call_intI (by rfl) B.int (by decide +kernel) (pa_cons (pe_op op_add (pe_ix ix_M (pv 0) pe_int (fun _ _ => rfl)) (pe_op op_mul pe_int (pe_ix ix_M (pv 0) pe_int (fun _ _ => rfl)))) pa_nil)) pe_int))
    (pss_cons (ps_set (i := 4) sc_roll.nd rfl (Or.inl rfl) (pe_op op_add (pe_op op_mul (pe_op op_mod (pe_callTy call_intI (by rfl) B.int (by decide +kernel) (pa_cons (pe_op op_add (pe_op op_mul (pv 3) (pv 3)) (pe_op op_mul pe_int (pe_ix ix_M (pv 0) pe_int (fun _ _ => rfl)))) pa_nil)) pe_int) pe_int) (pv 3)))
    (pss_one (ps_ret (pe_op op_mod (pe_callTy call_intI (by rfl) B.int (by decide +kernel) (pa_cons (pe_op op_fdivW (pv 4) pe_int) pa_nil)) (pv 1)))))))), ?_⟩
    walk_at "rd"
    have hdv : ∀ i : Int, CDivW i n := fun i => ⟨hn, hlog⟩
    have hm : ∀ i : Int, 0 ≤ i % n ∧ i % n < n := fun i => ⟨Int.emod_nonneg _ (by omega), Int.emod_lt_of_pos _ hn⟩
    refine ite2 (fun h => ?_) (fun h => ?_)
    · walk_at "go"
      walk_at "go"
      walk_at "go"
    · walk_at "go"
      walk_at "go"
      walk_at "go"
      refine ⟨.inl ⟨by decide, by decide⟩, by decide, ?_⟩
      have h1 := Int.emod_nonneg (y + 7907 * (z + 1)) (show (2305843009213693907 : Int) ≠ 0 by decide)
      have h2 := Int.emod_lt_of_pos (y + 7907 * (z + 1)) (show (0 : Int) < 2305843009213693907 by decide)
      generalize (y + 7907 * (z + 1)) % 2305843009213693907 = o at h1 h2 ⊢
      walk_at "go"
      have h3 := Int.emod_nonneg (o * o + 67 * (z + 1)) (show (2305843009213693921 : Int) ≠ 0 by decide)
      have h4 := Int.emod_lt_of_pos (o * o + 67 * (z + 1)) (show (0 : Int) < 2305843009213693921 by decide)
      refine ⟨.inl ⟨by omega, by omega⟩, .inl ⟨by decide, by decide⟩, by decide, .inr ⟨by decide, by decide⟩, ?_⟩
      walk_at "go"
      exact ⟨by decide, by decide⟩

def Items (H : Hp) (d : Addr) (it : V) (xs : List V) : Prop := (∃ l, it = .ref l ∧ l ≠ d ∧ H l = some (.lst xs)) ∨
  (∃ z : Str, it = .str z ∧ xs = z.cps.toList.map fun c => V.str ⟨#[c]⟩)
def spPick : Sp := fun vs H Q _ => ∃ (d : Addr) (x y z : Int) (it : V) (xs : List V), vs = [.ref d, it] ∧ H d = some (.lst [.int x, .int y, .int z]) ∧
  Items H d it xs ∧ 0 < xs.length ∧ xs.length ≤ 1000 ∧ ∀ v, v ∈ xs → ∀ x' y' z' : Int, Q v (upd H d (.lst [.int x', .int y', .int z']))
theorem ok_pick (D : Ds K mg Z) (B : Bt mg) : FnOk P w K mg base CX0 2 Z.a_pick Z.d_pick P_pick spPick := by
  have G_roll := ok_roll (P := P) (w := w) (base := base) D B
  refine D.pick.F.ok sc_pick (fun vs H Q E h => ?_) (fun cdv A outer s H vs Q E hr h => ?_)
  · obtain ⟨d, x, y, z, it, xs, rfl, _⟩ := h
    rfl
  · obtain ⟨d, x, y, z, it, xs, rfl, hd, hit, h0, h1, q⟩ := h
    refine ⟨_, (pss_one (ps_ret (pe_ix ix_seq (pv 1) (pe_df D.roll G_roll (hr.mono (by decide)) (by rfl) (pa_cons (pv 0) (pa_cons (pe_callB call_len (by rfl) B.len (by decide +kernel) (pa_cons (pv 1) pa_nil)) pa_nil))) (fun _ _ => rfl)))), ?_⟩
    have hlog : ((xs.length : Int)).natAbs.log2 < 9000 := Nat.lt_of_lt_of_le (log2_of (k := 10) (by omega) (by decide)) (by decide)
    have hat : ∀ r : Int, 0 ≤ r → r < (xs.length : Int) → ∃ v, v ∈ xs ∧ atI xs r = some v := by
      intro r r0 r1
      have hr' : r.toNat < xs.length := by omega
      refine ⟨xs[r.toNat], List.getElem_mem hr', ?_⟩
      exact L2.at_of (j := r.toNat) (by omega) (List.getElem?_eq_getElem hr')
    walk_at "rd"
    rcases hit with ⟨l, rfl, nl, hl⟩ | ⟨z', rfl, rfl⟩
    · refine ⟨xs.length, .inl ⟨xs, SqL.of hl, rfl⟩, ?_⟩
      refine ⟨d, x, y, z, _, rfl, hd, by omega, hlog, fun r x' y' z' r0 r1 => ?_⟩
      obtain ⟨v, hv, ha⟩ := hat r r0 r1
      exact .inl ⟨l, xs, r, v, rfl, rfl, SqL.of (by rw [upd_ne nl]; exact hl), ha, q v hv _ _ _⟩
    · rw [List.length_map] at h0 h1
      have ez : z'.length = z'.cps.toList.length := len_tl' z'
      have hz : z'.length ≤ sizeLine := Nat.le_trans (show z'.length ≤ 1000 by omega) (by decide)
      rw [List.length_map, ← ez] at hat hlog
      refine ⟨z'.length, ⟨hz, rfl⟩, ?_⟩
      refine ⟨d, x, y, z, _, rfl, hd, by omega, hlog, fun r x' y' w' r0 r1 => ?_⟩
      have hr' : r.toNat < z'.cps.toList.length := by omega
      have ha : atI z'.cps.toList r = some z'.cps.toList[r.toNat] := atI_of r0 hr'
      refine .inr (.inr ⟨z', r, z'.cps.toList[r.toNat], rfl, rfl, hz, ha, ?_⟩)
      exact q _ (List.mem_map.mpr ⟨_, List.getElem_mem hr', rfl⟩) _ _ _

def spDice (K : PySem.W.Frag) : Sp := fun vs H Q _ => ∃ (a : Addr) (ns : List Int) (i : Nat), vs = [.ref a, .int (i : Int)] ∧ SqL K H a (ns.map V.int) ∧
  ∀ (p : Addr) (x y : Int), H p = none → Q (.ref p) (upd H p (.lst [.int x, .int y, .int 0]))
theorem ok_dice (D : Ds K mg Z) (B : Bt mg) : FnOk P w K mg base CX0 1 Z.a_dice Z.d_dice P_dice (spDice K) := by
  refine D.dice.F.ok sc_dice (fun vs H Q E h => ?_) (fun cdv A outer s H vs Q E hr h => ?_)
  · obtain ⟨a, ns, i, rfl, _⟩ := h
    rfl
  · obtain ⟨a, ns, i, rfl, hS, q⟩ := h
    refine ⟨_, (pss_cons (ps_set (i := 2) sc_dice.nd rfl (Or.inl rfl) (pe_ifExp (pt_cmpR op_lt (pv 1) (pe_callB (call_lenK (K := K) rfl) (by rfl) B.len (by decide +kernel) (pa_cons (pv 0) pa_nil)) (nomark _)) (pe_callTy call_intI (by rfl) B.int (by decide +kernel) (pa_cons (pe_ix (ix_listK (K := K) rfl) (pv 0) (pv 1) (fun _ _ => rfl)) pa_nil)) (pe_op op_add (pe_op op_mul pe_int (pv 1)) pe_int)))
    (pss_cons (ps_set (i := 3) sc_dice.nd rfl (Or.inl rfl) (pe_op op_mod (pe_callB call_abs (by rfl) B.abs (by decide +kernel) (pa_cons (pv 2) pa_nil)) (pe_op op_pow pe_int pe_int)))
    (pss_cons (ps_set (i := 4) sc_dice.nd rfl (Or.inl rfl) (pe_callB (call_max2 rfl) (by rfl) B.max (by decide +kernel) (pa_cons pe_int (pa_cons (pe_op op_sub (pe_callB call_abs (by rfl) B.abs (by decide +kernel) (pa_cons (pv 2) pa_nil)) (pe_op op_pow pe_int pe_int)) pa_nil))))
    (pss_one (ps_ret (pe_lst (pa_cons (pe_op op_mod (pv 4) (pe_op op_mulW (pe_op op_pow pe_int pe_int) (pe_op op_pow pe_int pe_int))) (pa_cons (pe_op op_add (pe_op op_add (pe_op op_add (pe_op op_mul (pe_op op_mod (pv 3) pe_int) pe_int) (pe_op op_mul pe_int (pv 1))) (pe_op op_mul pe_int (pe_callTy call_intB (by rfl) B.int (by decide +kernel) (pa_cons (pe_cmpR op_lt (pv 2) pe_int (nomark _)) pa_nil)))) pe_int) (pa_cons pe_int pa_nil))))))))), ?_⟩
    walk_at "rd"
    refine ⟨_, .inl hS, ?_⟩
    rw [List.length_map]
    have cut : ∀ (A B : Prop) (c : Bool), (c = true → A) → (c = false → B) → if c = true then A else B := by
      intro A B c h1 h2
      cases c
      · exact h2 rfl
      · exact h1 rfl
    refine cut _ _ _ (fun h => ?_) (fun h => ?_)
    · have hi : i < ns.length := by have := of_decide_eq_true h; omega
      refine ⟨a, _, _, .int ns[i], rfl, rfl, hS, L2.at_of rfl (by rw [List.getElem?_map, List.getElem?_eq_getElem hi]; rfl), ?_⟩
      walk_at "rd"
      generalize ns[i] = c
      walk_at "go"
      refine ⟨cpow59, by decide, ?_⟩
      walk_at "go"
      refine ⟨cpow17, ?_⟩
      walk_at "go"
      walk_at "cj"
      exact fun p hp => q p _ _ hp
    · refine ⟨.inl ⟨by decide, by decide⟩, ?_⟩
      generalize 43 * (i : Int) + 7 = c
      walk_at "go"
      refine ⟨cpow59, by decide, ?_⟩
      walk_at "go"
      refine ⟨cpow17, ?_⟩
      walk_at "go"
      walk_at "cj"
      exact fun p hp => q p _ _ hp

end
/-! ### words -/
def alpha : Str := "abcdefghijklmnopqrstuvwxyz"
def spelt : V → Bool
  | .str x => (TL.tl x).all fun c => decide (c ∈ TL.tl alpha)
  | _ => false
def lenV : V → Nat
  | .str x => x.length
  | _ => 0
def isName (v : V) : Bool := spelt v && (decide (1 ≤ lenV v) && decide (lenV v ≤ 8))
def isLetter (v : V) : Bool := spelt v && decide (lenV v = 1)
def isText (v : V) : Bool := spelt v && decide (lenV v ≤ 100000)
/-- a plain value, a text of at most a million signs -/
def OkV (K : PySem.W.Frag) (H : Hp) (v : V) : Prop := (∃ t, Pl K H v t) ∧ lenV v ≤ 1000000
theorem OkV.same {K : PySem.W.Frag} {H H' : Hp} {v : V} (e : Same H H') (h : OkV K H v) : OkV K H' v := by
  obtain ⟨⟨t, p⟩, z⟩ := h
  exact ⟨⟨t, p.same e⟩, z⟩
def sp1 (K : PySem.W.Frag) (f : V → Bool) : Sp := fun vs H Q _ => ∃ v, vs = [v] ∧ OkV K H v ∧ ∀ H', Same H H' → Q (.bl (f v)) H'

section
variable {P : Program} {w : World} {K : PySem.W.Frag} {mg : Str → Option Value} {base : Heap} {Z : Ad}
theorem ok_is_spelt (D : Ds K mg Z) (B : Bt mg) (C0 : Cs mg) : FnOk P w K mg base CX0 1 Z.a_is_spelt Z.d_is_spelt P_is_spelt (sp1 K spelt) := by
  obtain ⟨⟨t_LIMIT, c_LIMIT⟩, ⟨t_ALPHABET, c_ALPHABET⟩, ⟨t_MAX_LETTERS, c_MAX_LETTERS⟩, ⟨t_MAX_STATES, c_MAX_STATES⟩, ⟨t_MAX_PRICE, c_MAX_PRICE⟩, ⟨t_FIRST, c_FIRST⟩, ⟨t_LAST, c_LAST⟩, ⟨t_ARC, c_ARC⟩⟩ := C0
  refine D.is_spelt.F.ok sc_is_spelt (fun vs H Q E h => ?_) (fun cdv A outer s H vs Q E hr h => ?_)
  · obtain ⟨v, rfl, _⟩ := h
    rfl
  · obtain ⟨v, rfl, ⟨⟨t, pl⟩, hz⟩, q⟩ := h
    refine ⟨_, (pss_one (ps_ret (pe_and (pe_callB (call_isiK' (K := K) rfl) (by rfl) B.isinstance (by decide +kernel) (pa_cons (pv 0) (pa_cons (pe_bltn (v := .ty "str") (by rfl) B.str (by decide +kernel) rfl) pa_nil))) (pe_one (pe_callB (cr_allM rfl) (by rfl) B.all (by decide +kernel) (pa_cons (pe_lc (own := [("letter", 1)]) (g := gName 1) rfl sc_is_spelt.nd (pi_str (pv 0)) (blkOk_by (N := N_is_spelt) (sc := defScope s_is_spelt) (by decide +kernel)) (fun _ _ _ _ _ => (pg_name (i := 1) sc_is_spelt.nd rfl (Or.inl rfl))) (fun _ _ _ _ _ => pts_nil) (fun _ _ _ _ _ => (pe_cmpR op_sgn (pv 1) (pe_glob (v := .str _) (by rfl) c_ALPHABET ⟨_, rfl⟩) (by rfl)))) pa_nil)))))), ?_⟩
    walk_at "rd"
    refine rd_isi pl (isi_str pl) ?_
    walk_at "rd"
    cases pl with
    | str x =>
      rw [if_pos (by decide)]
      walk_at "rd"
      refine lc_mapW (walk_signs x) (fun _ _ => trivial) (by rw [signs_len]; exact hz) (fun v => match v with | .str y => .bl (decide (y.cps.getD 0 0 ∈ TL.tl alpha)) | _ => .non) (fun x => rfl) ?_ ?_
      · intro v hv H1 e1 R hR
        obtain ⟨c, _, rfl⟩ := List.mem_map.mp hv
        walk_at "rd"
        refine ⟨c, alpha, rfl, rfl, ?_⟩
        exact hR H1 (Same.refl _)
      · intro p H2 hp e2 hl
        refine ⟨p, rfl, (TL.tl x).map (fun c => decide (c ∈ TL.tl alpha)), ?_, ?_⟩
        · rw [hl]
          unfold LP.signs sgn
          rw [List.map_map, List.map_map]
          rfl
        · have r := q H2 e2
          have e : ((TL.tl x).map (fun c => decide (c ∈ TL.tl alpha))).all id = spelt (.str x) := by
            rw [List.all_map]
            rfl
          rw [e]
          exact r
    | _ =>
      rw [if_neg (by decide)]
      exact q H (Same.refl _)

theorem ok_is_name (D : Ds K mg Z) (B : Bt mg) (C0 : Cs mg) : FnOk P w K mg base CX0 2 Z.a_is_name Z.d_is_name P_is_name (sp1 K isName) := by
  have G_is_spelt := ok_is_spelt (P := P) (w := w) (base := base) D B C0
  obtain ⟨⟨t_LIMIT, c_LIMIT⟩, ⟨t_ALPHABET, c_ALPHABET⟩, ⟨t_MAX_LETTERS, c_MAX_LETTERS⟩, ⟨t_MAX_STATES, c_MAX_STATES⟩, ⟨t_MAX_PRICE, c_MAX_PRICE⟩, ⟨t_FIRST, c_FIRST⟩, ⟨t_LAST, c_LAST⟩, ⟨t_ARC, c_ARC⟩⟩ := C0
  refine D.is_name.F.ok sc_is_name (fun vs H Q E h => ?_) (fun cdv A outer s H vs Q E hr h => ?_)
  · obtain ⟨v, rfl, _⟩ := h
    rfl
  · obtain ⟨v, rfl, ok, q⟩ := h
    refine ⟨_, (pss_one (ps_ret (pe_and (pe_df D.is_spelt G_is_spelt (hr.mono (by decide)) (by rfl) (pa_cons (pv 0) pa_nil)) (pe_one (pe_chain op_le op_le pe_int (pe_callB call_len_str (by rfl) B.len (by decide +kernel) (pa_cons (pv 0) pa_nil)) (pe_glob (v := .int _) (by rfl) c_MAX_LETTERS ⟨_, rfl⟩)))))), ?_⟩
    walk_at "rd"
    refine ⟨v, rfl, ok, fun H1 e1 => ?_⟩
    walk_at "rd"
    replace q := q H1 e1
    unfold isName at q
    refine ite2 (fun h => ?_) (fun h => ?_)
    · cases v with
      | str x =>
        rw [h, Bool.true_and] at q
        walk_at "rd"
        refine ⟨Nat.le_trans ok.2 (by decide), ?_⟩
        have e1 : decide ((1 : Int) ≤ (x.length : Int)) = decide (1 ≤ lenV (.str x)) := decide_eq_decide.mpr (by show _ ↔ 1 ≤ x.length; omega)
        have e2 : decide ((x.length : Int) ≤ 8) = decide (lenV (.str x) ≤ 8) := decide_eq_decide.mpr (by show _ ↔ x.length ≤ 8; omega)
        rw [e1, e2]
        refine ite2 (fun h => ?_) (fun h => ?_)
        · rw [h, Bool.true_and] at q
          exact q
        · rw [Bool.eq_false_iff.mpr h, Bool.false_and] at q
          exact q
      | _ => cases h
    · rw [Bool.eq_false_iff.mpr h, Bool.false_and] at q
      exact q
theorem ok_is_letter (D : Ds K mg Z) (B : Bt mg) (C0 : Cs mg) : FnOk P w K mg base CX0 2 Z.a_is_letter Z.d_is_letter P_is_letter (sp1 K isLetter) := by
  have G_is_spelt := ok_is_spelt (P := P) (w := w) (base := base) D B C0
  obtain ⟨⟨t_LIMIT, c_LIMIT⟩, ⟨t_ALPHABET, c_ALPHABET⟩, ⟨t_MAX_LETTERS, c_MAX_LETTERS⟩, ⟨t_MAX_STATES, c_MAX_STATES⟩, ⟨t_MAX_PRICE, c_MAX_PRICE⟩, ⟨t_FIRST, c_FIRST⟩, ⟨t_LAST, c_LAST⟩, ⟨t_ARC, c_ARC⟩⟩ := C0
  refine D.is_letter.F.ok sc_is_letter (fun vs H Q E h => ?_) (fun cdv A outer s H vs Q E hr h => ?_)
  · obtain ⟨v, rfl, _⟩ := h
    rfl
  · obtain ⟨v, rfl, ok, q⟩ := h
    refine ⟨_, (pss_one (ps_ret (pe_and (pe_df D.is_spelt G_is_spelt (hr.mono (by decide)) (by rfl) (pa_cons (pv 0) pa_nil)) (pe_one (pe_cmpR op_eq (pe_callB call_len_str (by rfl) B.len (by decide +kernel) (pa_cons (pv 0) pa_nil)) pe_int (nomark _)))))), ?_⟩
    walk_at "rd"
    refine ⟨v, rfl, ok, fun H1 e1 => ?_⟩
    walk_at "rd"
    replace q := q H1 e1
    unfold isLetter at q
    refine ite2 (fun h => ?_) (fun h => ?_)
    · cases v with
      | str x =>
        rw [h, Bool.true_and] at q
        walk_at "rd"
        refine ⟨Nat.le_trans ok.2 (by decide), ?_⟩
        have e1 : decide ((x.length : Int) = 1) = decide (lenV (.str x) = 1) := decide_eq_decide.mpr (by show _ ↔ x.length = 1; omega)
        rw [e1]
        exact q
      | _ => cases h
    · rw [Bool.eq_false_iff.mpr h, Bool.false_and] at q
      exact q
def isInt : V → Bool
  | .int i => decide (-10 ^ 60 < i) && decide (i < 10 ^ 60)
  | _ => false
def isCnt : V → Bool
  | .int i => (decide (-10 ^ 60 < i) && decide (i < 10 ^ 60)) && decide (0 ≤ i)
  | _ => false
def spIsInt (K : PySem.W.Frag) : Sp := fun vs H Q _ => ∃ v t, vs = [v] ∧ Pl K H v t ∧ Q (.bl (isInt v)) H
def spIsCnt (K : PySem.W.Frag) : Sp := fun vs H Q _ => ∃ v t, vs = [v] ∧ Pl K H v t ∧ Q (.bl (isCnt v)) H

theorem ok_is_integer (D : Ds K mg Z) (B : Bt mg) (C0 : Cs mg) : FnOk P w K mg base CX0 1 Z.a_is_integer Z.d_is_integer P_is_integer (spIsInt K) := by
  obtain ⟨⟨t_LIMIT, c_LIMIT⟩, ⟨t_ALPHABET, c_ALPHABET⟩, ⟨t_MAX_LETTERS, c_MAX_LETTERS⟩, ⟨t_MAX_STATES, c_MAX_STATES⟩, ⟨t_MAX_PRICE, c_MAX_PRICE⟩, ⟨t_FIRST, c_FIRST⟩, ⟨t_LAST, c_LAST⟩, ⟨t_ARC, c_ARC⟩⟩ := C0
  refine D.is_integer.F.ok sc_is_integer (fun vs H Q E h => ?_) (fun cdv A outer s H vs Q E hr h => ?_)
  · obtain ⟨v, t, rfl, _⟩ := h
    rfl
  · obtain ⟨v, t, rfl, pl, q⟩ := h
    
    refine ⟨_, (pss_one (ps_ret (pe_and (pe_callB (call_isiK' (K := K) rfl) (by rfl) B.isinstance (by decide +kernel) (pa_cons (pv 0) (pa_cons (pe_bltn (v := .ty "int") (by rfl) B.int (by decide +kernel) rfl) pa_nil))) (pe_and (pe_not (pe_callB (call_isiK' (K := K) rfl) (by rfl) B.isinstance (by decide +kernel) (pa_cons (pv 0) (pa_cons (pe_bltn (v := .ty "bool") (by rfl) B.bool (by decide +kernel) rfl) pa_nil)))) (pe_one (pe_chain op_lt op_lt (pe_un un_neg (pe_glob (v := .int _) (by rfl) c_LIMIT ⟨_, rfl⟩)) (pv 0) (pe_glob (v := .int _) (by rfl) c_LIMIT ⟨_, rfl⟩))))))), ?_⟩
    walk_at "rd"
    refine rd_isi pl (isi_int pl) ?_
    walk_at "rd"
    cases pl with
    | int i =>
      rw [if_pos (by decide)]
      refine rd_isi (K := K) (.int i) (isi_bool (K := K) (H := H) (.int i)) ?_
      walk_at "rd"
      rw [if_pos (by decide)]
      have e : isInt (.int i) = (decide (-10 ^ 60 < i) && decide (i < 10 ^ 60)) := rfl
      rw [e] at q
      refine ite2 (fun h => ?_) (fun h => ?_)
      · rw [h, Bool.true_and] at q
        exact q
      · rw [Bool.eq_false_iff.mpr h, Bool.false_and] at q
        exact q
    | bl b =>
      rw [if_pos (by decide)]
      refine rd_isi (K := K) (.bl b) (isi_bool (K := K) (H := H) (.bl b)) ?_
      walk_at "rd"
      rw [if_neg (by decide)]
      exact q
    | _ =>
      rw [if_neg (by decide)]
      exact q

end
section
variable {P : Program} {w : World} {K : PySem.W.Frag} {mg : Str → Option Value} {base : Heap} {Z : Ad}
/-! ### names, places, prices -/
def ltS (a b : Str) : Bool := decide (a.cps.toList < b.cps.toList)
/-- neighbours ascend -/
def ascB : List Str → Bool
  | a :: b :: r => ltS a b && ascB (b :: r)
  | _ => true
def namesB (xs : List Str) : Bool := xs.all (fun x => isName (.str x)) && ascB xs
theorem okv_s {H : Hp} {x : Str} (h : x.length ≤ 1000000) : OkV K H (.str x) := ⟨⟨_, .str _⟩, h⟩
def ltAt (xs : List Str) (i : Nat) : Bool := match xs[i]?, xs[i + 1]? with
  | some a, some b => ltS a b
  | _, _ => false
theorem asc_range : ∀ xs : List Str, (List.range (xs.length - 1)).all (ltAt xs) = ascB xs
  | [] => rfl
  | [_] => rfl
  | a :: b :: r => by
    have ih := asc_range (b :: r)
    show (List.range (r.length + 1)).all _ = (ltS a b && ascB (b :: r))
    rw [List.range_succ_eq_map, List.all_cons, List.all_map, ← ih]
    rfl
theorem cut1 (xs : List V) (h : 0 < xs.length) : cutV xs (some 1) none = xs.drop 1 := by
  unfold cutV
  have e : HT.sIx xs.length 0 (some 1) = 1 := by
    unfold HT.sIx
    first | (simp; omega) | (split <;> omega)
  rw [e]
  show (xs.drop 1).take (xs.length - 1) = _
  rw [List.take_of_length_le (by rw [List.length_drop]; exact Nat.le_refl _)]
def spNames (K : PySem.W.Frag) : Sp := fun vs H Q _ => ∃ (p : Addr) (xs : List Str), vs = [.ref p] ∧ H p = some (.tup (xs.map V.str)) ∧ 0 < xs.length ∧ xs.length ≤ 4000 ∧ (∀ x ∈ xs, x.length ≤ 1000000) ∧ ∀ H', Same H H' → Q (.bl (namesB xs)) H'
theorem ok_are_names (D : Ds K mg Z) (B : Bt mg) (C0 : Cs mg) : FnOk P w K mg base CX0 3 Z.a_are_names Z.d_are_names P_are_names (spNames K) := by
  have G_is_name := ok_is_name (P := P) (w := w) (base := base) D B C0
  obtain ⟨⟨t_LIMIT, c_LIMIT⟩, ⟨t_ALPHABET, c_ALPHABET⟩, ⟨t_MAX_LETTERS, c_MAX_LETTERS⟩, ⟨t_MAX_STATES, c_MAX_STATES⟩, ⟨t_MAX_PRICE, c_MAX_PRICE⟩, ⟨t_FIRST, c_FIRST⟩, ⟨t_LAST, c_LAST⟩, ⟨t_ARC, c_ARC⟩⟩ := C0
  refine D.are_names.F.ok sc_are_names (fun vs H Q E h => ?_) (fun cdv A outer s H vs Q E hr h => ?_)
  · obtain ⟨p, xs, rfl, _⟩ := h
    rfl
  · obtain ⟨p, xs, rfl, hp, h0, h1, hx, q⟩ := h
    refine ⟨_, (pss_cons (ps_if (PW.pt (pw_or (pt_not (pt_val (pe_callB (call_isiK' (K := K) rfl) (by rfl) B.isinstance (by decide +kernel) (pa_cons (pv 0) (pa_cons (pe_bltn (v := .ty "tuple") (by rfl) B.tuple (by decide +kernel) rfl) pa_nil))))) (pw_or1 (pt_not (pt_val (pe_callB (cr_allM rfl) (by rfl) B.all (by decide +kernel) (pa_cons (pe_lc (own := [("name", 1)]) (g := gName 1) rfl sc_are_names.nd (pi_tupK (K := K) rfl (pv 0)) (blkOk_by (N := N_are_names) (sc := defScope s_are_names) (by decide +kernel)) (fun _ _ _ _ _ => (pg_name (i := 1) sc_are_names.nd rfl (Or.inl rfl))) (fun _ _ _ _ _ => pts_nil) (fun _ _ _ _ _ => (pe_df D.is_name G_is_name (hr.mono (by decide)) (by rfl) (pa_cons (pv 1) pa_nil)))) pa_nil))))))) (pss_one (ps_ret pe_bl)) pss_nil)
    (pss_one (ps_ret (pe_callB (cr_allM rfl) (by rfl) B.all (by decide +kernel) (pa_cons (pe_lc (own := [("one", 2), ("other", 3)]) rfl sc_are_names.nd (pi_zipNK (K := K) rfl (by rfl) B.zip (pa_cons (pv 0) (pa_cons (pe_slice (sl_tupK (K := K) rfl) (pv 0) (po_some pe_int) po_none) pa_nil))) (blkOk_by (N := N_are_names) (sc := defScope s_are_names) (by decide +kernel)) (fun _ _ _ _ _ => (pg_tupK (K := K) (n := 2) rfl rfl (pgs_cons (pg_name (i := 2) sc_are_names.nd rfl (Or.inl rfl)) (pgs_cons (pg_name (i := 3) sc_are_names.nd rfl (Or.inl rfl)) pgs_nil)))) (fun _ _ _ _ _ => pts_nil) (fun _ _ _ _ _ => (pe_cmpR op_lt_str (pv 2) (pv 3) (nomark _)))) pa_nil))))), ?_⟩
    have lx : (xs.map V.str).length = xs.length := List.length_map ..
    walk_at "rd"
    refine rd_isi (.tup hp) (isi_tuple (K := K) (H := H) (.tup hp)) ?_
    rw [show isiB "tuple" "tuple" = true from rfl]
    walk_at "rd"
    refine ⟨⟨_, SqT.of hp⟩, ?_⟩
    refine lc_mapW (walk_tup (xs := xs.map V.str)) (fun H1 e1 => SqT.of (e1 _ _ hp)) (by omega) (fun x => .bl (isName x)) (fun _ => rfl) ?_ ?_
    · intro x hx1 H1 e1 R hR
      obtain ⟨y, hy, rfl⟩ := List.mem_map.mp hx1
      walk_at "rd"
      exact ⟨_, rfl, okv_s (hx y hy), fun H2 e2 => hR H2 e2⟩
    · intro l H2 hl e2 hl2
      have em : (xs.map V.str).map (fun x => V.bl (isName x)) = (xs.map fun x => isName (.str x)).map V.bl := by rw [List.map_map, List.map_map]; rfl
      have ea : (xs.map fun x => isName (.str x)).all id = xs.all (fun x => isName (.str x)) := by rw [List.all_map]; rfl
      rw [em] at hl2
      refine ⟨l, rfl, _, hl2, ?_⟩
      rw [ea]
      have hp2 := e2 _ _ hp
      unfold namesB at q
      cases hA : xs.all (fun x => isName (.str x)) with
      | false =>
        rw [hA, Bool.false_and] at q
        have q2 := q H2 e2
        clear hl2 em ea hA
        walk_at "rd"
        walk_at "gg"
      | true =>
        rw [hA, Bool.true_and] at q
        clear hl2 em ea hA
        walk_at "rd"
        walk_at "gg"
        have c1 : cutV (xs.map V.str) (some 1) none = (xs.drop 1).map V.str := by rw [cut1 _ (by omega), List.map_drop]
        have nw : ¬ (HT.sIx (xs.map V.str).length 0 (some 1) = 0 ∧ HT.sIx (xs.map V.str).length (xs.map V.str).length none = (xs.map V.str).length) := by
          intro z
          have e : HT.sIx (xs.map V.str).length 0 (some 1) = 1 := by
            unfold HT.sIx
            first | (simp; omega) | (split <;> omega)
          omega
        refine ⟨_, SqT.of hp2, nw, fun p1 hp1 => ?_⟩
        rw [c1]
        have e3 := Same.new (o := HO.tup ((xs.drop 1).map V.str)) hp1
        have hp3 := e3 _ _ hp2
        have hq3 : upd H2 p1 (HO.tup ((xs.drop 1).map V.str)) p1 = some (.tup ((xs.drop 1).map V.str)) := upd_same
        replace e2 := e2.trans e3
        generalize upd H2 p1 (HO.tup ((xs.drop 1).map V.str)) = H3 at hp3 hq3 e2 ⊢
        clear e3 hp1 c1 nw hp2
        have ld : ((xs.drop 1).map V.str).length = xs.length - 1 := by rw [List.length_map, List.length_drop]
        refine ⟨[.tup p, .tup p1], .cons rfl (SqT.of hp3) (.cons rfl (SqT.of hq3) .nil), Nat.zero_lt_succ _, by show 2 ≤ 1000; decide, ?_⟩
        refine lc_val (walk_zipS (s1 := .tup p) (s2 := .tup p1) (xs := xs.map V.str) (ys := (xs.drop 1).map V.str) (by omega)) (fun i => .bl (ltAt xs i)) (fun H4 e4 => ⟨SqT.of (e4 _ _ hp3), SqT.of (e4 _ _ hq3)⟩) (by omega) ?_ ?_
        · intro i x H4 H5 hi e4 y R hR
          obtain ⟨T, x1, y1, rfl, hT, rfl, h1, h2⟩ := y
          rw [ld] at hi
          have ix : i < xs.length := by omega
          have iy : i + 1 < xs.length := by omega
          dsimp only at h1 h2
          rw [List.getElem?_map, List.getElem?_eq_getElem ix] at h1
          rw [List.getElem?_map, List.getElem?_drop, Nat.add_comm 1 i, List.getElem?_eq_getElem iy] at h2
          cases h1
          cases h2
          have la : ltAt xs i = ltS xs[i] xs[i + 1] := by
            unfold ltAt
            rw [List.getElem?_eq_getElem ix, List.getElem?_eq_getElem iy]
          have hR2 := hR _ (Same.new (o := HO.tup [V.str xs[i], V.str xs[i + 1]]) hT)
          rw [la] at hR2
          clear hR la
          walk_at "rd"
          exact ⟨_, SqT.of upd_same, rfl, _, _, rfl, _, _, rfl, rfl, _, rfl, _, rfl, hR2⟩
        · intro l2 H4 hl4 e4 hl5
          rw [ld] at hl5
          have em : (List.range (xs.length - 1)).map (fun i => V.bl (ltAt xs i)) = ((List.range (xs.length - 1)).map (ltAt xs)).map V.bl := by rw [List.map_map]; rfl
          rw [em] at hl5
          have q2 := q H4 (e2.trans e4)
          refine ⟨l2, rfl, _, hl5, ?_⟩
          rw [List.all_map]
          rw [← asc_range] at q2
          exact q2
end
section
variable {P : Program} {w : World} {K : PySem.W.Frag} {mg : Str → Option Value} {base : Heap} {Z : Ad}
theorem spelt_ok {x : Str} (h : spelt (.str x) = true) : PyData.strOk x = true := by
  have h : ((TL.tl x).all fun c => decide (c ∈ TL.tl alpha)) = true := h
  have e : TL.tl alpha = [97, 98, 99, 100, 101, 102, 103, 104, 105, 106, 107, 108, 109, 110, 111, 112, 113, 114, 115, 116, 117, 118, 119, 120, 121, 122] := by rfl
  rw [List.all_eq_true] at h
  unfold PyData.strOk
  rw [← Array.all_toList, List.all_eq_true]
  intro c hc
  have h2 := of_decide_eq_true (h c hc)
  rw [e] at h2
  simp only [List.mem_cons, List.not_mem_nil, or_false] at h2
  exact decide_eq_true (by omega)
theorem name_ok {x : Str} (h : isName (.str x) = true) : PyData.strOk x = true := spelt_ok (Bool.and_eq_true _ _ ▸ h).1
theorem letter_ok {x : Str} (h : isLetter (.str x) = true) : PyData.strOk x = true := spelt_ok (Bool.and_eq_true _ _ ▸ h).1
theorem shaped_strs {xs : List Str} (h : ∀ x ∈ xs, PyData.strOk x = true) : SeqAt.shaped (.tuple (xs.map .str)) = true := by
  unfold SeqAt.shaped
  simp only [PyData.canLay0, PyData.canLayAll0, PyData.depth, PyData.depthAll, lays xs h, deps, Bool.and_true, Bool.true_and, Bool.and_self]
  try decide
def withinB : V → Int → Int → Bool
  | .int i, lo, hi => decide (lo ≤ i) && decide (i ≤ hi)
  | _, _, _ => false
def spWithin (K : PySem.W.Frag) : Sp := fun vs H Q _ => ∃ (v : V) (t : String) (lo hi : Int), vs = [v, .int lo, .int hi] ∧ Pl K H v t ∧ Q (.bl (isInt v && withinB v lo hi)) H
theorem ok_is_within (D : Ds K mg Z) (B : Bt mg) (C0 : Cs mg) : FnOk P w K mg base CX0 2 Z.a_is_within Z.d_is_within P_is_within (spWithin K) := by
  have G_is_integer := ok_is_integer (P := P) (w := w) (base := base) D B C0
  obtain ⟨⟨t_LIMIT, c_LIMIT⟩, ⟨t_ALPHABET, c_ALPHABET⟩, ⟨t_MAX_LETTERS, c_MAX_LETTERS⟩, ⟨t_MAX_STATES, c_MAX_STATES⟩, ⟨t_MAX_PRICE, c_MAX_PRICE⟩, ⟨t_FIRST, c_FIRST⟩, ⟨t_LAST, c_LAST⟩, ⟨t_ARC, c_ARC⟩⟩ := C0
  refine D.is_within.F.ok sc_is_within (fun vs H Q E h => ?_) (fun cdv A outer s H vs Q E hr h => ?_)
  · obtain ⟨v, t, lo, hi, rfl, _⟩ := h
    rfl
  · obtain ⟨v, t, lo, hi, rfl, pl, q⟩ := h
    refine ⟨_, (pss_one (ps_ret (pe_and (pe_df D.is_integer G_is_integer (hr.mono (by decide)) (by rfl) (pa_cons (pv 0) pa_nil)) (pe_one (pe_chain op_le op_le (pv 1) (pv 0) (pv 2)))))), ?_⟩
    walk_at "rd"
    refine ⟨v, t, rfl, pl, ?_⟩
    cases hI : isInt v with
    | false =>
      rw [hI, Bool.false_and] at q
      walk_at "rd"
    | true =>
      rw [hI, Bool.true_and] at q
      cases v with
      | int i =>
        clear hI
        rw [show withinB (.int i) lo hi = (decide (lo ≤ i) && decide (i ≤ hi)) from rfl] at q
        by_cases h1 : lo ≤ i
        · rw [decide_eq_true h1, Bool.true_and] at q
          walk_at "rd"
        · rw [decide_eq_false h1, Bool.false_and] at q
          walk_at "rd"
      | _ => cases hI
def priceB (v : V) : Bool := isInt v && withinB v 0 9
def spPrice (K : PySem.W.Frag) : Sp := fun vs H Q _ => ∃ (v : V) (t : String), vs = [v] ∧ Pl K H v t ∧ Q (.bl (priceB v)) H
theorem ok_is_price (D : Ds K mg Z) (B : Bt mg) (C0 : Cs mg) : FnOk P w K mg base CX0 3 Z.a_is_price Z.d_is_price P_is_price (spPrice K) := by
  have G_is_within := ok_is_within (P := P) (w := w) (base := base) D B C0
  obtain ⟨⟨t_LIMIT, c_LIMIT⟩, ⟨t_ALPHABET, c_ALPHABET⟩, ⟨t_MAX_LETTERS, c_MAX_LETTERS⟩, ⟨t_MAX_STATES, c_MAX_STATES⟩, ⟨t_MAX_PRICE, c_MAX_PRICE⟩, ⟨t_FIRST, c_FIRST⟩, ⟨t_LAST, c_LAST⟩, ⟨t_ARC, c_ARC⟩⟩ := C0
  refine D.is_price.F.ok sc_is_price (fun vs H Q E h => ?_) (fun cdv A outer s H vs Q E hr h => ?_)
  · obtain ⟨v, t, rfl, _⟩ := h
    rfl
  · obtain ⟨v, t, rfl, pl, q⟩ := h
    refine ⟨_, (pss_one (ps_ret (pe_df D.is_within G_is_within (hr.mono (by decide)) (by rfl) (pa_cons (pv 0) (pa_cons pe_int (pa_cons (pe_glob (v := .int _) (by rfl) c_MAX_PRICE ⟨_, rfl⟩) pa_nil)))))), ?_⟩
    walk_at "rd"
    exact ⟨v, t, 0, 9, rfl, pl, q⟩
def placeB (a b c : Str) : Bool := isName (.str a) && (isLetter (.str b) && isName (.str c))
def spPlace : Sp := fun vs H Q _ => ∃ (p : Addr) (a b c : Str), vs = [.ref p] ∧ H p = some (.tup [.str a, .str b, .str c]) ∧ a.length ≤ 1000000 ∧ b.length ≤ 1000000 ∧ c.length ≤ 1000000 ∧ ∀ H', Same H H' → Q (.bl (placeB a b c)) H'
theorem ok_is_place (D : Ds K mg Z) (B : Bt mg) (C0 : Cs mg) : FnOk P w K mg base CX0 3 Z.a_is_place Z.d_is_place P_is_place spPlace := by
  have G_is_name := ok_is_name (P := P) (w := w) (base := base) D B C0
  have G_is_letter := ok_is_letter (P := P) (w := w) (base := base) D B C0
  obtain ⟨⟨t_LIMIT, c_LIMIT⟩, ⟨t_ALPHABET, c_ALPHABET⟩, ⟨t_MAX_LETTERS, c_MAX_LETTERS⟩, ⟨t_MAX_STATES, c_MAX_STATES⟩, ⟨t_MAX_PRICE, c_MAX_PRICE⟩, ⟨t_FIRST, c_FIRST⟩, ⟨t_LAST, c_LAST⟩, ⟨t_ARC, c_ARC⟩⟩ := C0
  refine D.is_place.F.ok sc_is_place (fun vs H Q E h => ?_) (fun cdv A outer s H vs Q E hr h => ?_)
  · obtain ⟨p, a, b, c, rfl, _⟩ := h
    rfl
  · obtain ⟨p, a, b, c, rfl, hp, la, lb, lc, q⟩ := h
    refine ⟨_, (pss_cons (ps_if (PW.pt (pw_or (pt_not (pt_val (pe_callB (call_isiK' (K := K) rfl) (by rfl) B.isinstance (by decide +kernel) (pa_cons (pv 0) (pa_cons (pe_bltn (v := .ty "tuple") (by rfl) B.tuple (by decide +kernel) rfl) pa_nil))))) (pw_or1 (pt_cmpR op_ne (pe_callB call_lenT (by rfl) B.len (by decide +kernel) (pa_cons (pv 0) pa_nil)) pe_int (nomark _))))) (pss_one (ps_ret pe_bl)) pss_nil)
    (pss_one (ps_ret (pe_and (pe_df D.is_name G_is_name (hr.mono (by decide)) (by rfl) (pa_cons (pe_ix ix_TM (pv 0) pe_int (fun _ _ => rfl)) pa_nil)) (pe_and (pe_df D.is_letter G_is_letter (hr.mono (by decide)) (by rfl) (pa_cons (pe_ix ix_TM (pv 0) pe_int (fun _ _ => rfl)) pa_nil)) (pe_one (pe_df D.is_name G_is_name (hr.mono (by decide)) (by rfl) (pa_cons (pe_ix ix_TM (pv 0) pe_int (fun _ _ => rfl)) pa_nil)))))))), ?_⟩
    walk_at "rd"
    refine rd_isi (.tup hp) (isi_tuple (K := K) (H := H) (.tup hp)) ?_
    rw [show isiB "tuple" "tuple" = true from rfl]
    walk_at "rd"
    walk_at "gg"
    rw [if_neg (by simp)]
    walk_at "gg"
    refine ⟨_, rfl, okv_s la, fun H1 e1 => ?_⟩
    have hp1 := e1 _ _ hp
    unfold placeB at q
    cases h1 : isName (.str a) with
    | false =>
      rw [h1, Bool.false_and] at q
      have q2 := q H1 e1
      walk_at "rd"
    | true =>
      rw [h1, Bool.true_and] at q
      clear h1
      walk_at "rd"
      refine ⟨_, rfl, okv_s lb, fun H2 e2 => ?_⟩
      have hp2 := e2 _ _ hp1
      cases h2 : isLetter (.str b) with
      | false =>
        rw [h2, Bool.false_and] at q
        have q2 := q H2 (e1.trans e2)
        walk_at "rd"
      | true =>
        rw [h2, Bool.true_and] at q
        clear h2
        walk_at "rd"
        exact ⟨_, rfl, okv_s lc, fun H3 e3 => q H3 ((e1.trans e2).trans e3)⟩
theorem ok_are_ends (D : Ds K mg Z) (B : Bt mg) (C0 : Cs mg) : FnOk P w K mg base CX0 4 Z.a_are_ends Z.d_are_ends P_are_ends (spNames K) := by
  have G_are_names := ok_are_names (P := P) (w := w) (base := base) D B C0
  obtain ⟨⟨t_LIMIT, c_LIMIT⟩, ⟨t_ALPHABET, c_ALPHABET⟩, ⟨t_MAX_LETTERS, c_MAX_LETTERS⟩, ⟨t_MAX_STATES, c_MAX_STATES⟩, ⟨t_MAX_PRICE, c_MAX_PRICE⟩, ⟨t_FIRST, c_FIRST⟩, ⟨t_LAST, c_LAST⟩, ⟨t_ARC, c_ARC⟩⟩ := C0
  refine D.are_ends.F.ok sc_are_ends (fun vs H Q E h => ?_) (fun cdv A outer s H vs Q E hr h => ?_)
  · obtain ⟨p, xs, rfl, _⟩ := h
    rfl
  · obtain ⟨p, xs, rfl, hp, h0, h1, hx, q⟩ := h
    refine ⟨_, (pss_one (ps_ret (pe_and (pe_df D.are_names G_are_names (hr.mono (by decide)) (by rfl) (pa_cons (pv 0) pa_nil)) (pe_one (pe_cmpR (op_neK (K := K) rfl hr.units) (pv 0) (pe_tup pa_nil) (nomark _)))))), ?_⟩
    walk_at "rd"
    refine ⟨p, xs, rfl, hp, h0, h1, hx, fun H1 e1 => ?_⟩
    cases hn : namesB xs with
    | false =>
      rw [hn] at q
      have q2 := q H1 e1
      walk_at "rd"
    | true =>
      rw [hn] at q
      have hp1 := e1 _ _ hp
      walk_at "rd"
      refine ⟨Nat.zero_le _, fun p2 hp2 => ?_⟩
      have e2 := Same.new (o := HO.tup []) hp2
      have q2 := q _ (e1.trans e2)
      have ok : ∀ x ∈ xs, PyData.strOk x = true := fun x hx => by
        unfold namesB at hn
        rw [Bool.and_eq_true, List.all_eq_true] at hn
        exact name_ok (hn.1 x hx)
      refine ⟨.tuple (xs.map .str), .tuple [], .tup (SqT.of (e2 _ _ hp1)) (dps xs), .tup (SqT.of upd_same) .nil, shaped_strs ok, by decide +kernel, ?_⟩
      obtain ⟨x, r, rfl⟩ : ∃ x r, xs = x :: r := by
        cases xs with
        | nil => exact absurd h0 (Nat.lt_irrefl _)
        | cons x r => exact ⟨x, r, rfl⟩
      exact q2
end
section
variable {P : Program} {w : World} {K : PySem.W.Frag} {mg : Str → Option Value} {base : Heap} {Z : Ad}
/-! ### the states of arcs -/
abbrev Arc := Str × Str × Str
def key3 (k : Arc) : List Key := [.inr k.1, .inr k.2.1, .inr k.2.2]
def encA (m : List (Arc × Int)) : List (List Key × V) := m.map fun a => (key3 a.1, .int a.2)
def innA (m : List (Arc × Int)) : List Str := m.flatMap fun a => [a.1.1, a.1.2.2]
theorem lock_same {H H' : Hp} {d : Addr} {u : HO} {od : Obj} (hd : H d = some u) (e : Same (upd H d (.frz od u)) H') : Same H (upd H' d u) := fun b o hb => by
  by_cases hbd : b = d
  · subst hbd
    rw [upd_same, ← hd]
    exact hb
  · rw [upd_ne hbd]
    refine e b o ?_
    rw [upd_ne hbd]
    exact hb
def endsAt (m : List (Arc × Int)) (i : Nat) : List V := match m[i]? with
  | some a => [.str a.1.1, .str a.1.2.2]
  | none => []
theorem cat_len (m : List (Arc × Int)) (i : Nat) : (catN (endsAt m) i).length ≤ 2 * i := by
  induction i with
  | zero => exact Nat.le_refl _
  | succ i ih =>
    rw [catN_succ, List.length_append]
    have : (endsAt m i).length ≤ 2 := by
      unfold endsAt
      cases m[i]? with
      | none => exact Nat.zero_le _
      | some a => exact Nat.le_refl _
    omega
theorem cat_take (m : List (Arc × Int)) : ∀ k, k ≤ m.length → catN (endsAt m) k = (innA (m.take k)).map V.str
  | 0, _ => rfl
  | k + 1, hk => by
    have e := List.getElem?_eq_getElem (show k < m.length by omega)
    rw [catN_succ, cat_take m k (by omega), List.take_add_one, e]
    unfold innA endsAt
    rw [List.flatMap_append, List.map_append, e]
    rfl
theorem cat_all (m : List (Arc × Int)) : catN (endsAt m) m.length = (innA m).map V.str := by
  rw [cat_take m _ (Nat.le_refl _), List.take_length]
theorem inn_len : ∀ m : List (Arc × Int), (innA m).length = 2 * m.length
  | [] => rfl
  | a :: m => by
    show ([a.1.1, a.1.2.2] ++ innA m).length = _
    rw [List.length_append, inn_len m]
    show 2 + 2 * m.length = 2 * (m.length + 1)
    omega
def spStates : Sp := fun vs H Q _ => ∃ (f l d : Addr) (fs ls : List Str) (m : List (Arc × Int)), vs = [.ref f, .ref l, .ref d] ∧ H f = some (.tup (fs.map V.str)) ∧ H l = some (.tup (ls.map V.str)) ∧ H d = some (.dT (encA m)) ∧ fs.length + ls.length + 2 * m.length ≤ 4000 ∧
  ∀ ys p H', Same H H' → Sorted ys (fs ++ ls ++ innA m) → H' p = some (.tup (ys.map V.str)) → Q (.ref p) H'
theorem ok_states_of (D : Ds K mg Z) (B : Bt mg) (C0 : Cs mg) : FnOk P w K mg base CX0 1 Z.a_states_of Z.d_states_of P_states_of spStates := by
  obtain ⟨⟨t_LIMIT, c_LIMIT⟩, ⟨t_ALPHABET, c_ALPHABET⟩, ⟨t_MAX_LETTERS, c_MAX_LETTERS⟩, ⟨t_MAX_STATES, c_MAX_STATES⟩, ⟨t_MAX_PRICE, c_MAX_PRICE⟩, ⟨t_FIRST, c_FIRST⟩, ⟨t_LAST, c_LAST⟩, ⟨t_ARC, c_ARC⟩⟩ := C0
  refine D.states_of.F.ok sc_states_of (fun vs H Q E h => ?_) (fun cdv A outer s H vs Q E hr h => ?_)
  · obtain ⟨f, l, d, fs, ls, m, rfl, _⟩ := h
    rfl
  · obtain ⟨f, l, d, fs, ls, m, rfl, hf, hl, hd, hz, q⟩ := h
    refine ⟨_, (pss_cons (ps_lock (ps_setLc2 (i := 3) (own := [("state", 4), ("letter", 5), ("later", 6), ("end", 7)]) (vs1 := [7]) (g1 := gName 7) rfl sc_states_of.nd rfl rfl (sw_true rfl rfl rfl (by decide +kernel)) (pi_keys (pv 2)) (blkOk_by (N := N_states_of) (sc := defScope s_states_of) (by decide +kernel)) (by decide) (fun _ _ _ _ _ => (pg_tupK (K := K) (n := 3) rfl rfl (pgs_cons (pg_name (i := 4) sc_states_of.nd rfl (Or.inl rfl)) (pgs_cons (pg_name (i := 5) sc_states_of.nd rfl (Or.inl rfl)) (pgs_cons (pg_name (i := 6) sc_states_of.nd rfl (Or.inl rfl)) pgs_nil))))) (fun _ _ _ _ _ => pts_nil) (fun _ _ _ _ _ => (pi_tupK (K := K) rfl (pe_tup (pa_cons (pv 4) (pa_cons (pv 6) pa_nil))))) (fun _ _ _ _ _ => (pg_name (i := 7) sc_states_of.nd rfl (Or.inl rfl))) (fun _ _ _ _ _ => pts_nil) (fun _ _ _ _ _ => (pv 7))))
    (pss_one (ps_ret (pe_callTy call_tupM (by rfl) B.tuple (by decide +kernel) (pa_cons (pe_callB (cr_sortT rfl) (by rfl) B.sorted (by decide +kernel) (pa_cons (pe_callTy (cr_setT rfl) (by rfl) B.set (by decide +kernel) (pa_cons (pe_lst (pa_starK (K := K) rfl (pv 0) (pa_starK (K := K) rfl (pv 1) (pa_starK (K := K) rfl (pv 3) pa_nil)))) pa_nil)) pa_nil)) pa_nil))))), ?_⟩
    walk_at "rd"
    refine ⟨d, _, hd, trivial, fun od => ?_⟩
    walk_at "rd"
    refine ⟨od, .inr ⟨_, rfl, ?_⟩⟩
    have nfd : f ≠ d := fun e => by rw [e, hd] at hf; cases hf
    have nld : l ≠ d := fun e => by rw [e, hd] at hl; cases hl
    have hd1 : upd H d (HO.frz od (HO.dT (encA m))) d = some (.frz od (.dT (encA m))) := upd_same
    refine lc2_cat (walk_keysT (d := d) (o := od) (kvs := encA m)) (endsAt m) (fun H1 e1 => e1 _ _ hd1) ?_ ?_
    · intro i x H2 H3 De Nx hi hDe sm hacc y fin
      obtain ⟨rfl, k, v, p, hkv, rfl, hp⟩ := y
      have hm : i < m.length := by
        have : (encA m).length = m.length := List.length_map ..
        omega
      have ek : (encA m)[i]? = some (key3 m[i].1, .int m[i].2) := by
        unfold encA
        rw [List.getElem?_map, List.getElem?_eq_getElem hm]
        rfl
      rw [ek] at hkv
      cases hkv
      have em : endsAt m i = [.str m[i].1.1, .str m[i].1.2.2] := by
        unfold endsAt
        rw [List.getElem?_eq_getElem hm]
      rw [em] at fin
      have cl := cat_len m i
      generalize m[i] = a at *
      walk_at "rd"
      refine ⟨_, SqT.of hp, rfl, _, _, rfl, _, _, rfl, _, _, rfl, rfl, by decide, fun T hT => ⟨⟨_, SqT.of upd_same⟩, ?_⟩⟩
      have nTD : De ≠ T := ne_of_none hacc hT
      refine inner_cat (walk_tup (xs := [.str a.1.1, .str a.1.2.2])) id (by rw [upd_ne nTD]; exact hacc) ?_ (fun H' sb => SqT.of (sb _ _ nTD.symm upd_same)) (fun _ => rfl) (fun y _ H' _ R hR => ⟨y, rfl, hR⟩) (fun H' sb hD' => fin H' (Sb.same (sm.trans (Same.new hT)) hDe sb) ?_)
      · show _ + 2 ≤ _
        omega
      · rw [hD', List.map_id]
    · intro p H2 hp sm hp2
      have le : (encA m).length = m.length := List.length_map ..
      rw [le, cat_all] at hp2
      refine ⟨sm _ _ hd1, ?_⟩
      have npd : p ≠ d := fun e => by rw [e, upd_same] at hp; cases hp
      have sm2 := lock_same hd sm
      have hp3 : upd H2 d (HO.dT (encA m)) p = some (.lst ((innA m).map V.str)) := by rw [upd_ne npd]; exact hp2
      have hf3 := sm2 _ _ hf
      have hl3 := sm2 _ _ hl
      generalize upd H2 d (HO.dT (encA m)) = H3 at sm2 hp3 hf3 hl3 ⊢
      clear hp2 hp sm hd1 hd
      have li := inn_len m
      walk_at "gg"
      have ec : fs.map V.str ++ (ls.map V.str ++ (innA m).map V.str) = (fs ++ ls ++ innA m).map V.str := by rw [List.map_append, List.map_append, List.append_assoc]
      have lc : (fs ++ ls ++ innA m).length ≤ 4000 := by
        rw [List.length_append, List.length_append]
        omega
      refine ⟨_, .inl (SqT.of hf3), _, .inl (SqT.of hl3), _, .inr (SqL.of hp3), ?_, fun p1 hp1 => ?_⟩
      · rw [ec, List.length_map]
        exact Nat.le_trans lc (by decide)
      · rw [ec]
        refine ⟨p1, fs ++ ls ++ innA m, rfl, upd_same, Nat.lt_of_le_of_lt (Nat.succ_le_succ lc) (by decide), fun s hs => ⟨s, _, rfl, upd_same, fun ys p2 so hp2 => ⟨p2, rfl, _, upd_same, fun t ht => ?_⟩⟩⟩
        exact q ys t _ (((((sm2.trans (Same.new hp1)).trans (Same.new hs)).trans (Same.new hp2)).trans (Same.new ht))) so upd_same
end
section
variable {P : Program} {w : World} {K : PySem.W.Frag} {mg : Str → Option Value} {base : Heap} {Z : Ad}
/-! ### the parts of a machine -/
structure Gm (fs ls : List Str) (m : List (Arc × Int)) : Prop where
  f0 : 0 < fs.length
  l0 : 0 < ls.length
  fn : namesB fs = true
  ln : namesB ls = true
  an : ∀ a ∈ m, placeB a.1.1 a.1.2.1 a.1.2.2 = true ∧ priceB (.int a.2) = true
  nd : (m.map (·.1)).Nodup
  small : fs.length + ls.length + 2 * m.length ≤ 4000
  few : ∀ ys, Sorted ys (fs ++ ls ++ innA m) → ys.length ≤ 24
theorem key3_inj {a b : Arc} (h : key3 a = key3 b) : a = b := by
  unfold key3 at h
  simp only [List.cons.injEq, Sum.inr.injEq, and_true] at h
  obtain ⟨h1, h2, h3⟩ := h
  exact Prod.ext h1 (Prod.ext h2 h3)
theorem val_at : ∀ {m : List (Arc × Int)}, (m.map (·.1)).Nodup → ∀ a ∈ m, valV (encA m) (key3 a.1) = some (.int a.2)
  | b :: m, nd, a, ha => by
    rw [List.map_cons, List.nodup_cons] at nd
    rcases List.mem_cons.mp ha with rfl | ha
    · exact valV_pos rfl
    · show valV ((key3 b.1, V.int b.2) :: encA m) _ = _
      rw [valV_neg]
      · exact val_at nd.2 a ha
      · intro e
        have e' : b.1 = a.1 := key3_inj e
        exact nd.1 (by rw [e']; exact List.mem_map.mpr ⟨a, ha, rfl⟩)
theorem name_len {x : Str} (h : isName (.str x) = true) : x.length ≤ 8 := by
  unfold isName at h
  rw [Bool.and_eq_true, Bool.and_eq_true, decide_eq_true_eq, decide_eq_true_eq] at h
  exact h.2.2
theorem letter_len {x : Str} (h : isLetter (.str x) = true) : x.length = 1 := by
  unfold isLetter at h
  rw [Bool.and_eq_true, decide_eq_true_eq] at h
  exact h.2
theorem place_of {a b c : Str} (h : placeB a b c = true) : isName (.str a) = true ∧ isLetter (.str b) = true ∧ isName (.str c) = true := by
  unfold placeB at h
  rw [Bool.and_eq_true, Bool.and_eq_true] at h
  exact h
theorem names_len {xs : List Str} (h : namesB xs = true) : ∀ x ∈ xs, x.length ≤ 1000000 := fun x hx => by
  unfold namesB at h
  rw [Bool.and_eq_true, List.all_eq_true] at h
  exact Nat.le_trans (name_len (h.1 x hx)) (by decide)
def spParts : Sp := fun vs H Q _ => ∃ (f l d : Addr) (fs ls : List Str) (m : List (Arc × Int)), vs = [.ref f, .ref l, .ref d] ∧ H f = some (.tup (fs.map V.str)) ∧ H l = some (.tup (ls.map V.str)) ∧ H d = some (.dT (encA m)) ∧ Gm fs ls m ∧ ∀ H', Same H H' → Q (.bl true) H'
theorem ok_are_parts (D : Ds K mg Z) (B : Bt mg) (C0 : Cs mg) : FnOk P w K mg base CX0 5 Z.a_are_parts Z.d_are_parts P_are_parts spParts := by
  have G_are_ends := ok_are_ends (P := P) (w := w) (base := base) D B C0
  have G_is_place := ok_is_place (P := P) (w := w) (base := base) D B C0
  have G_is_price := ok_is_price (P := P) (w := w) (base := base) D B C0
  have G_states_of := ok_states_of (P := P) (w := w) (base := base) D B C0
  obtain ⟨⟨t_LIMIT, c_LIMIT⟩, ⟨t_ALPHABET, c_ALPHABET⟩, ⟨t_MAX_LETTERS, c_MAX_LETTERS⟩, ⟨t_MAX_STATES, c_MAX_STATES⟩, ⟨t_MAX_PRICE, c_MAX_PRICE⟩, ⟨t_FIRST, c_FIRST⟩, ⟨t_LAST, c_LAST⟩, ⟨t_ARC, c_ARC⟩⟩ := C0
  refine D.are_parts.F.ok sc_are_parts (fun vs H Q E h => ?_) (fun cdv A outer s H vs Q E hr h => ?_)
  · obtain ⟨f, l, d, fs, ls, m, rfl, _⟩ := h
    rfl
  · obtain ⟨f, l, d, fs, ls, m, rfl, hf, hl, hd, gm, q⟩ := h
    refine ⟨_, (pss_cons (ps_if (PW.pt (pw_or (pt_not (pt_val (pe_df D.are_ends G_are_ends (hr.mono (by decide)) (by rfl) (pa_cons (pv 0) pa_nil)))) (pw_or (pt_not (pt_val (pe_df D.are_ends G_are_ends (hr.mono (by decide)) (by rfl) (pa_cons (pv 1) pa_nil)))) (pw_or1 (pt_not (pt_val (pe_callB (call_isiK' (K := K) rfl) (by rfl) B.isinstance (by decide +kernel) (pa_cons (pv 2) (pa_cons (pe_bltn (v := .ty "dict") (by rfl) B.dict (by decide +kernel) rfl) pa_nil))))))))) (pss_one (ps_ret pe_bl)) pss_nil)
    (pss_cons (ps_if (pt_not (pt_val (pe_callB (cr_allM rfl) (by rfl) B.all (by decide +kernel) (pa_cons (pe_lock (pe_lc (own := [("place", 3)]) (g := gName 3) rfl sc_are_parts.nd (pi_keys (pv 2)) (blkOk_by (N := N_are_parts) (sc := defScope s_are_parts) (by decide +kernel)) (fun _ _ _ _ _ => (pg_name (i := 3) sc_are_parts.nd rfl (Or.inl rfl))) (fun _ _ _ _ _ => pts_nil) (fun _ _ _ _ _ => (pe_and (pe_df D.is_place G_is_place (hr.mono (by decide)) (by rfl) (pa_cons (pv 3) pa_nil)) (pe_one (pe_df D.is_price G_is_price (hr.mono (by decide)) (by rfl) (pa_cons (pe_dget (hu_of hr) (pv 2) (pv 3) (fun _ _ => rfl)) pa_nil))))))) pa_nil)))) (pss_one (ps_ret pe_bl)) pss_nil)
    (pss_one (ps_ret (pe_cmpR op_le (pe_callB call_lenT (by rfl) B.len (by decide +kernel) (pa_cons (pe_df D.states_of G_states_of (hr.mono (by decide)) (by rfl) (pa_cons (pv 0) (pa_cons (pv 1) (pa_cons (pv 2) pa_nil)))) pa_nil)) (pe_glob (v := .int _) (by rfl) c_MAX_STATES ⟨_, rfl⟩) (nomark _)))))), ?_⟩
    have sm := gm.small
    walk_at "rd"
    refine ⟨f, fs, rfl, hf, gm.f0, by omega, names_len gm.fn, fun H1 e1 => ?_⟩
    rw [gm.fn]
    walk_at "rd"
    refine ⟨l, ls, rfl, e1 _ _ hl, gm.l0, by omega, names_len gm.ln, fun H2 e2 => ?_⟩
    rw [gm.ln]
    replace e2 := e1.trans e2
    replace hf := e2 _ _ hf
    replace hl := e2 _ _ hl
    replace hd := e2 _ _ hd
    walk_at "rd"
    refine ⟨.ref d, .ty "dict", .type "dict", .type "dict", true, rfl, .ty "dict", .base (.dT hd), kit_ty (by decide +kernel), ?_⟩
    walk_at "rd"
    walk_at "gg"
    refine ⟨d, _, hd, trivial, fun od => ?_⟩
    walk_at "rd"
    refine ⟨od, .inr ⟨_, rfl, ?_⟩⟩
    have nfd : f ≠ d := fun e => by rw [e, hd] at hf; cases hf
    have nld : l ≠ d := fun e => by rw [e, hd] at hl; cases hl
    have hd1 : upd H2 d (HO.frz od (HO.dT (encA m))) d = some (.frz od (.dT (encA m))) := upd_same
    have le : (encA m).length = m.length := List.length_map ..
    refine lc_val (walk_keysT (d := d) (o := od) (kvs := encA m)) (fun _ => .bl true) (fun H1 e1 => e1 _ _ hd1) (by omega) ?_ ?_
    · intro i x H3 H4 hi e3 y R hR
      obtain ⟨rfl, k, v, p, hkv, rfl, hp⟩ := y
      have hm : i < m.length := by omega
      have ek : (encA m)[i]? = some (key3 m[i].1, .int m[i].2) := by
        unfold encA
        rw [List.getElem?_map, List.getElem?_eq_getElem hm]
        rfl
      rw [ek] at hkv
      cases hkv
      have hmem : m[i] ∈ m := List.getElem_mem hm
      have va := val_at gm.nd m[i] hmem
      obtain ⟨pl, pr⟩ := gm.an m[i] hmem
      generalize m[i] = a at *
      obtain ⟨p1, p2, p3⟩ := place_of pl
      have hd3 := e3 _ _ hd1
      walk_at "rd"
      refine ⟨p, a.1.1, a.1.2.1, a.1.2.2, rfl, hp, Nat.le_trans (name_len p1) (by decide), by rw [letter_len p2]; decide, Nat.le_trans (name_len p3) (by decide), fun H5 e5 => ?_⟩
      rw [pl]
      have hd5 := e5 _ _ hd3
      have hp5 := e5 _ _ hp
      clear hd3 hp
      walk_at "rd"
      refine ⟨_, .inr ⟨encA m, key3 a.1, p, .inr ⟨od, hd5⟩, rfl, hp5, va.symm⟩, _, _, rfl, .int _, ?_⟩
      rw [pr]
      exact hR H5 e5
    · intro p H3 hp e3 hp2
      have npd : p ≠ d := fun e => by rw [e, upd_same] at hp; cases hp
      have sm2 := lock_same hd e3
      have er : (List.range (encA m).length).map (fun _ => V.bl true) = (List.replicate m.length true).map V.bl := by
        rw [le, List.map_const', List.map_replicate, List.length_range]
      have ea : (List.replicate m.length true).all id = true := by rw [List.all_replicate]; simp
      rw [er] at hp2
      refine ⟨e3 _ _ hd1, ?_⟩
      have hp3 : upd H3 d (HO.dT (encA m)) p = some (.lst ((List.replicate m.length true).map V.bl)) := by rw [upd_ne npd]; exact hp2
      replace hf := sm2 _ _ hf
      replace hl := sm2 _ _ hl
      replace hd := sm2 _ _ hd
      replace e2 := e2.trans sm2
      generalize upd H3 d (HO.dT (encA m)) = H4 at sm2 hp3 hf hl hd e2 ⊢
      clear hp2 hp hd1 er e3 sm2
      refine ⟨p, rfl, _, hp3, ?_⟩
      rw [ea]
      walk_at "rd"
      walk_at "gg"
      refine ⟨f, l, d, fs, ls, m, rfl, hf, hl, hd, gm.small, fun ys p5 H5 e5 so h5 => ?_⟩
      have fw := gm.few ys so
      have q5 := q H5 (e2.trans e5)
      have ly : (ys.map V.str).length = ys.length := List.length_map ..
      walk_at "rd"
      rw [decide_eq_true (by omega)]
      exact q5
end
section
variable {P : Program} {w : World} {K : PySem.W.Frag} {mg : Str → Option Value} {base : Heap} {Z : Ad}
/-! ### steps -/
def stepsL (m : List (Arc × Int)) (s l : Str) : List (Str × Int) := (m.filter fun a => decide (a.1.1 = s) && decide (a.1.2.1 = l)).map fun a => (a.1.2.2, a.2)
theorem stepsL_snoc (m : List (Arc × Int)) (a : Arc × Int) (s l : Str) : stepsL (m ++ [a]) s l = stepsL m s l ++ (if a.1.1 = s ∧ a.1.2.1 = l then [(a.1.2.2, a.2)] else []) := by
  unfold stepsL
  rw [List.filter_append, List.map_append]
  congr 1
  by_cases h : a.1.1 = s ∧ a.1.2.1 = l
  · rw [if_pos h, List.filter_cons_of_pos (by simp [h.1, h.2])]
    rfl
  · rw [if_neg h, List.filter_cons_of_neg (by simp; exact fun e => fun e2 => h ⟨e, e2⟩)]
    rfl
/-- tuples stay -/
def Tk (H H' : Hp) : Prop := ∀ b ys, H b = some (.tup ys) → H' b = some (.tup ys)
theorem Tk.of {H H' : Hp} (e : Same H H') : Tk H H' := fun b ys h => e _ _ h
theorem Tk.trans {A B C : Hp} (a : Tk A B) (b : Tk B C) : Tk A C := fun c ys h => b c ys (a c ys h)
theorem Tk.put {H : Hp} {d : Addr} {ws : List (List Key × V)} {o : HO} (h : H d = some (.dT ws)) : Tk H (upd H d o) := fun b ys e => by
  rw [upd_ne (fun z => by rw [z, h] at e; cases e)]
  exact e
def Stp (H : Hp) (xs : List (Str × Int)) : Option V → Prop
  | none => xs = []
  | some v => ∃ t rs, v = .ref t ∧ H t = some (.tup (rs.map V.ref)) ∧ Paired (fun (x : Str × Int) r => H r = some (.tup [.str x.1, .int x.2])) xs rs
theorem paired_mono {α β : Type} {F G : α → β → Prop} (h : ∀ a b, F a b → G a b) : ∀ {l : List α} {m : List β}, Paired F l m → Paired G l m
  | _, _, .nil => .nil
  | _, _, .cons a t => .cons (h _ _ a) (paired_mono h t)
theorem paired_snoc {α β : Type} {F : α → β → Prop} {a : α} {b : β} (h : F a b) : ∀ {l : List α} {m : List β}, Paired F l m → Paired F (l ++ [a]) (m ++ [b])
  | _, _, .nil => .cons h .nil
  | _, _, .cons x t => .cons x (paired_snoc h t)
theorem Stp.mono {H H' : Hp} {xs : List (Str × Int)} {o : Option V} (k : Tk H H') (h : Stp H xs o) : Stp H' xs o := by
  cases o with
  | none => exact h
  | some v =>
    obtain ⟨t, rs, h1, h2, h3⟩ := h
    exact ⟨t, rs, h1, k _ _ h2, paired_mono (fun _ _ e => k _ _ e) h3⟩
def StO (H : Hp) (ws : List (List Key × V)) (m : List (Arc × Int)) : Prop := ∀ s l, Stp H (stepsL m s l) (valV ws [.inr s, .inr l])
theorem StO.mono {H H' : Hp} {ws : List (List Key × V)} {m : List (Arc × Int)} (k : Tk H H') (h : StO H ws m) : StO H' ws m := fun s l => (h s l).mono k
def spSteps : Sp := fun vs H Q _ => ∃ (d : Addr) (m : List (Arc × Int)), vs = [.ref d] ∧ H d = some (.dT (encA m)) ∧ m.length ≤ 2000 ∧ ∀ p ws H', Same H H' → H' p = some (.dT ws) → StO H' ws m → Q (.ref p) H'
theorem ok_steps_in (D : Ds K mg Z) (B : Bt mg) (C0 : Cs mg) : FnOk P w K mg base CX0 1 Z.a_steps_in Z.d_steps_in P_steps_in spSteps := by
  obtain ⟨⟨t_LIMIT, c_LIMIT⟩, ⟨t_ALPHABET, c_ALPHABET⟩, ⟨t_MAX_LETTERS, c_MAX_LETTERS⟩, ⟨t_MAX_STATES, c_MAX_STATES⟩, ⟨t_MAX_PRICE, c_MAX_PRICE⟩, ⟨t_FIRST, c_FIRST⟩, ⟨t_LAST, c_LAST⟩, ⟨t_ARC, c_ARC⟩⟩ := C0
  refine D.steps_in.F.ok sc_steps_in (fun vs H Q E h => ?_) (fun cdv A outer s H vs Q E hr h => ?_)
  · obtain ⟨d, m, rfl, _⟩ := h
    rfl
  · obtain ⟨d, m, rfl, hd, hz, q⟩ := h
    refine ⟨_, (pss_cons (ps_set (i := 1) sc_steps_in.nd rfl (Or.inl rfl) pe_dnewT)
    (pss_cons (ps_lock (ps_for PassesOwn.never rfl (pi_itT (pv 0)) (pg_tupK (K := K) (n := 2) rfl rfl (pgs_cons (pg_tupK (K := K) (n := 3) rfl rfl (pgs_cons (pg_name (i := 2) sc_steps_in.nd rfl (Or.inl rfl)) (pgs_cons (pg_name (i := 3) sc_steps_in.nd rfl (Or.inl rfl)) (pgs_cons (pg_name (i := 4) sc_steps_in.nd rfl (Or.inl rfl)) pgs_nil)))) (pgs_cons (pg_name (i := 5) sc_steps_in.nd rfl (Or.inl rfl)) pgs_nil)))
      (pss_one (ps_dput (hu_of hr) (pv 1) (pe_tup (pa_cons (pv 2) (pa_cons (pv 3) pa_nil))) (pe_tup (pa_starK (K := K) rfl (pe_dget2 (hu_of hr) (pv 1) (pe_tup (pa_cons (pv 2) (pa_cons (pv 3) pa_nil))) (pe_tup pa_nil) ⟨rfl, rfl, rfl, rfl⟩) (pa_cons (pe_tup (pa_cons (pv 4) (pa_cons (pv 5) pa_nil))) pa_nil))) rfl))))
    (pss_one (ps_ret (pv 1))))), ?_⟩
    walk_at "rd"
    intro p hp
    have s1 := Same.new (o := HO.dT []) hp
    have hp1 : upd H p (HO.dT []) p = some (.dT []) := upd_same
    have hd1 := s1 _ _ hd
    generalize upd H p (HO.dT []) = H1 at s1 hp1 hd1 ⊢
    have npd : p ≠ d := fun e => by rw [e, hd] at hp; cases hp
    walk_at "go"
    refine ⟨d, _, hd1, trivial, fun od => ?_⟩
    walk_at "rd"
    refine ⟨od, _, rfl, ?_⟩
    have le : (encA m).length = m.length := List.length_map ..
    have hp2 : upd H1 d (HO.frz od (HO.dT (encA m))) p = some (.dT []) := by rw [upd_ne npd]; exact hp1
    have hd2 : upd H1 d (HO.frz od (HO.dT (encA m))) d = some (.frz od (.dT (encA m))) := upd_same
    have k2 : ∀ b o, b ≠ d → b ≠ p → H b = some o → upd H1 d (HO.frz od (HO.dT (encA m))) b = some o := fun b o h1 _ h => by rw [upd_ne h1]; exact s1 _ _ h
    generalize upd H1 d (HO.frz od (HO.dT (encA m))) = H2 at hp2 hd2 k2 ⊢
    obtain ⟨Pv, hP⟩ := inv_bi (fun (i : Nat) (σ : St) (H' : Hp) => ∃ (ws : List (List Key × V)) (o2 o3 o4 o5 : Option V), σ = [some (.ref d), some (.ref p), o2, o3, o4, o5] ∧ H' d = some (.frz od (.dT (encA m))) ∧ (∀ b o, b ≠ d → b ≠ p → H b = some o → H' b = some o) ∧ H' p = some (.dT ws) ∧ ws.length ≤ i ∧ StO H' ws (m.take i))
    refine loop_it (walk_itI (d := d) (o := od) (ws := encA m)) Pv ((hP _ _ _).mpr ⟨[], _, _, _, _, rfl, hd2, k2, hp2, Nat.le_refl _, fun s l => rfl⟩) (fun i σ H' _ h => by obtain ⟨_, _, _, _, _, _, h, _⟩ := (hP _ _ _).mp h; exact h) (fun i x σ H3 H4 hi hpv y => ?_) (fun σ H3 hpv => ?_)
    · obtain ⟨ws, o2, o3, o4, o5, rfl, hd3, k3, hp3, hw3, st3⟩ := (hP _ _ _).mp hpv
      clear hpv hp2 hd2 k2
      obtain ⟨T, r, k, v, hkv, rfl, hT, hr3, rfl⟩ := y
      have hm : i < m.length := by omega
      have ek : (encA m)[i]? = some (key3 m[i].1, .int m[i].2) := by
        unfold encA
        rw [List.getElem?_map, List.getElem?_eq_getElem hm]
        rfl
      rw [ek] at hkv
      cases hkv
      have et : m.take (i + 1) = m.take i ++ [m[i]] := by rw [List.take_add_one, List.getElem?_eq_getElem hm]; rfl
      have fin := fun ws' o2 o3 o4 o5 H' (h1 : H' d = some (.frz od (.dT (encA m)))) (h2 : ∀ b o, b ≠ d → b ≠ p → H b = some o → H' b = some o) (h3 : H' p = some (.dT ws')) (h4 : ws'.length ≤ i + 1) (h5 : StO H' ws' (m.take i ++ [m[i]])) => (hP (i + 1) [some (.ref d), some (.ref p), o2, o3, o4, o5] H').mpr ⟨ws', o2, o3, o4, o5, rfl, h1, h2, h3, h4, by rw [et]; exact h5⟩
      clear hP et ek
      generalize m[i] = a at *
      have s4 := Same.new (o := HO.tup [.ref r, .int a.2]) hT
      have hT4 : upd H3 T (HO.tup [.ref r, .int a.2]) T = some (.tup [.ref r, .int a.2]) := upd_same
      replace hr3 := s4 _ _ hr3
      replace hd3 := s4 _ _ hd3
      replace hp3 := s4 _ _ hp3
      replace st3 := st3.mono (Tk.of s4)
      replace k3 : ∀ b o, b ≠ d → b ≠ p → H b = some o → upd H3 T (HO.tup [.ref r, .int a.2]) b = some o := fun b o h1 h2 h => s4 _ _ (k3 b o h1 h2 h)
      generalize upd H3 T (HO.tup [.ref r, .int a.2]) = H4 at hT4 hr3 hd3 hp3 st3 k3 ⊢
      clear s4 hT
      walk_at "rd"
      refine ⟨_, SqT.of hT4, rfl, _, _, rfl, ?_⟩
      walk_at "rd"
      refine ⟨_, SqT.of hr3, rfl, _, _, rfl, _, _, rfl, _, _, rfl, rfl, ?_⟩
      walk_at "rd"
      walk_at "go"
      clear hT4 hr3
      refine ⟨.inr ⟨_, .inl hp3⟩, by decide, fun t1 h1 => ⟨Nat.zero_le _, fun t2 h2 => ?_⟩⟩
      have s5 := (Same.new (o := HO.tup [kV (Sum.inr a.1.1), kV (Sum.inr a.1.2.1)]) h1).trans (Same.new (o := HO.tup []) h2)
      have ht1 : upd (upd H4 t1 (HO.tup [kV (Sum.inr a.1.1), kV (Sum.inr a.1.2.1)])) t2 (HO.tup []) t1 = some (.tup [kV (Sum.inr a.1.1), kV (Sum.inr a.1.2.1)]) := Same.new h2 _ _ upd_same
      have ht2 : upd (upd H4 t1 (HO.tup [kV (Sum.inr a.1.1), kV (Sum.inr a.1.2.1)])) t2 (HO.tup []) t2 = some (.tup []) := upd_same
      replace hp3 := s5 _ _ hp3
      replace hd3 := s5 _ _ hd3
      replace st3 := st3.mono (Tk.of s5)
      replace k3 := fun b o h1 h2 h => s5 _ _ (k3 b o h1 h2 h)
      generalize upd (upd H4 t1 (HO.tup [kV (Sum.inr a.1.1), kV (Sum.inr a.1.2.1)])) t2 (HO.tup []) = H5 at ht1 ht2 hp3 hd3 st3 k3 ⊢
      clear s5 h1 h2
      have sl : (stepsL (m.take i) a.1.1 a.1.2.1).length ≤ 2000 := by
        unfold stepsL
        rw [List.length_map]
        refine Nat.le_trans (List.length_filter_le _ _) ?_
        rw [List.length_take]
        omega
      obtain ⟨t3, rs, e3, ht3, pr⟩ : ∃ t3 rs, (valV ws [Sum.inr a.1.1, Sum.inr a.1.2.1]).getD (V.ref t2) = .ref t3 ∧ H5 t3 = some (.tup (rs.map V.ref)) ∧ Paired (fun (x : Str × Int) r => H5 r = some (.tup [.str x.1, .int x.2])) (stepsL (m.take i) a.1.1 a.1.2.1) rs := by
        have h := st3 a.1.1 a.1.2.1
        cases hv : valV ws [Sum.inr a.1.1, Sum.inr a.1.2.1] with
        | none =>
          rw [hv] at h
          rw [show stepsL (m.take i) a.1.1 a.1.2.1 = [] from h]
          exact ⟨t2, [], rfl, ht2, .nil⟩
        | some v =>
          rw [hv] at h
          obtain ⟨t, rs, rfl, h2, h3⟩ := h
          exact ⟨t, rs, rfl, h2, h3⟩
      have lrs : rs.length ≤ 2000 := by rw [← Paired.length pr]; exact sl
      refine ⟨_, .inr ⟨ws, [Sum.inr a.1.1, Sum.inr a.1.2.1], t1, .inl hp3, rfl, ht1, rfl⟩, t3, e3, _, .inl (SqT.of ht3), by decide, fun t4 h4 => ⟨?_, fun t5 h5 => ⟨by decide, fun t6 h6 => ?_⟩⟩⟩
      · rw [List.length_append, List.length_map]
        exact Nat.le_trans (show rs.length + 1 ≤ 2001 by omega) (by decide)
      have s7 := Same.new (o := HO.tup [kV (Sum.inr a.1.2.2), V.int a.2]) h4
      have s8 := Same.new (o := HO.tup (rs.map V.ref ++ [V.ref t4])) h5
      have s9 := Same.new (o := HO.tup [kV (Sum.inr a.1.1), kV (Sum.inr a.1.2.1)]) h6
      have ht4 := s9 t4 (HO.tup [kV (Sum.inr a.1.2.2), V.int a.2]) (s8 _ _ upd_same)
      have ht5 := s9 t5 (HO.tup (rs.map V.ref ++ [V.ref t4])) upd_same
      have ht6 : upd (upd (upd H5 t4 (HO.tup [kV (Sum.inr a.1.2.2), V.int a.2])) t5 (HO.tup (rs.map V.ref ++ [V.ref t4]))) t6 (HO.tup [kV (Sum.inr a.1.1), kV (Sum.inr a.1.2.1)]) t6 = some (.tup [kV (Sum.inr a.1.1), kV (Sum.inr a.1.2.1)]) := upd_same
      have sA := (s7.trans s8).trans s9
      replace hp3 := sA _ _ hp3
      replace hd3 := sA _ _ hd3
      replace st3 := st3.mono (Tk.of sA)
      replace k3 := fun b o h1 h2 h => sA _ _ (k3 b o h1 h2 h)
      replace pr := paired_mono (fun _ _ e => sA _ _ e) pr
      generalize upd (upd (upd H5 t4 (HO.tup [kV (Sum.inr a.1.2.2), V.int a.2])) t5 (HO.tup (rs.map V.ref ++ [V.ref t4]))) t6 (HO.tup [kV (Sum.inr a.1.1), kV (Sum.inr a.1.2.1)]) = H6 at ht4 ht5 ht6 hp3 hd3 st3 k3 pr ⊢
      clear s7 s8 s9 sA h4 h5 h6 ht1 ht2 ht3
      have wl : ws.length < sizeLine := Nat.lt_of_le_of_lt (show ws.length ≤ 2000 by omega) (by decide)
      refine ⟨_, DPut.t (k := [Sum.inr a.1.1, Sum.inr a.1.2.1]) hp3 ht6 wl, fin _ _ _ _ _ _ ?_ ?_ upd_same ?_ ?_⟩
      · rw [upd_ne npd.symm]
        exact hd3
      · intro b o h1 h2 h
        rw [upd_ne h2]
        exact k3 b o h1 h2 h
      · have := length_putK ws [Sum.inr a.1.1, Sum.inr a.1.2.1] (V.ref t5)
        omega
      · have tk : Tk H6 (upd H6 p (HO.dT (putK ws [Sum.inr a.1.1, Sum.inr a.1.2.1] (V.ref t5)))) := Tk.put hp3
        intro s l
        rw [valV_put, stepsL_snoc]
        by_cases hk : a.1.1 = s ∧ a.1.2.1 = l
        · obtain ⟨rfl, rfl⟩ := hk
          rw [if_pos rfl, if_pos ⟨rfl, rfl⟩]
          refine ⟨t5, rs ++ [t4], rfl, ?_, paired_mono (fun _ _ e => tk _ _ e) (paired_snoc (F := fun (x : Str × Int) r => H6 r = some (.tup [.str x.1, .int x.2])) (a := (a.1.2.2, a.2)) (b := t4) ht4 pr)⟩
          rw [List.map_append]
          exact tk _ _ ht5
        · have nk : ¬ ([Sum.inr s, Sum.inr l] = ([Sum.inr a.1.1, Sum.inr a.1.2.1] : List Key)) := fun e => hk (by simp only [List.cons.injEq, Sum.inr.injEq, and_true] at e; exact ⟨e.1.symm, e.2.symm⟩)
          rw [if_neg hk, if_neg nk, List.append_nil]
          exact (st3 s l).mono tk
    · obtain ⟨ws, o2, o3, o4, o5, rfl, hd3, k3, hp3, hw3, st3⟩ := (hP _ _ _).mp hpv
      rw [le, List.take_length] at st3
      refine ⟨hd3, ?_⟩
      have q2 := q p ws (upd H3 d (HO.dT (encA m))) (fun b o h => ?_) (by rw [upd_ne npd]; exact hp3) (st3.mono fun b ys e => by rw [upd_ne (fun z => by rw [z, hd3] at e; cases e)]; exact e)
      · walk_at "gg"
      · by_cases hb : b = d
        · rw [hb, upd_same, ← hd, ← hb]
          exact h
        · rw [upd_ne hb]
          exact k3 b o hb (ne_of_none h hp) h
end
section
variable {P : Program} {w : World} {K : PySem.W.Frag} {mg : Str → Option Value} {base : Heap} {Z : Ad}
/-! ### class Machine -/
def leA (a b : Arc × Int) : Bool := leK (key3 a.1) (key3 b.1)
def sortA (m : List (Arc × Int)) : List (Arc × Int) := m.mergeSort leA
theorem sort_perm (m : List (Arc × Int)) : (sortA m).Perm m := List.mergeSort_perm m leA
theorem sort_keys (m : List (Arc × Int)) : sortK ((encA m).map (·.1)) = (encA (sortA m)).map (·.1) := by
  unfold sortK sortA encA
  rw [List.map_map, List.map_map]
  exact (List.map_mergeSort (f := (fun p => p.1) ∘ fun (a : Arc × Int) => (key3 a.1, V.int a.2)) (r := leA) (s := leK) fun a _ b _ => rfl).symm
theorem sort_nd {m : List (Arc × Int)} (h : (m.map (·.1)).Nodup) : ((sortA m).map (·.1)).Nodup := ((sort_perm m).map _).nodup_iff.mpr h
theorem sort_len (m : List (Arc × Int)) : (sortA m).length = m.length := (sort_perm m).length_eq
theorem slt_at {H : Hp} {x C dx : Addr} {v : Option V} {vs : List (Option V)} (h : SlX.Slt H x C dx (v :: vs)) : H x = some (SlX.SlO x C dx (v :: vs)) ∧ H dx = some (.xd []) := by
  rcases h with ⟨_, h⟩ | h
  · cases h
  · exact h
theorem slt_new {H : Hp} {x C dx p : Addr} {v : Option V} {vs : List (Option V)} (h : SlX.Slt H x C dx (v :: vs)) (hp : H p = none) : p ≠ x ∧ p ≠ dx :=
  ⟨(fun e => by rw [e, (slt_at h).1] at hp; cases hp), (fun e => by rw [e, (slt_at h).2] at hp; cases hp)⟩
theorem slt_off {H : Hp} {x C dx b : Addr} {o : HO} {v : Option V} {vs : List (Option V)} (h : SlX.Slt H x C dx (v :: vs)) (hb : H b = some o) (h1 : ∀ φ, o ≠ .ext φ) (h2 : ∀ fs, o ≠ .xd fs) : b ≠ x ∧ b ≠ dx :=
  ⟨(fun e => by rw [e, (slt_at h).1] at hb; exact h1 _ (Option.some.inj hb).symm), fun e => by rw [e, (slt_at h).2] at hb; exact h2 _ (Option.some.inj hb).symm⟩
theorem len_app (a b : Str) : (a ++ b).length = a.length + b.length := by
  show (a.cps ++ b.cps).size = a.cps.size + b.cps.size
  simp
theorem price_in {i : Int} (h : priceB (.int i) = true) : 0 ≤ i ∧ i ≤ 9 := by
  unfold priceB at h
  rw [Bool.and_eq_true] at h
  have h2 : (decide (0 ≤ i) && decide (i ≤ 9)) = true := h.2
  rw [Bool.and_eq_true, decide_eq_true_eq, decide_eq_true_eq] at h2
  exact h2
theorem price_txt {i : Int} (h : priceB (.int i) = true) : (Str.ofString (toString i)).length = 1 := by
  obtain ⟨h0, h9⟩ := price_in h
  rcases (show i = 0 ∨ i = 1 ∨ i = 2 ∨ i = 3 ∨ i = 4 ∨ i = 5 ∨ i = 6 ∨ i = 7 ∨ i = 8 ∨ i = 9 by omega) with rfl | rfl | rfl | rfl | rfl | rfl | rfl | rfl | rfl | rfl <;> decide +kernel
theorem small_line {n : Nat} (h : n ≤ 100) : n ≤ sizeLine := Nat.le_trans h (by decide)
theorem len_arc : (Str.ofString "arc").length = 3 := by decide +kernel
theorem len_sp : (Str.ofString " ").length = 1 := by decide +kernel
theorem len_em : Str.empty.length = 0 := rfl
def lineA (a : Arc × Int) : Str := Str.empty ++ Str.ofString "arc" ++ Str.ofString " " ++ a.1.1 ++ Str.ofString " " ++ a.1.2.1 ++ Str.ofString " " ++ Str.ofString (toString a.2) ++ Str.ofString " " ++ a.1.2.2
def lineAt (m : List (Arc × Int)) (i : Nat) : Str := match m[i]? with
  | some a => lineA a
  | none => Str.empty
def linesM (fs ls : List Str) (m : List (Arc × Int)) : List Str := Txt.join (Str.ofString " ") (Str.ofString "first" :: fs) :: Txt.join (Str.ofString " ") (Str.ofString "last" :: ls) :: m.map lineA
theorem sum_le : ∀ {xs : List Str}, (∀ x ∈ xs, x.length ≤ 8) → (xs.map (fun x => x.length)).sum ≤ 8 * xs.length
  | [], _ => Nat.le_refl _
  | x :: xs, h => by
    have h1 := h x List.mem_cons_self
    have h2 := sum_le fun y hy => h y (List.mem_cons_of_mem _ hy)
    rw [List.map_cons, List.sum_cons, List.length_cons]
    omega
theorem names_8 {xs : List Str} (h : namesB xs = true) : ∀ x ∈ xs, x.length ≤ 8 := fun x hx => by
  unfold namesB at h
  rw [Bool.and_eq_true, List.all_eq_true] at h
  exact name_len (h.1 x hx)
theorem inn_mem {m : List (Arc × Int)} {x : Str} : x ∈ innA m ↔ ∃ a ∈ m, x = a.1.1 ∨ x = a.1.2.2 := by
  unfold innA
  rw [List.mem_flatMap]
  constructor
  · rintro ⟨a, ha, h⟩
    exact ⟨a, ha, by simpa using h⟩
  · rintro ⟨a, ha, h⟩
    exact ⟨a, ha, by simpa using h⟩
theorem sorted_perm {fs ls : List Str} {m m' : List (Arc × Int)} (p : m.Perm m') {ys : List Str} (h : Sorted ys (fs ++ ls ++ innA m)) : Sorted ys (fs ++ ls ++ innA m') := by
  refine ⟨h.up, h.nd, fun k => ?_, ?_⟩
  · rw [h.mem, List.mem_append (s := fs ++ ls) (t := innA m), List.mem_append (s := fs ++ ls) (t := innA m'), inn_mem, inn_mem]
    constructor
    · rintro (z | ⟨a, ha, z⟩)
      · exact .inl z
      · exact .inr ⟨a, p.mem_iff.mp ha, z⟩
    · rintro (z | ⟨a, ha, z⟩)
      · exact .inl z
      · exact .inr ⟨a, p.mem_iff.mpr ha, z⟩
  · have h1 := h.len
    rw [List.length_append, inn_len, p.length_eq] at h1
    rw [List.length_append, inn_len]
    exact h1
theorem Gm.perm {fs ls : List Str} {m m' : List (Arc × Int)} (p : m.Perm m') (h : Gm fs ls m) : Gm fs ls m' :=
  ⟨h.f0, h.l0, h.fn, h.ln, fun a ha => h.an a (p.mem_iff.mpr ha), (p.map _).nodup_iff.mp h.nd, by rw [← p.length_eq]; exact h.small, fun ys so => h.few ys (sorted_perm p.symm so)⟩
/-- the instance at x is the machine of these parts, its arcs ascending -/
def MacO (C : Addr) (H : Hp) (x : Addr) (fs ls : List Str) (m : List (Arc × Int)) : Prop := ∃ (dx da f l ln st sp : Addr) (ys : List Str) (ws : List (List Key × V)), SlX.Slt H x C dx [some (.ref da), some (.ref f), some (.ref l), some (.ref ln), some (.ref st), some (.ref sp)] ∧ H da = some (.dT (encA m)) ∧
  H f = some (.tup (fs.map V.str)) ∧ H l = some (.tup (ls.map V.str)) ∧ H ln = some (.tup ((linesM fs ls m).map V.str)) ∧ H st = some (.tup (ys.map V.str)) ∧ Sorted ys (fs ++ ls ++ innA m) ∧ H sp = some (.dT ws) ∧ StO H ws m ∧ Gm fs ls m
theorem MacO.same {C : Addr} {H H' : Hp} {x : Addr} {fs ls : List Str} {m : List (Arc × Int)} (e : Same H H') (h : MacO C H x fs ls m) : MacO C H' x fs ls m := by
  obtain ⟨dx, da, f, l, ln, st, sp, ys, ws, h1, h2, h3, h4, h5, h6, h7, h8, h9, h10⟩ := h
  exact ⟨dx, da, f, l, ln, st, sp, ys, ws, Same.slt e h1, e _ _ h2, e _ _ h3, e _ _ h4, e _ _ h5, e _ _ h6, h7, e _ _ h8, h9.mono (Tk.of e), h10⟩
def spMacI (C : Addr) : Sp := fun vs H Q _ => ∃ (x dx f l d : Addr) (fs ls : List Str) (m : List (Arc × Int)), vs = [.ref x, .ref f, .ref l, .ref d] ∧ H x = some (.ins C dx []) ∧ H dx = some (.own x) ∧ dx ≠ x ∧ H f = some (.tup (fs.map V.str)) ∧ H l = some (.tup (ls.map V.str)) ∧ H d = some (.dT (encA m)) ∧ Gm fs ls m ∧
  ∀ H', (∀ b o, b ≠ x → b ≠ dx → H b = some o → H' b = some o) → MacO C H' x fs ls (sortA m) → Q .non H'
theorem ok_Machine___init__ (D : Ds K mg Z) (B : Bt mg) (C0 : Cs mg) : FnOk P w K mg base CX0 7 Z.a_Machine___init__ Z.d_Machine___init__ P_Machine___init__ (spMacI Z.c_Machine) := by
  have G_are_parts := ok_are_parts (P := P) (w := w) (base := base) D B C0
  have G_states_of := ok_states_of (P := P) (w := w) (base := base) D B C0
  have G_steps_in := ok_steps_in (P := P) (w := w) (base := base) D B C0
  obtain ⟨⟨t_LIMIT, c_LIMIT⟩, ⟨t_ALPHABET, c_ALPHABET⟩, ⟨t_MAX_LETTERS, c_MAX_LETTERS⟩, ⟨t_MAX_STATES, c_MAX_STATES⟩, ⟨t_MAX_PRICE, c_MAX_PRICE⟩, ⟨t_FIRST, c_FIRST⟩, ⟨t_LAST, c_LAST⟩, ⟨t_ARC, c_ARC⟩⟩ := C0
  refine D.Machine___init__.F.ok sc_Machine___init__ (fun vs H Q E h => ?_) (fun cdv A outer s H vs Q E hr h => ?_)
  · obtain ⟨x, dx, f, l, d, fs, ls, m, rfl, _⟩ := h
    rfl
  · obtain ⟨x, dx, f, l, d, fs, ls, m, rfl, hx, hdx, hne, hf, hl, hd, gm, q⟩ := h
    refine ⟨_, (pss_cons (ps_if (pt_not (pt_val (pe_df D.are_parts G_are_parts (hr.mono (by decide)) (by rfl) (pa_cons (pv 1) (pa_cons (pv 2) (pa_cons (pv 3) pa_nil)))))) (pss_one ps_dead) pss_nil)
    (pss_cons (SlX.ps_sl (pv 0) (pv 1))
    (pss_cons (SlX.ps_sl (pv 0) (pv 2))
    (pss_cons (SlX.ps_sl (pv 0) (pe_dcT (own := [("place", 4)]) (g := gName 4) (hu_of hr) rfl sc_Machine___init__.nd (pi_listK (K := K) rfl (pe_callB (cr_sortD rfl hr.units) (by rfl) B.sorted (by decide +kernel) (pa_cons (pv 3) pa_nil))) (blkOk_by (N := N_Machine___init__) (sc := defScope s_Machine___init__) (by decide +kernel)) (fun _ _ _ _ _ => (pg_name (i := 4) sc_Machine___init__.nd rfl (Or.inl rfl))) (fun _ _ _ _ _ => pts_nil) (fun _ _ _ _ _ => (pv 4)) (fun _ _ _ _ _ => (pe_dget (hu_of hr) (pv 3) (pv 4) (fun _ _ => rfl)))))
    (pss_cons (SlX.ps_sl (pv 0) (pe_df D.states_of G_states_of (hr.mono (by decide)) (by rfl) (pa_cons (pv 1) (pa_cons (pv 2) (pa_cons (pv 3) pa_nil)))))
    (pss_cons (SlX.ps_sl (pv 0) (pe_df D.steps_in G_steps_in (hr.mono (by decide)) (by rfl) (pa_cons (pe_slot D.Machine D.Machine_own_arcs (pv 0)) pa_nil)))
    (pss_cons (ps_lock (ps_setLc (i := 5) (own := [("price", 9), ("state", 6), ("letter", 7), ("later", 8)]) rfl sc_Machine___init__.nd rfl rfl (sw_true rfl rfl rfl (by decide +kernel)) (pi_itT (pe_slot D.Machine D.Machine_own_arcs (pv 0))) (blkOk_by (N := N_Machine___init__) (sc := defScope s_Machine___init__) (by decide +kernel)) (fun _ _ _ _ _ => (pg_tupK (K := K) (n := 2) rfl rfl (pgs_cons (pg_tupK (K := K) (n := 3) rfl rfl (pgs_cons (pg_name (i := 6) sc_Machine___init__.nd rfl (Or.inl rfl)) (pgs_cons (pg_name (i := 7) sc_Machine___init__.nd rfl (Or.inl rfl)) (pgs_cons (pg_name (i := 8) sc_Machine___init__.nd rfl (Or.inl rfl)) pgs_nil)))) (pgs_cons (pg_name (i := 9) sc_Machine___init__.nd rfl (Or.inl rfl)) pgs_nil)))) (fun _ _ _ _ _ => pts_nil) (fun _ _ _ _ _ => (pe_joined (PJ.cons (pe_fmt (pe_glob (v := .str _) (by rfl) c_ARC ⟨_, rfl⟩)) (PJ.cons pe_str (PJ.cons (pe_fmt (pv 6)) (PJ.cons pe_str (PJ.cons (pe_fmt (pv 7)) (PJ.cons pe_str (PJ.cons (pe_fmt (pv 9)) (PJ.cons pe_str (PJ.cons (pe_fmt (pv 8)) PJ.nil)))))))))))))
    (pss_one (SlX.ps_sl (pv 0) (pe_tup (pa_cons (pe_sm PySem.F.plainAttrs_str PySem.F.slot_str_join PySem.F.type_str_join (mt_joinK (K := K) rfl) pe_str (pa_cons (pe_lst (pa_cons (pe_glob (v := .str _) (by rfl) c_FIRST ⟨_, rfl⟩) (pa_starK (K := K) rfl (pv 1) pa_nil))) pa_nil)) (pa_cons (pe_sm PySem.F.plainAttrs_str PySem.F.slot_str_join PySem.F.type_str_join (mt_joinK (K := K) rfl) pe_str (pa_cons (pe_lst (pa_cons (pe_glob (v := .str _) (by rfl) c_LAST ⟨_, rfl⟩) (pa_starK (K := K) rfl (pv 2) pa_nil))) pa_nil)) (pa_starK (K := K) rfl (pv 5) pa_nil))))))))))))), ?_⟩
    have small := gm.small
    walk_at "rd"
    refine ⟨f, l, d, fs, ls, m, rfl, hf, hl, hd, gm, fun H1 e1 => ?_⟩
    walk_at "rd"
    walk_at "gg"
    refine ⟨_, rfl, _, rfl, x, Z.c_Machine, dx, Z.q_Machine_own_firsts, [], 1, rfl, .inl ⟨e1 _ _ hx, rfl⟩, D.Machine.sc, D.Machine_own_firsts, ?_⟩
    refine later ?_
    refine ⟨_, rfl, _, rfl, x, Z.c_Machine, dx, Z.q_Machine_own_lasts, _, 2, rfl, SlX.slH_slt hne, D.Machine.sc, D.Machine_own_lasts, ?_⟩
    have x1 := e1 _ _ hx
    have nfx : f ≠ x := fun e => by rw [e, hx] at hf; cases hf
    have nfd : f ≠ dx := fun e => by rw [e, hdx] at hf; cases hf
    have nlx : l ≠ x := fun e => by rw [e, hx] at hl; cases hl
    have nld : l ≠ dx := fun e => by rw [e, hdx] at hl; cases hl
    have ndx : d ≠ x := fun e => by rw [e, hx] at hd; cases hd
    have ndd : d ≠ dx := fun e => by rw [e, hdx] at hd; cases hd
    have kp : ∀ b o, b ≠ x → b ≠ dx → H b = some o → SlX.slH (SlX.slH H1 x Z.c_Machine dx (SlX.putS 1 (V.ref f) [])) x Z.c_Machine dx (SlX.putS 2 (V.ref l) (SlX.putS 1 (V.ref f) [])) b = some o := fun b o h1 h2 hb => by
      rw [SlX.slH_ne h1 h2, SlX.slH_ne h1 h2]
      exact e1 _ _ hb
    have sl : SlX.Slt (SlX.slH (SlX.slH H1 x Z.c_Machine dx (SlX.putS 1 (V.ref f) [])) x Z.c_Machine dx (SlX.putS 2 (V.ref l) (SlX.putS 1 (V.ref f) []))) x Z.c_Machine dx [none, some (.ref f), some (.ref l)] := SlX.slH_slt hne
    generalize SlX.slH (SlX.slH H1 x Z.c_Machine dx (SlX.putS 1 (V.ref f) [])) x Z.c_Machine dx (SlX.putS 2 (V.ref l) (SlX.putS 1 (V.ref f) [])) = H2 at kp sl ⊢
    clear e1 x1
    have hf2 := kp _ _ nfx nfd hf
    have hl2 := kp _ _ nlx nld hl
    have hd2 := kp _ _ ndx ndd hd
    walk_at "go"
    refine sSl_go ?_
    walk_at "rd"
    have tri : ∀ k ∈ (encA m).map (·.1), ∃ a b c : Str, k = [.inr a, .inr b, .inr c] := fun k hk => by
      obtain ⟨p, hp, rfl⟩ := List.mem_map.mp hk
      obtain ⟨a, ha, rfl⟩ := List.mem_map.mp hp
      exact ⟨_, _, _, rfl⟩
    refine ⟨encA m, .inl hd2, tri, fun lp bs hlp pr => ?_⟩
    rw [sort_keys] at pr
    have s3 := Same.new (o := HO.lst (bs.map V.ref)) hlp
    have hlp3 : upd H2 lp (HO.lst (bs.map V.ref)) lp = some (.lst (bs.map V.ref)) := upd_same
    replace hf2 := s3 _ _ hf2
    replace hl2 := s3 _ _ hl2
    replace hd2 := s3 _ _ hd2
    replace sl := Same.slt s3 sl
    replace kp := fun b o h1 h2 hb => s3 _ _ (kp b o h1 h2 hb)
    replace pr := paired_mono (fun _ _ e => s3 _ _ e) pr
    generalize upd H2 lp (HO.lst (bs.map V.ref)) = H3 at hf2 hl2 hd2 sl kp pr hlp3 ⊢
    clear s3 hlp
    refine ⟨⟨_, SqL.of hlp3⟩, ?_⟩
    have lb : bs.length = m.length := by
      rw [← Paired.length pr, List.length_map]
      show ((sortA m).map _).length = _
      rw [List.length_map, sort_len]
    have nd : ((sortA m).map (·.1)).Nodup := sort_nd gm.nd
    have ln : (bs.map V.ref).length = m.length := by rw [List.length_map, lb]
    have le : (encA (sortA m)).length = m.length := by unfold encA; rw [List.length_map, sort_len]
    refine dcT_out (walk_list (xs := bs.map V.ref)) (fun i => ((encA (sortA m))[i]?).getD ([], .non)) ?_ (by omega) (fun H4 e4 => SqL.of (e4 _ _ hlp3)) ?_ ?_
    · intro i j hij hj
      have hi' : i < (sortA m).length := by rw [sort_len]; omega
      have hj' : j < (sortA m).length := by rw [sort_len]; omega
      unfold encA
      rw [List.getElem?_map, List.getElem?_map, List.getElem?_eq_getElem hi', List.getElem?_eq_getElem hj']
      intro e
      have e2 : (sortA m)[i].1 = (sortA m)[j].1 := key3_inj e
      have pw := List.pairwise_iff_getElem.mp nd i j (by rw [List.length_map]; exact hi') (by rw [List.length_map]; exact hj') hij
      rw [List.getElem_map, List.getElem_map] at pw
      exact pw e2
    · intro i y H4 H5 De Nx hi hDe sm yy put
      obtain ⟨rfl, ey⟩ := yy
      rw [List.getElem?_map] at ey
      have hb : i < bs.length := by omega
      have hs : i < (sortA m).length := by rw [sort_len]; omega
      rw [List.getElem?_eq_getElem hb] at ey
      cases ey
      have ee : (encA (sortA m))[i]? = some (key3 (sortA m)[i].1, .int (sortA m)[i].2) := by
        unfold encA
        rw [List.getElem?_map, List.getElem?_eq_getElem hs]
        rfl
      rw [ee] at put
      have mem : (sortA m)[i] ∈ m := (sort_perm m).mem_iff.mp (List.getElem_mem hs)
      have va := val_at gm.nd _ mem
      have hk : ((encA (sortA m)).map (·.1))[i]? = some (key3 (sortA m)[i].1) := by rw [List.getElem?_map, ee]; rfl
      obtain ⟨b', hb', hbt⟩ := paired_get pr hk
      rw [List.getElem?_eq_getElem hb] at hb'
      cases hb'
      have hb5 := sm _ _ hbt
      have hd5 := sm _ _ hd2
      have put2 := put bs[i] _ (Same.refl _) hb5
      generalize (sortA m)[i] = a at *
      walk_at "rd"
      exact ⟨_, .inr ⟨encA m, key3 a.1, bs[i], .inl hd5, rfl, hb5, va.symm⟩, put2⟩
    · intro p H4 hp sm hp4
      have er : (List.range (bs.map V.ref).length).map (fun i => ((encA (sortA m))[i]?).getD ([], .non)) = encA (sortA m) := by
        rw [ln]
        refine List.ext_getElem? fun i => ?_
        rw [List.getElem?_map]
        by_cases hi : i < m.length
        · have e := List.getElem?_eq_getElem (show i < (encA (sortA m)).length by omega)
          rw [List.getElem?_range hi, Option.map_some, e]
          rfl
        · rw [List.getElem?_eq_none (by rw [List.length_range]; omega), List.getElem?_eq_none (by omega)]
          rfl
      rw [er] at hp4
      clear er hlp3 pr ln lb le
      replace hf2 := sm _ _ hf2
      replace hl2 := sm _ _ hl2
      replace hd2 := sm _ _ hd2
      replace kp := fun b o h1 h2 hb => sm _ _ (kp b o h1 h2 hb)
      obtain ⟨npx, npd⟩ := slt_new (by assumption : SlX.Slt H3 x Z.c_Machine dx _) hp
      replace sl := Same.slt sm sl
      walk_at "rd"
      refine ⟨Z.c_Machine, dx, Z.q_Machine_own_arcs, _, sl, D.Machine.sc, 0, D.Machine_own_arcs, ?_⟩
      have hp5 : SlX.slH H4 x Z.c_Machine dx (SlX.putS 0 (V.ref p) [none, some (.ref f), some (.ref l)]) p = some (.dT (encA (sortA m))) := by rw [SlX.slH_ne npx npd]; exact hp4
      replace hf2 : SlX.slH H4 x Z.c_Machine dx (SlX.putS 0 (V.ref p) [none, some (.ref f), some (.ref l)]) f = _ := (SlX.slH_ne nfx nfd).trans hf2
      replace hl2 : SlX.slH H4 x Z.c_Machine dx (SlX.putS 0 (V.ref p) [none, some (.ref f), some (.ref l)]) l = _ := (SlX.slH_ne nlx nld).trans hl2
      replace hd2 : SlX.slH H4 x Z.c_Machine dx (SlX.putS 0 (V.ref p) [none, some (.ref f), some (.ref l)]) d = _ := (SlX.slH_ne ndx ndd).trans hd2
      replace kp := fun b o h1 h2 hb => (SlX.slH_ne (vs := SlX.putS 0 (V.ref p) [none, some (.ref f), some (.ref l)]) (C := Z.c_Machine) h1 h2).trans (kp b o h1 h2 hb)
      have sl5 : SlX.Slt (SlX.slH H4 x Z.c_Machine dx (SlX.putS 0 (V.ref p) [none, some (.ref f), some (.ref l)])) x Z.c_Machine dx [some (.ref p), some (.ref f), some (.ref l)] := SlX.slH_slt hne
      generalize SlX.slH H4 x Z.c_Machine dx (SlX.putS 0 (V.ref p) [none, some (.ref f), some (.ref l)]) = H5 at hp5 hf2 hl2 hd2 kp sl5 ⊢
      clear hp4 sl sm hp
      walk_at "go"
      refine sSl_go ?_
      walk_at "rd"
      refine ⟨f, l, d, fs, ls, m, rfl, hf2, hl2, hd2, gm.small, fun ys st H6 e6 so hst => ?_⟩
      replace hf2 := e6 _ _ hf2
      replace hl2 := e6 _ _ hl2
      replace hp5 := e6 _ _ hp5
      replace sl5 := Same.slt e6 sl5
      replace kp := fun b o h1 h2 hb => e6 _ _ (kp b o h1 h2 hb)
      clear e6 hd2
      obtain ⟨nsx, nsd⟩ := slt_off sl5 hst (fun _ z => by cases z) (fun _ z => by cases z)
      walk_at "rd"
      refine ⟨Z.c_Machine, dx, Z.q_Machine_own_states, _, sl5, D.Machine.sc, 4, D.Machine_own_states, ?_⟩
      have hp7 : SlX.slH H6 x Z.c_Machine dx (SlX.putS 4 (V.ref st) [some (.ref p), some (.ref f), some (.ref l)]) p = some (.dT (encA (sortA m))) := by rw [SlX.slH_ne npx npd]; exact hp5
      have hs7 : SlX.slH H6 x Z.c_Machine dx (SlX.putS 4 (V.ref st) [some (.ref p), some (.ref f), some (.ref l)]) st = some (.tup (ys.map V.str)) := by rw [SlX.slH_ne nsx nsd]; exact hst
      replace hf2 : SlX.slH H6 x Z.c_Machine dx (SlX.putS 4 (V.ref st) [some (.ref p), some (.ref f), some (.ref l)]) f = _ := (SlX.slH_ne nfx nfd).trans hf2
      replace hl2 : SlX.slH H6 x Z.c_Machine dx (SlX.putS 4 (V.ref st) [some (.ref p), some (.ref f), some (.ref l)]) l = _ := (SlX.slH_ne nlx nld).trans hl2
      replace kp := fun b o h1 h2 hb => (SlX.slH_ne (vs := SlX.putS 4 (V.ref st) [some (.ref p), some (.ref f), some (.ref l)]) (C := Z.c_Machine) h1 h2).trans (kp b o h1 h2 hb)
      have sl7 : SlX.Slt (SlX.slH H6 x Z.c_Machine dx (SlX.putS 4 (V.ref st) [some (.ref p), some (.ref f), some (.ref l)])) x Z.c_Machine dx [some (.ref p), some (.ref f), some (.ref l), none, some (.ref st)] := SlX.slH_slt hne
      generalize SlX.slH H6 x Z.c_Machine dx (SlX.putS 4 (V.ref st) [some (.ref p), some (.ref f), some (.ref l)]) = H7 at hp7 hs7 hf2 hl2 kp sl7 ⊢
      clear hp5 sl5 hst
      walk_at "go"
      refine sSl_go ?_
      walk_at "rd"
      refine ⟨dx, _, sl7, _, rfl, p, sortA m, rfl, hp7, by rw [sort_len]; omega, fun sp ws H8 e8 hsp sto => ?_⟩
      replace hf2 := e8 _ _ hf2
      replace hl2 := e8 _ _ hl2
      replace hp7 := e8 _ _ hp7
      replace hs7 := e8 _ _ hs7
      replace sl7 := Same.slt e8 sl7
      replace kp := fun b o h1 h2 hb => e8 _ _ (kp b o h1 h2 hb)
      clear e8
      obtain ⟨nqx, nqd⟩ := slt_off sl7 hsp (fun _ z => by cases z) (fun _ z => by cases z)
      refine ⟨Z.c_Machine, dx, Z.q_Machine_own_steps, _, sl7, D.Machine.sc, 5, D.Machine_own_steps, ?_⟩
      have tk9 : Tk H8 (SlX.slH H8 x Z.c_Machine dx (SlX.putS 5 (V.ref sp) [some (.ref p), some (.ref f), some (.ref l), none, some (.ref st)])) := fun b zs hb => by
        obtain ⟨n1, n2⟩ := slt_off sl7 hb (fun _ z => by cases z) (fun _ z => by cases z)
        rw [SlX.slH_ne n1 n2]
        exact hb
      replace sto := sto.mono tk9
      have hp9 : SlX.slH H8 x Z.c_Machine dx (SlX.putS 5 (V.ref sp) [some (.ref p), some (.ref f), some (.ref l), none, some (.ref st)]) p = some (.dT (encA (sortA m))) := by rw [SlX.slH_ne npx npd]; exact hp7
      have hs9 := tk9 _ _ hs7
      have hq9 : SlX.slH H8 x Z.c_Machine dx (SlX.putS 5 (V.ref sp) [some (.ref p), some (.ref f), some (.ref l), none, some (.ref st)]) sp = some (.dT ws) := by rw [SlX.slH_ne nqx nqd]; exact hsp
      replace hf2 := tk9 _ _ hf2
      replace hl2 := tk9 _ _ hl2
      replace kp := fun b o h1 h2 hb => (SlX.slH_ne (vs := SlX.putS 5 (V.ref sp) [some (.ref p), some (.ref f), some (.ref l), none, some (.ref st)]) (C := Z.c_Machine) h1 h2).trans (kp b o h1 h2 hb)
      have sl9 : SlX.Slt (SlX.slH H8 x Z.c_Machine dx (SlX.putS 5 (V.ref sp) [some (.ref p), some (.ref f), some (.ref l), none, some (.ref st)])) x Z.c_Machine dx [some (.ref p), some (.ref f), some (.ref l), none, some (.ref st), some (.ref sp)] := SlX.slH_slt hne
      generalize SlX.slH H8 x Z.c_Machine dx (SlX.putS 5 (V.ref sp) [some (.ref p), some (.ref f), some (.ref l), none, some (.ref st)]) = H9 at sto hp9 hs9 hq9 hf2 hl2 kp sl9 ⊢
      clear hp7 hs7 sl7 hsp tk9
      walk_at "go"
      refine ⟨p, _, hp9, trivial, fun od => ?_⟩
      have slA : SlX.Slt (upd H9 p (HO.frz od (HO.dT (encA (sortA m))))) x Z.c_Machine dx [some (.ref p), some (.ref f), some (.ref l), none, some (.ref st), some (.ref sp)] := by
        obtain ⟨h1, h2⟩ := slt_at sl9
        exact .inr ⟨by rw [upd_ne npx.symm]; exact h1, by rw [upd_ne npd.symm]; exact h2⟩
      have hpA : upd H9 p (HO.frz od (HO.dT (encA (sortA m)))) p = some (.frz od (.dT (encA (sortA m)))) := upd_same
      walk_at "rd"
      refine ⟨dx, _, slA, _, rfl, p, rfl, od, _, hpA, ?_⟩
      have le : (encA (sortA m)).length = m.length := by unfold encA; rw [List.length_map, sort_len]
      refine lc_val (walk_itI (d := p) (o := od) (ws := encA (sortA m))) (fun i => .str (lineAt (sortA m) i)) (fun H1 e1 => e1 _ _ hpA) (by omega) ?_ ?_
      · intro i y HB HC hi eB yy R hR
        obtain ⟨T, r, k, v, hkv, rfl, hT, hrr, rfl⟩ := yy
        have hs : i < (sortA m).length := by rw [sort_len]; omega
        have ee : (encA (sortA m))[i]? = some (key3 (sortA m)[i].1, .int (sortA m)[i].2) := by
          unfold encA
          rw [List.getElem?_map, List.getElem?_eq_getElem hs]
          rfl
        rw [ee] at hkv
        cases hkv
        have el : lineAt (sortA m) i = lineA (sortA m)[i] := by
          unfold lineAt
          rw [List.getElem?_eq_getElem hs]
        rw [el] at hR
        have mem : (sortA m)[i] ∈ m := (sort_perm m).mem_iff.mp (List.getElem_mem hs)
        obtain ⟨pl, pr⟩ := gm.an _ mem
        obtain ⟨p1, p2, p3⟩ := place_of pl
        have l1 := name_len p1
        have l2 := letter_len p2
        have l3 := name_len p3
        generalize (sortA m)[i] = a at *
        have eC := Same.new (o := HO.tup [.ref r, .int a.2]) hT
        have hTC : upd HB T (HO.tup [.ref r, .int a.2]) T = some (.tup [.ref r, .int a.2]) := upd_same
        replace hrr := eC _ _ hrr
        have hR2 := hR _ eC
        generalize upd HB T (HO.tup [.ref r, .int a.2]) = HC at hTC hrr hR2 ⊢
        clear hR eC hT
        walk_at "rd"
        refine ⟨_, SqT.of hTC, rfl, _, _, rfl, ?_⟩
        walk_at "rd"
        refine ⟨_, SqT.of hrr, rfl, _, _, rfl, _, _, rfl, _, _, rfl, rfl, ?_⟩
        have tx := price_txt pr
        obtain ⟨pi0, pi9⟩ := price_in pr
        have lg : a.2.natAbs.log2 < 1920 := Nat.lt_of_lt_of_le (log2_of (k := 10) (by omega) (by decide)) (by decide)
        have b1 : ∀ n, n ≤ 100 → n ≤ sizeLine := fun n h => small_line h
        clear hTC hrr
        walk_at "rd"
        refine ⟨b1 _ (by rw [len_arc]; decide), b1 _ (by simp only [len_app, len_arc, len_em]; omega), b1 _ (by simp only [len_app, len_arc, len_sp, len_em]; omega), .inl ⟨_, rfl, b1 _ (by omega), b1 _ (by simp only [len_app, len_arc, len_sp, len_em]; omega), b1 _ (by simp only [len_app, len_arc, len_sp, len_em]; omega), .inl ⟨_, rfl, b1 _ (by omega), b1 _ (by simp only [len_app, len_arc, len_sp, len_em]; omega), b1 _ (by simp only [len_app, len_arc, len_sp, len_em]; omega), ?_⟩⟩⟩
        exact ⟨b1 _ (by simp only [len_app, len_arc, len_sp, len_em, tx]; omega), b1 _ (by simp only [len_app, len_arc, len_sp, len_em, tx]; omega), .inl ⟨_, rfl, b1 _ (by omega), b1 _ (by simp only [len_app, len_arc, len_sp, len_em, tx]; omega), hR2⟩⟩
      · intro lt HB hlt eB hlB
        have er : (List.range (encA (sortA m)).length).map (fun i => V.str (lineAt (sortA m) i)) = ((sortA m).map lineA).map V.str := by
          rw [le, ← sort_len m]
          refine List.ext_getElem? fun i => ?_
          rw [List.getElem?_map, List.getElem?_map, List.getElem?_map]
          by_cases hi : i < (sortA m).length
          · have e := List.getElem?_eq_getElem hi
            unfold lineAt
            rw [List.getElem?_range hi, Option.map_some, e]
            rfl
          · rw [List.getElem?_eq_none (by rw [List.length_range]; omega), List.getElem?_eq_none (by omega)]
            rfl
        rw [er] at hlB
        refine ⟨eB _ _ hpA, ?_⟩
        have sm9 := lock_same hp9 eB
        have nlp : lt ≠ p := fun e => by rw [e, upd_same] at hlt; cases hlt
        have hlC : upd HB p (HO.dT (encA (sortA m))) lt = some (.lst (((sortA m).map lineA).map V.str)) := by rw [upd_ne nlp]; exact hlB
        replace sto := sto.mono (Tk.of sm9)
        replace hp9 := sm9 _ _ hp9
        replace hs9 := sm9 _ _ hs9
        replace hq9 := sm9 _ _ hq9
        replace hf2 := sm9 _ _ hf2
        replace hl2 := sm9 _ _ hl2
        replace sl9 := Same.slt sm9 sl9
        replace kp := fun b o h1 h2 hb => sm9 _ _ (kp b o h1 h2 hb)
        generalize upd HB p (HO.dT (encA (sortA m))) = HC at sto hp9 hs9 hq9 hf2 hl2 sl9 kp hlC ⊢
        clear er hlB hlt eB hpA slA sm9
        walk_at "go"
        refine sSl_go ?_
        walk_at "rd"
        have sf := sum_le (names_8 gm.fn)
        have ss := sum_le (names_8 gm.ln)
        have lf : (fs.map V.str).length = fs.length := List.length_map ..
        have ll : (ls.map V.str).length = ls.length := List.length_map ..
        have la : (((sortA m).map lineA).map V.str).length = m.length := by rw [List.length_map, List.length_map, sort_len]
        have bd : (9000 : Nat) ≤ sizeLine := by decide
        have l5 : (Str.ofString "first").length = 5 := by decide +kernel
        have l4 : (Str.ofString "last").length = 4 := by decide +kernel
        refine ⟨_, .inl (SqT.of hf2), by omega, fun t1 h1 => ⟨Str.ofString "first" :: fs, .inl (SqL.of upd_same), ?_, _, .inl (SqT.of (Same.new h1 _ _ hl2)), by omega, fun t2 h2 => ⟨Str.ofString "last" :: ls, .inl (SqL.of upd_same), ?_, _, .inr (SqL.of (((Same.new h1).trans (Same.new h2)) _ _ hlC)), by omega, fun t3 h3 => ?_⟩⟩⟩
        · rw [List.map_cons, List.sum_cons, List.length_cons, len_sp, l5]
          omega
        · rw [List.map_cons, List.sum_cons, List.length_cons, len_sp, l4]
          omega
        have eD := ((Same.new (o := HO.lst (V.str (Str.ofString "first") :: fs.map V.str)) h1).trans (Same.new (o := HO.lst (V.str (Str.ofString "last") :: ls.map V.str)) h2)).trans (Same.new (o := HO.tup (V.str (Txt.join (Str.ofString " ") (Str.ofString "first" :: fs)) :: V.str (Txt.join (Str.ofString " ") (Str.ofString "last" :: ls)) :: ((sortA m).map lineA).map V.str)) h3)
        have ht3 : upd (upd (upd HC t1 (HO.lst (V.str (Str.ofString "first") :: fs.map V.str))) t2 (HO.lst (V.str (Str.ofString "last") :: ls.map V.str))) t3 (HO.tup (V.str (Txt.join (Str.ofString " ") (Str.ofString "first" :: fs)) :: V.str (Txt.join (Str.ofString " ") (Str.ofString "last" :: ls)) :: ((sortA m).map lineA).map V.str)) t3 = some (.tup ((linesM fs ls (sortA m)).map V.str)) := upd_same
        replace sto := sto.mono (Tk.of eD)
        replace hp9 := eD _ _ hp9
        replace hs9 := eD _ _ hs9
        replace hq9 := eD _ _ hq9
        replace hf2 := eD _ _ hf2
        replace hl2 := eD _ _ hl2
        replace sl9 := Same.slt eD sl9
        replace kp := fun b o h1 h2 hb => eD _ _ (kp b o h1 h2 hb)
        generalize upd (upd (upd HC t1 (HO.lst (V.str (Str.ofString "first") :: fs.map V.str))) t2 (HO.lst (V.str (Str.ofString "last") :: ls.map V.str))) t3 (HO.tup (V.str (Txt.join (Str.ofString " ") (Str.ofString "first" :: fs)) :: V.str (Txt.join (Str.ofString " ") (Str.ofString "last" :: ls)) :: ((sortA m).map lineA).map V.str)) = HE at ht3 sto hp9 hs9 hq9 hf2 hl2 sl9 kp ⊢
        clear eD h1 h2 h3 hlC
        refine ⟨Z.c_Machine, dx, Z.q_Machine_own_lines, _, sl9, D.Machine.sc, 3, D.Machine_own_lines, q _ (fun b o h1 h2 hb => (SlX.slH_ne h1 h2).trans (kp b o h1 h2 hb)) ?_⟩
        have tkF : Tk HE (SlX.slH HE x Z.c_Machine dx (SlX.putS 3 (V.ref t3) [some (.ref p), some (.ref f), some (.ref l), none, some (.ref st), some (.ref sp)])) := fun b zs hb => by
          obtain ⟨n1, n2⟩ := slt_off sl9 hb (fun _ z => by cases z) (fun _ z => by cases z)
          rw [SlX.slH_ne n1 n2]
          exact hb
        exact ⟨dx, p, f, l, t3, st, sp, ys, ws, SlX.slH_slt hne, (SlX.slH_ne npx npd).trans hp9, tkF _ _ hf2, tkF _ _ hl2, tkF _ _ ht3, tkF _ _ hs9, sorted_perm (sort_perm m).symm so, (SlX.slH_ne nqx nqd).trans hq9, sto.mono tkF, gm.perm (sort_perm m).symm⟩
end
section
variable {P : Program} {w : World} {K : PySem.W.Frag} {mg : Str → Option Value} {base : Heap} {Z : Ad}
/-! ### draws -/
theorem erase_perm {α : Type} : ∀ {ls : List α} {k : Nat} (h : k < ls.length), (ls[k] :: ls.eraseIdx k).Perm ls
  | a :: ls, 0, _ => .refl _
  | a :: ls, k + 1, h => by
    have h' : k < ls.length := Nat.lt_of_succ_lt_succ h
    show (ls[k] :: a :: ls.eraseIdx k).Perm (a :: ls)
    exact (List.Perm.swap a ls[k] (ls.eraseIdx k)).trans ((erase_perm h').cons a)
def spMixed : Sp := fun vs H Q _ => ∃ (d a : Addr) (x y z : Int) (xs : List V), vs = [.ref d, .ref a] ∧ H d = some (.lst [.int x, .int y, .int z]) ∧ a ≠ d ∧ H a = some (.lst xs) ∧ xs.length ≤ 1000 ∧
  ∀ p ys H', Dk d H H' → p ≠ d → H p = none → ys.Perm xs → H' p = some (.lst ys) → Q (.ref p) H'
theorem ok_mixed (D : Ds K mg Z) (B : Bt mg) (C0 : Cs mg) : FnOk P w K mg base CX0 2 Z.a_mixed Z.d_mixed P_mixed spMixed := by
  have G_roll := ok_roll (P := P) (w := w) (base := base) D B
  obtain ⟨⟨t_LIMIT, c_LIMIT⟩, ⟨t_ALPHABET, c_ALPHABET⟩, ⟨t_MAX_LETTERS, c_MAX_LETTERS⟩, ⟨t_MAX_STATES, c_MAX_STATES⟩, ⟨t_MAX_PRICE, c_MAX_PRICE⟩, ⟨t_FIRST, c_FIRST⟩, ⟨t_LAST, c_LAST⟩, ⟨t_ARC, c_ARC⟩⟩ := C0
  refine D.mixed.F.ok sc_mixed (fun vs H Q E h => ?_) (fun cdv A outer s H vs Q E hr h => ?_)
  · obtain ⟨d, a, x, y, z, xs, rfl, _⟩ := h
    rfl
  · obtain ⟨d, a, x, y, z, xs, rfl, hd, nad, ha, hl, q⟩ := h
    refine ⟨_, (pss_cons (ps_par (i := 2) (j := 3) (by rfl) sc_mixed.nd rfl rfl (by decide) rfl rfl (pa_cons (pe_callTy call_list_of (by rfl) B.list (by decide +kernel) (pa_cons (pv 1) pa_nil)) (pa_cons (pe_lst pa_nil) pa_nil)) (by rfl))
    (pss_cons (ps_for PassesOwn.never rfl (pi_range1 (by rfl) B.range (pa_cons (pe_callB call_lenM (by rfl) B.len (by decide +kernel) (pa_cons (pv 1) pa_nil)) pa_nil)) (pg_name (i := 4) sc_mixed.nd rfl (Or.inl rfl))
      (pss_one (ps_expr (pe_lm PySem.F.plainAttrs_list PySem.F.slot_list_append PySem.F.type_list_append mt_append (pv 3) (pa_cons (pe_lm PySem.F.plainAttrs_list PySem.F.slot_list_pop PySem.F.type_list_pop mt_popAt (pv 2) (pa_cons (pe_df D.roll G_roll (hr.mono (by decide)) (by rfl) (pa_cons (pv 0) (pa_cons (pe_callB call_lenM (by rfl) B.len (by decide +kernel) (pa_cons (pv 2) pa_nil)) pa_nil))) pa_nil)) pa_nil)))))
    (pss_one (ps_ret (pv 3))))), ?_⟩
    walk_at "rd"
    refine ⟨_, .inl (SqL.of ha), fun l hl2 => ⟨by decide, fun p hp => ?_⟩⟩
    have npl : p ≠ l := fun e => by rw [e, upd_same] at hp; cases hp
    have hp0 : H p = none := by rw [← hp]; exact (upd_ne npl).symm
    have nld : l ≠ d := Dk.ne hd hl2
    have npd : p ≠ d := Dk.ne hd hp0
    have sm0 : Same H (upd (upd H l (HO.lst xs)) p (HO.lst [])) := (Same.new hl2).trans (Same.new hp)
    have hl0 : upd (upd H l (HO.lst xs)) p (HO.lst []) l = some (.lst xs) := by rw [upd_ne npl.symm, upd_same]
    have hp1 : upd (upd H l (HO.lst xs)) p (HO.lst []) p = some (.lst []) := upd_same
    have k0 := Dk.of hd sm0
    generalize upd (upd H l (HO.lst xs)) p (HO.lst []) = H0 at sm0 hl0 hp1 k0 ⊢
    have ha0 := sm0 _ _ ha
    walk_at "gg"
    refine ⟨by omega, by omega, ?_⟩
    rw [Int.toNat_natCast]
    obtain ⟨Pv, hP⟩ := inv_bi (fun (i : Nat) (σ : St) (H' : Hp) => ∃ (ls ds : List V) (o4 : Option V), σ = [some (.ref d), some (.ref a), some (.ref l), some (.ref p), o4] ∧ Dk d H H' ∧ H' l = some (.lst ls) ∧ H' p = some (.lst ds) ∧ ls.length + i = xs.length ∧ (ds ++ ls).Perm xs)
    refine loop_range Pv ((hP _ _ _).mpr ⟨xs, [], _, rfl, k0, hl0, hp1, rfl, .refl _⟩) (fun i σ H1 hi hpv => ?_) (fun σ H1 hpv => ?_)
    · obtain ⟨ls, ds, o4, rfl, k1, hl1, hp2, e1, pm⟩ := (hP _ _ _).mp hpv
      clear hpv
      have e2 : ds.length = i := by
        have := pm.length_eq
        rw [List.length_append] at this
        omega
      walk_at "rd"
      walk_at "gg"
      obtain ⟨x1, y1, z1, hd1⟩ := k1.2
      refine ⟨d, x1, y1, z1, _, rfl, hd1, by omega, Nat.lt_of_lt_of_le (log2_of (k := 10) (by omega) (by decide)) (by decide), fun r x' y' z' r0 r1 => ?_⟩
      have hr : r.toNat < ls.length := by omega
      have hl3 : upd H1 d (HO.lst [.int x', .int y', .int z']) l = some (.lst ls) := by rw [upd_ne nld]; exact hl1
      have hp3 : upd H1 d (HO.lst [.int x', .int y', .int z']) p = some (.lst ds) := by rw [upd_ne npd]; exact hp2
      have k3 := k1.trans (Dk.roll x' y' z')
      refine ⟨ls, r, rfl, hl3, by omega, by omega, r.toNat, seqIx r0 r1, _, List.getElem?_eq_getElem hr, ds, by rw [upd_ne npl]; exact hp3, ?_, (hP _ _ _).mpr ⟨ls.eraseIdx r.toNat, ds ++ [ls[r.toNat]], _, rfl, (k3.lay hl2 nld).lay hp0 npd, ?_, ?_, ?_, ?_⟩⟩
      · exact Nat.lt_of_le_of_lt (show ds.length ≤ 1000 by omega) (by decide)
      · rw [upd_ne npl.symm, upd_same]
      · rw [upd_same]
      · rw [List.length_eraseIdx_of_lt hr]
        omega
      · rw [List.append_assoc]
        exact ((erase_perm hr).append_left ds).trans pm
    · obtain ⟨ls, ds, o4, rfl, k1, hl1, hp2, e1, pm⟩ := (hP _ _ _).mp hpv
      have el : ls = [] := List.length_eq_zero_iff.mp (by omega)
      subst el
      rw [List.append_nil] at pm
      have q' := q p ds H1 k1 npd hp0 pm hp2
      walk_at "gg"
theorem shaped_strsL {xs : List Str} (h : ∀ x ∈ xs, PyData.strOk x = true) : SeqAt.shaped (.list (xs.map .str)) = true := by
  unfold SeqAt.shaped
  rw [PyData.canLay0, lays xs h]
  rw [PyData.depth, deps xs]
  decide
def spSome : Sp := fun vs H Q _ => ∃ (d a : Addr) (x y z : Int) (xs : List Str), vs = [.ref d, .ref a] ∧ H d = some (.lst [.int x, .int y, .int z]) ∧ a ≠ d ∧ H a = some (.lst (xs.map V.str)) ∧ 0 < xs.length ∧ xs.length ≤ 1000 ∧ (∀ x ∈ xs, PyData.strOk x = true) ∧
  ∀ p (ys : List Str) H', Dk d H H' → p ≠ d → H p = none → ys.Sublist xs → 0 < ys.length → H' p = some (.lst (ys.map V.str)) → Q (.ref p) H'
theorem ok_some (D : Ds K mg Z) (B : Bt mg) (C0 : Cs mg) : FnOk P w K mg base CX0 3 Z.a_some Z.d_some P_some spSome := by
  have G_roll := ok_roll (P := P) (w := w) (base := base) D B
  have G_pick := ok_pick (P := P) (w := w) (base := base) D B
  obtain ⟨⟨t_LIMIT, c_LIMIT⟩, ⟨t_ALPHABET, c_ALPHABET⟩, ⟨t_MAX_LETTERS, c_MAX_LETTERS⟩, ⟨t_MAX_STATES, c_MAX_STATES⟩, ⟨t_MAX_PRICE, c_MAX_PRICE⟩, ⟨t_FIRST, c_FIRST⟩, ⟨t_LAST, c_LAST⟩, ⟨t_ARC, c_ARC⟩⟩ := C0
  refine D.some.F.ok sc_some (fun vs H Q E h => ?_) (fun cdv A outer s H vs Q E hr h => ?_)
  · obtain ⟨d, a, x, y, z, xs, rfl, _⟩ := h
    rfl
  · obtain ⟨d, a, x, y, z, xs, rfl, hd, nad, ha, h0, hl, ok, q⟩ := h
    refine ⟨_, (pss_cons (ps_setLc (i := 2) (own := [("_law_item", 3)]) (g := gName 3) rfl sc_some.nd rfl rfl (sw_true rfl rfl rfl (by decide +kernel)) (pi_listK (K := K) rfl (pv 1)) (blkOk_by (N := N_some) (sc := defScope s_some) (by decide +kernel)) (fun _ _ _ _ _ => (pg_name (i := 3) sc_some.nd rfl (Or.inl rfl))) (fun _ _ _ _ _ => (pts_one (pt_cmpR op_eq (pe_df D.roll G_roll (hr.mono (by decide)) (by rfl) (pa_cons (pv 0) (pa_cons pe_int pa_nil))) pe_int (nomark _)))) (fun _ _ _ _ _ => (pv 3)))
    (pss_one (ps_ret (pe_ifExp (pt_cmpR (op_neK (K := K) rfl hr.units) (pv 2) (pe_lst pa_nil) (nomark _)) (pv 2) (pe_lst (pa_cons (pe_df D.pick G_pick (hr.mono (by decide)) (by rfl) (pa_cons (pv 0) (pa_cons (pv 1) pa_nil))) pa_nil)))))), ?_⟩
    walk_at "rd"
    have lx : (xs.map V.str).length = xs.length := List.length_map ..
    refine ⟨⟨_, SqL.of ha⟩, fun p hp => ?_⟩
    have npd : p ≠ d := Dk.ne hd hp
    obtain ⟨Pv, hP⟩ : ∃ Pv : Nat → Hp → Prop, ∀ i H', Pv i H' ↔ (Dk d H H' ∧ ∃ ys : List Str, H' p = some (.lst (ys.map V.str)) ∧ ys.Sublist (xs.take i)) := ⟨_, fun _ _ => Iff.rfl⟩
    refine lc_it (walk_list (K := K) (a := a) (xs := xs.map V.str)) Pv ((hP _ _).mpr ⟨Dk.of hd (Same.new hp), [], upd_same, by simp⟩) (fun i H' _ pv => SqL.of (((hP _ _).mp pv).1.1 _ _ nad ha)) ?_ ?_
    · rintro i v H1 H2 hi pv ⟨rfl, hv⟩
      obtain ⟨k1, ys, hp1, sb⟩ := (hP _ _).mp pv
      obtain ⟨x1, y1, z1, hd1⟩ := k1.2
      have hi2 : i < xs.length := by omega
      rw [List.getElem?_map, List.getElem?_eq_getElem hi2] at hv
      cases hv
      have et : xs.take (i + 1) = xs.take i ++ [xs[i]] := by rw [List.take_add_one, List.getElem?_eq_getElem hi2]; rfl
      have fin := fun (H' : Hp) (k : Dk d H H') (zs : List Str) (e1 : H' p = some (.lst (zs.map V.str))) (e2 : zs.Sublist (xs.take i ++ [xs[i]])) => (hP (i + 1) H').mpr ⟨k, zs, e1, by rw [et]; exact e2⟩
      clear hP et pv
      walk_at "rd"
      refine ⟨d, x1, y1, z1, _, rfl, hd1, by decide, by decide, fun r x' y' z' r0 r1 => ?_⟩
      have k3 := k1.trans (Dk.roll x' y' z')
      have hp3 : upd H2 d (HO.lst [.int x', .int y', .int z']) p = some (.lst (ys.map V.str)) := by rw [upd_ne npd]; exact hp1
      have sl := sb.length_le
      rw [List.length_take] at sl
      by_cases e : r = 0
      · subst e
        walk_at "rd"
        refine ⟨?_, fin _ (k3.lay hp npd) (ys ++ [xs[i]]) ?_ ?_⟩
        · rw [List.length_map]
          exact Nat.lt_of_le_of_lt (show ys.length ≤ 1000 by omega) (by decide)
        · rw [upd_same, List.map_append]
          rfl
        · exact sb.append (.refl _)
      · walk_at "rd"
        exact fin _ k3 ys hp3 (sb.trans (List.sublist_append_left _ _))
    · intro H1 pv
      obtain ⟨k1, ys, hp1, sb⟩ := (hP _ _).mp pv
      rw [List.length_map, List.take_length] at sb
      obtain ⟨x1, y1, z1, hd1⟩ := k1.2
      have oky : ∀ y ∈ ys, PyData.strOk y = true := fun y hy => ok y (sb.subset hy)
      walk_at "gg"
      refine ⟨Nat.zero_le _, fun p2 hp2 => ?_⟩
      have e2 := Same.new (o := HO.lst []) hp2
      have k2 := k1.same e2
      refine ⟨.list (ys.map .str), .list [], .lst (SqL.of (e2 _ _ hp1)) (dps ys), .lst (SqL.of upd_same) .nil, shaped_strsL oky, by decide +kernel, ?_⟩
      cases ys with
      | cons y r => exact ⟨true, rfl, q p (y :: r) _ k2 npd hp sb (Nat.zero_lt_succ _) (e2 _ _ hp1)⟩
      | nil =>
        obtain ⟨x2, y2, z2, hd2⟩ := k2.2
        refine ⟨false, rfl, d, x2, y2, z2, _, _, rfl, hd2, .inl ⟨a, rfl, nad, k2.1 _ _ nad ha⟩, by omega, by omega, fun v hv x3 y3 z3 => ⟨by decide, fun p3 hp3 => ?_⟩⟩
        obtain ⟨x4, hx4, rfl⟩ := List.mem_map.mp hv
        have k3 := k2.trans (Dk.roll x3 y3 z3)
        have np : p3 ≠ d := fun e => by rw [e, upd_same] at hp3; cases hp3
        have hn := k3.none np hp3
        exact q p3 [x4] _ (k3.lay hn np) np hn (List.singleton_sublist.mpr hx4) (Nat.zero_lt_succ _) upd_same
end
section
variable {P : Program} {w : World} {K : PySem.W.Frag} {mg : Str → Option Value} {base : Heap} {Z : Ad}
/-! ### sorted texts, sorted places -/
def leS (a b : Str) : Bool := decide (a.cps.toList ≤ b.cps.toList)
def sortS (xs : List Str) : List Str := xs.mergeSort leS
def encS : V → PyData
  | .str x => .str x
  | _ => .none
theorem leS_eq (a b : Str) : PySem.W.dataLe false encS (.str a) (.str b) = leS a b := by
  have h := congrFun (congrFun (PySem.W.dataLe_str (fun x : Str => x)) a) b
  exact h
theorem leS_total : PySem.W.TotalLe leS := by
  have h := PySem.W.sortLe_total (PyProof.Rows.listOrd PyProof.Rows.itemOrd) false (fun b : Str => PySem.W.keyToks (.str b))
  have e : leS = PySem.W.sortLe (PyProof.Rows.listOrd PyProof.Rows.itemOrd) false (fun b : Str => PySem.W.keyToks (.str b)) := (PySem.W.dataLe_str (fun x : Str => x)).symm
  rw [e]
  exact h
theorem sortS_map (xs : List Str) : (xs.map V.str).mergeSort (PySem.W.dataLe false encS) = (sortS xs).map V.str :=
  (PySem.W.sort_maps V.str fun a _ b _ => (leS_eq a b).symm).symm
theorem sortS_perm (xs : List Str) : (sortS xs).Perm xs := List.mergeSort_perm xs leS
theorem asc_pw : ∀ {xs : List Str}, xs.Pairwise (fun a b => ltS a b = true) → ascB xs = true
  | [], _ => rfl
  | [_], _ => rfl
  | a :: b :: r, h => by
    obtain ⟨h1, h2⟩ := List.pairwise_cons.mp h
    show (ltS a b && ascB (b :: r)) = true
    rw [h1 b List.mem_cons_self, asc_pw h2]
    rfl
theorem lt_of_le_ne {a b : Str} (h : leS a b = true) (n : a ≠ b) : ltS a b = true := by
  unfold leS at h
  unfold ltS
  rw [decide_eq_true_eq] at h ⊢
  rcases List.le_iff_lt_or_eq.mp h with h | h
  · exact h
  · exact absurd (key_inj h) n
theorem sortS_pw {xs : List Str} (nd : xs.Nodup) : (sortS xs).Pairwise (fun a b => ltS a b = true) := by
  have h1 := PySem.W.sort_pairwise leS_total xs
  have h2 : (sortS xs).Nodup := (sortS_perm xs).nodup_iff.mpr nd
  exact (List.Pairwise.and h1 h2).imp fun ⟨a, b⟩ => lt_of_le_ne a b
theorem sortS_asc {xs : List Str} (nd : xs.Nodup) : ascB (sortS xs) = true := asc_pw (sortS_pw nd)
theorem pw_asc : ∀ {xs : List Str}, ascB xs = true → xs.Pairwise (fun a b => ltS a b = true)
  | [], _ => .nil
  | [_], _ => List.pairwise_singleton _ _
  | a :: b :: r, h => by
    have h' : (ltS a b && ascB (b :: r)) = true := h
    rw [Bool.and_eq_true] at h'
    have ih := pw_asc h'.2
    refine List.pairwise_cons.mpr ⟨fun c hc => ?_, ih⟩
    rcases List.mem_cons.mp hc with rfl | hc
    · exact h'.1
    · have h2 := (List.pairwise_cons.mp ih).1 c hc
      have h1 := h'.1
      unfold ltS at h1 h2 ⊢
      rw [decide_eq_true_eq] at h1 h2 ⊢
      exact List.lt_trans h1 h2
theorem sub_asc {xs ys : List Str} (h : ascB ys = true) (s : xs.Sublist ys) : ascB xs = true := asc_pw ((pw_asc h).sublist s)
theorem asc_nd {xs : List Str} (h : ascB xs = true) : xs.Nodup := (pw_asc h).imp fun {a b} e n => by
  rw [n] at e
  unfold ltS at e
  rw [decide_eq_true_eq] at e
  exact List.lt_irrefl _ e
theorem sort_strs {H : Hp} {p : Addr} {xs : List Str} {Q : VK} (hp : H p = some (.lst (xs.map V.str))) (q : ∀ l, H l = none → Q (.ref l) (upd H l (.lst ((sortS xs).map V.str)))) : rSortL K [.ref p] H Q := by
  refine ⟨p, _, encS, rfl, hp, fun v hv => ?_, fun d hd d' hd' => ?_, .inr fun d hd => ?_, fun v hv => ?_, fun l hl => ?_⟩
  · obtain ⟨x, _, rfl⟩ := List.mem_map.mp hv
    exact .str x
  · rw [List.map_map] at hd hd'
    obtain ⟨x, _, rfl⟩ := List.mem_map.mp hd
    obtain ⟨y, _, rfl⟩ := List.mem_map.mp hd'
    rfl
  · rw [List.map_map] at hd
    obtain ⟨x, _, rfl⟩ := List.mem_map.mp hd
    exact ⟨(fun e => by cases e), fun ys e => by cases e⟩
  · obtain ⟨x, _, rfl⟩ := List.mem_map.mp hv
    exact Nat.zero_le _
  · rw [sortS_map]
    exact q l hl
theorem leA_total : PySem.W.TotalLe leA := PySem.W.sortLe_total (PyProof.Rows.listOrd PyProof.Rows.itemOrd) false (fun a : Arc × Int => PySem.W.keyToks (.tuple ((key3 a.1).map keyD)))
theorem toks3 {a b : Arc} (h : PySem.W.keyToks (.tuple ((key3 a).map keyD)) = PySem.W.keyToks (.tuple ((key3 b).map keyD))) : a = b := by
  obtain ⟨a1, a2, a3⟩ := a
  obtain ⟨b1, b2, b3⟩ := b
  simp only [key3, List.map_cons, List.map_nil, keyD, PySem.W.keyToks, PySem.W.keyToksAll, List.cons_append, List.nil_append, List.cons.injEq, Sum.inr.injEq, true_and, and_true] at h
  rw [key_inj h.1, key_inj h.2.1, key_inj h.2.2]
theorem leA_anti {a b : Arc × Int} (h1 : leA a b = true) (h2 : leA b a = true) : a.1 = b.1 := by
  have h1' : (!PyProof.Rows.lexLt PyProof.Rows.itemOrd (PySem.W.keyToks (.tuple ((key3 b.1).map keyD))) (PySem.W.keyToks (.tuple ((key3 a.1).map keyD)))) = true := h1
  have h2' : (!PyProof.Rows.lexLt PyProof.Rows.itemOrd (PySem.W.keyToks (.tuple ((key3 a.1).map keyD))) (PySem.W.keyToks (.tuple ((key3 b.1).map keyD)))) = true := h2
  rw [Bool.not_eq_true'] at h1' h2'
  exact toks3 (PyProof.Rows.lex_total _ _ h2' h1')
theorem pw_one {α : Type} {r : α → α → Prop} (anti : ∀ a b, r a b → r b a → a = b) : ∀ {m n : List α}, m.Pairwise r → n.Pairwise r → m.Perm n → m = n
  | [], n, _, _, p => (List.Perm.nil_eq p)
  | a :: m, [], _, _, p => absurd p.symm (by simp)
  | a :: m, b :: n, hm, hn, p => by
    have e : a = b := by
      have ha := p.mem_iff.mp (List.mem_cons_self (a := a) (l := m))
      have hb := p.mem_iff.mpr (List.mem_cons_self (a := b) (l := n))
      rcases List.mem_cons.mp ha with h | h
      · exact h
      · rcases List.mem_cons.mp hb with h' | h'
        · exact h'.symm
        · exact anti a b ((List.pairwise_cons.mp hm).1 b h') ((List.pairwise_cons.mp hn).1 a h)
    subst e
    rw [pw_one anti (List.pairwise_cons.mp hm).2 (List.pairwise_cons.mp hn).2 (List.Perm.cons_inv p)]
theorem nd_inj {m : List (Arc × Int)} (nd : (m.map (·.1)).Nodup) {a b : Arc × Int} (ha : a ∈ m) (hb : b ∈ m) (e : a.1 = b.1) : a = b := by
  have h1 := val_at nd a ha
  have h2 := val_at nd b hb
  rw [e, h2] at h1
  exact Prod.ext e (V.int.inj (Option.some.inj h1)).symm
theorem sortA_eq {m n : List (Arc × Int)} (p : m.Perm n) (nd : (m.map (·.1)).Nodup) : sortA m = sortA n := by
  have h1 := PySem.W.sort_pairwise leA_total m
  have h2 := PySem.W.sort_pairwise leA_total n
  have pm := sort_perm m
  have pn := (sort_perm n).trans p.symm
  refine pw_one (r := fun a b => leA a b = true ∧ a ∈ m ∧ b ∈ m) (fun a b x y => nd_inj nd x.2.1 x.2.2 (leA_anti x.1 y.1)) ?_ ?_ (pm.trans pn.symm)
  · exact h1.imp_of_mem fun ha hb h => ⟨h, pm.mem_iff.mp ha, pm.mem_iff.mp hb⟩
  · exact h2.imp_of_mem fun ha hb h => ⟨h, pn.mem_iff.mp ha, pn.mem_iff.mp hb⟩
/-! ### state names -/
def TEN : List Str := [Str.ofString "s", Str.ofString "t", Str.ofString "p", Str.ofString "q", Str.ofString "qa", Str.ofString "first", Str.ofString "last", Str.ofString "arc", Str.ofString "zzzzzzzz", Str.ofString "u"]
theorem ten_nd : TEN.Nodup := by decide +kernel
theorem ten_name : ∀ x ∈ TEN, isName (.str x) = true := by decide +kernel
theorem cut_take (xs : List V) (n : Nat) : cutV xs none (some (n : Int)) = xs.take n := by
  unfold cutV
  rw [HT.sIx_none, HT.sIx_nat, List.drop_zero, Nat.sub_zero]
  by_cases h : n ≤ xs.length
  · rw [Nat.min_eq_left h]
  · rw [Nat.min_eq_right (by omega), List.take_of_length_le (Nat.le_refl _), List.take_of_length_le (by omega)]
theorem perm_strs {xs : List Str} {ys : List V} (p : ys.Perm (xs.map V.str)) : ∃ zs : List Str, ys = zs.map V.str ∧ zs.Perm xs := by
  let g : V → Str := fun v => match v with | .str x => x | _ => Str.empty
  have hg : (xs.map V.str).map g = xs := by
    rw [List.map_map]
    exact (List.map_congr_left (fun x _ => rfl)).trans (List.map_id xs)
  refine ⟨ys.map g, ?_, ?_⟩
  · rw [List.map_map]
    refine ((List.map_congr_left (f := V.str ∘ g) (g := id) fun v hv => ?_).trans (List.map_id ys)).symm
    obtain ⟨x, _, rfl⟩ := List.mem_map.mp (p.mem_iff.mp hv)
    rfl
  · have := p.map g
    rw [hg] at this
    exact this
def spNamesD : Sp := fun vs H Q _ => ∃ (d : Addr) (x y z : Int) (n : Nat), vs = [.ref d, .int (n : Int)] ∧ H d = some (.lst [.int x, .int y, .int z]) ∧ n ≤ 10 ∧
  ∀ p (ys : List Str) H', Dk d H H' → p ≠ d → H p = none → ys.length = n → (∀ y ∈ ys, y ∈ TEN) → ascB ys = true → H' p = some (.lst (ys.map V.str)) → Q (.ref p) H'
theorem ok_state_names (D : Ds K mg Z) (B : Bt mg) (C0 : Cs mg) : FnOk P w K mg base CX0 3 Z.a_state_names Z.d_state_names P_state_names spNamesD := by
  have G_mixed := ok_mixed (P := P) (w := w) (base := base) D B C0
  obtain ⟨⟨t_LIMIT, c_LIMIT⟩, ⟨t_ALPHABET, c_ALPHABET⟩, ⟨t_MAX_LETTERS, c_MAX_LETTERS⟩, ⟨t_MAX_STATES, c_MAX_STATES⟩, ⟨t_MAX_PRICE, c_MAX_PRICE⟩, ⟨t_FIRST, c_FIRST⟩, ⟨t_LAST, c_LAST⟩, ⟨t_ARC, c_ARC⟩⟩ := C0
  refine D.state_names.F.ok sc_state_names (fun vs H Q E h => ?_) (fun cdv A outer s H vs Q E hr h => ?_)
  · obtain ⟨d, x, y, z, n, rfl, _⟩ := h
    rfl
  · obtain ⟨d, x, y, z, n, rfl, hd, hn, q⟩ := h
    refine ⟨_, (pss_one (ps_ret (pe_callB (cr_sortL (K := K) rfl hr.units) (by rfl) B.sorted (by decide +kernel) (pa_cons (pe_slice (sl_listK (K := K) rfl) (pe_df D.mixed G_mixed (hr.mono (by decide)) (by rfl) (pa_cons (pv 0) (pa_cons (pe_lst (pa_cons pe_str (pa_cons pe_str (pa_cons pe_str (pa_cons pe_str (pa_cons pe_str (pa_cons pe_str (pa_cons pe_str (pa_cons pe_str (pa_cons pe_str (pa_cons pe_str pa_nil))))))))))) pa_nil))) po_none (po_some (pv 1))) pa_nil)))), ?_⟩
    walk_at "rd"
    refine ⟨by decide, fun p hp => ?_⟩
    have npd := Dk.ne hd hp
    have e1 := Same.new (o := HO.lst (TEN.map V.str)) hp
    refine ⟨d, p, x, y, z, TEN.map V.str, rfl, e1 _ _ hd, npd, upd_same, by decide, fun p2 ys H2 k2 np2 hp2 pm hys => ?_⟩
    obtain ⟨zs, rfl, pz⟩ := perm_strs pm
    have k1 := (Dk.of hd e1).trans k2
    refine ⟨p2, _, rfl, SqL.of hys, fun p3 hp3 => ?_⟩
    have np3 : p3 ≠ d := Dk.ne k2.2.choose_spec.choose_spec.choose_spec hp3
    have k3 := k1.lay (o := HO.lst (cutV (zs.map V.str) none (some (n : Int)))) (k1.none np3 hp3) np3
    rw [cut_take, ← List.map_take] at k3 ⊢
    have zl : zs.length = 10 := pz.length_eq
    have znd : (zs.take n).Nodup := (pz.nodup_iff.mpr ten_nd).sublist (List.take_sublist _ _)
    refine sort_strs upd_same fun l hl => ?_
    have npl : l ≠ d := Dk.ne k3.2.choose_spec.choose_spec.choose_spec hl
    have hl0 := k3.none npl hl
    refine q l _ _ (k3.lay hl0 npl) npl hl0 ?_ (fun y hy => ?_) (sortS_asc znd) upd_same
    · rw [(sortS_perm _).length_eq, List.length_take]
      omega
    · exact pz.mem_iff.mp (List.mem_of_mem_take ((sortS_perm _).mem_iff.mp hy))
end
section
variable {P : Program} {w : World} {K : PySem.W.Frag} {mg : Str → Option Value} {base : Heap} {Z : Ad}
/-! ### plain machines -/
def putA (m : List (Arc × Int)) (k : Arc) (i : Int) : List (Arc × Int) := if (m.any fun a => decide (a.1 = k)) = true then m.map (fun a => if a.1 = k then (a.1, i) else a) else m ++ [(k, i)]
theorem any_enc (m : List (Arc × Int)) (k : Arc) : ((encA m).any fun kv => decide (kv.1 = key3 k)) = m.any fun a => decide (a.1 = k) := by
  unfold encA
  rw [List.any_map]
  congr 1
  funext a
  show decide (key3 a.1 = key3 k) = decide (a.1 = k)
  by_cases h : a.1 = k
  · rw [h]; simp
  · rw [decide_eq_false h, decide_eq_false fun e => h (key3_inj e)]
theorem put_enc (m : List (Arc × Int)) (k : Arc) (i : Int) : putK (encA m) (key3 k) (.int i) = encA (putA m k i) := by
  unfold putK putA
  rw [any_enc]
  split
  · unfold encA
    rw [List.map_map, List.map_map]
    refine List.map_congr_left fun a _ => ?_
    show (if key3 a.1 = key3 k then (key3 a.1, V.int i) else (key3 a.1, V.int a.2)) = (key3 (if a.1 = k then (a.1, i) else a).1, V.int (if a.1 = k then (a.1, i) else a).2)
    by_cases h : a.1 = k
    · rw [if_pos (by rw [h]), if_pos h]
    · rw [if_neg fun e => h (key3_inj e), if_neg h]
  · unfold encA
    rw [List.map_append]
    rfl
theorem putA_new {m : List (Arc × Int)} {k : Arc} {i : Int} (h : k ∉ m.map (·.1)) : putA m k i = m ++ [(k, i)] := by
  unfold putA
  rw [if_neg]
  intro z
  obtain ⟨p, hp, e⟩ := List.any_eq_true.mp z
  exact h (List.mem_map.mpr ⟨p, hp, of_decide_eq_true e⟩)
theorem putA_keys (m : List (Arc × Int)) (k : Arc) (i : Int) : (putA m k i).map (·.1) = if k ∈ m.map (·.1) then m.map (·.1) else m.map (·.1) ++ [k] := by
  by_cases h : k ∈ m.map (·.1)
  · rw [if_pos h]
    obtain ⟨a, ha, e⟩ := List.mem_map.mp h
    unfold putA
    rw [if_pos (List.any_eq_true.mpr ⟨a, ha, decide_eq_true e⟩), List.map_map]
    refine List.map_congr_left fun b _ => ?_
    show (if b.1 = k then (b.1, i) else b).1 = b.1
    split <;> rfl
  · rw [if_neg h, putA_new h, List.map_append]
    rfl
theorem putA_nd {m : List (Arc × Int)} {k : Arc} {i : Int} (nd : (m.map (·.1)).Nodup) : ((putA m k i).map (·.1)).Nodup := by
  rw [putA_keys]
  split
  · exact nd
  · rename_i h
    exact List.nodup_append.mpr ⟨nd, (by simp), fun a ha b hb e => by rw [List.mem_singleton] at hb; rw [e, hb] at ha; exact h ha⟩
theorem putA_mem {m : List (Arc × Int)} {k : Arc} {i : Int} {a : Arc × Int} (h : a ∈ putA m k i) : a = (k, i) ∨ a ∈ m := by
  unfold putA at h
  split at h
  · obtain ⟨b, hb, rfl⟩ := List.mem_map.mp h
    by_cases e : b.1 = k
    · rw [if_pos e, ← e]
      exact .inl rfl
    · rw [if_neg e]
      exact .inr hb
  · rcases List.mem_append.mp h with h | h
    · exact .inr h
    · exact .inl (List.mem_singleton.mp h)
theorem putA_len (m : List (Arc × Int)) (k : Arc) (i : Int) : (putA m k i).length ≤ m.length + 1 := by
  unfold putA
  split
  · rw [List.length_map]
    omega
  · rw [List.length_append]
    exact Nat.le_refl _
abbrev Pm := List Str × List Str × List (Arc × Int)
def kF : Str := Str.ofString "firsts"
def kL : Str := Str.ofString "lasts"
def kA : Str := Str.ofString "arcs"
/-- the plain machine at p -/
def PlA (H : Hp) (p f l a : Addr) (fs ls : List Str) (m : List (Arc × Int)) : Prop := H p = some (.dK [(.inr kF, .ref f), (.inr kL, .ref l), (.inr kA, .ref a)]) ∧ H f = some (.lst (fs.map V.str)) ∧ H l = some (.lst (ls.map V.str)) ∧ H a = some (.dT (encA m))
def PlO (H : Hp) (p : Addr) (fs ls : List Str) (m : List (Arc × Int)) : Prop := ∃ f l a, PlA H p f l a fs ls m
theorem PlA.same {H H' : Hp} {p f l a : Addr} {fs ls : List Str} {m : List (Arc × Int)} (e : Same H H') (h : PlA H p f l a fs ls m) : PlA H' p f l a fs ls m := ⟨e _ _ h.1, e _ _ h.2.1, e _ _ h.2.2.1, e _ _ h.2.2.2⟩
theorem PlO.same {H H' : Hp} {p : Addr} {fs ls : List Str} {m : List (Arc × Int)} (e : Same H H') (h : PlO H p fs ls m) : PlO H' p fs ls m := by
  obtain ⟨f, l, a, h⟩ := h
  exact ⟨f, l, a, h.same e⟩
theorem PlA.dk {d : Addr} {H H' : Hp} {p f l a : Addr} {fs ls : List Str} {m : List (Arc × Int)} {x y z : Int} (hd : H d = some (.lst [.int x, .int y, .int z])) (k : Dk d H H') (f0 : 0 < fs.length) (l0 : 0 < ls.length) (h : PlA H p f l a fs ls m) : PlA H' p f l a fs ls m := by
  have ne : ∀ (b : Addr) (ss : List Str), 0 < ss.length → H b = some (.lst (ss.map V.str)) → b ≠ d := fun b ss h0 hb e => by
    rw [e, hd] at hb
    cases ss with
    | nil => exact absurd h0 (Nat.lt_irrefl _)
    | cons s r => cases hb
  exact ⟨k.1 _ _ (fun e => by have := h.1; rw [e, hd] at this; cases this) h.1, k.1 _ _ (ne f fs f0 h.2.1) h.2.1, k.1 _ _ (ne l ls l0 h.2.2.1) h.2.2.1, k.1 _ _ (fun e => by have := h.2.2.2; rw [e, hd] at this; cases this) h.2.2.2⟩
theorem PlO.dk {d : Addr} {H H' : Hp} {p : Addr} {fs ls : List Str} {m : List (Arc × Int)} {x y z : Int} (hd : H d = some (.lst [.int x, .int y, .int z])) (k : Dk d H H') (f0 : 0 < fs.length) (l0 : 0 < ls.length) (h : PlO H p fs ls m) : PlO H' p fs ls m := by
  obtain ⟨f, l, a, h⟩ := h
  exact ⟨f, l, a, h.dk hd k f0 l0⟩
def getF (H : Hp) (p f l a : Addr) (fs ls : List Str) (m : List (Arc × Int)) (h : PlA H p f l a fs ls m) : DGet H p (.str kF) (some (.ref f)) := DGet.k (k := Sum.inr kF) h.1
theorem PlA.gF {H : Hp} {p f l a : Addr} {fs ls : List Str} {m : List (Arc × Int)} (h : PlA H p f l a fs ls m) : DGet H p (.str kF) (some (.ref f)) := DGet.k (k := Sum.inr kF) h.1
theorem PlA.gL {H : Hp} {p f l a : Addr} {fs ls : List Str} {m : List (Arc × Int)} (h : PlA H p f l a fs ls m) : DGet H p (.str kL) (some (.ref l)) := DGet.k (k := Sum.inr kL) h.1
theorem PlA.gA {H : Hp} {p f l a : Addr} {fs ls : List Str} {m : List (Arc × Int)} (h : PlA H p f l a fs ls m) : DGet H p (.str kA) (some (.ref a)) := DGet.k (k := Sum.inr kA) h.1
theorem merge3 (a b c : V) : mergeK [] [(Sum.inr kF, a), (Sum.inr kL, b), (Sum.inr kA, c)] = [(Sum.inr kF, a), (Sum.inr kL, b), (Sum.inr kA, c)] := rfl
theorem put3F (a b c v : V) : putK [((Sum.inr kF : Key), a), (Sum.inr kL, b), (Sum.inr kA, c)] (Sum.inr kF) v = [(Sum.inr kF, v), (Sum.inr kL, b), (Sum.inr kA, c)] := rfl
theorem put3L (a b c v : V) : putK [((Sum.inr kF : Key), a), (Sum.inr kL, b), (Sum.inr kA, c)] (Sum.inr kL) v = [(Sum.inr kF, a), (Sum.inr kL, v), (Sum.inr kA, c)] := rfl
theorem PlA.setA {H : Hp} {p f l a : Addr} {fs ls : List Str} {m m' : List (Arc × Int)} (h : PlA H p f l a fs ls m) : PlA (upd H a (.dT (encA m'))) p f l a fs ls m' :=
  ⟨by rw [upd_ne (fun e => by have h1 := h.1; rw [e, h.2.2.2] at h1; cases h1)]; exact h.1, by rw [upd_ne (fun e => by have h1 := h.2.1; rw [e, h.2.2.2] at h1; cases h1)]; exact h.2.1, by rw [upd_ne (fun e => by have h1 := h.2.2.1; rw [e, h.2.2.2] at h1; cases h1)]; exact h.2.2.1, upd_same⟩
theorem PlA.setF {H : Hp} {p f l a f' : Addr} {fs ls fs' : List Str} {m : List (Arc × Int)} (h : PlA H p f l a fs ls m) (hf : H f' = some (.lst (fs'.map V.str))) : PlA (upd H p (.dK [(.inr kF, .ref f'), (.inr kL, .ref l), (.inr kA, .ref a)])) p f' l a fs' ls m :=
  ⟨upd_same, by rw [upd_ne (fun e => by rw [e, h.1] at hf; cases hf)]; exact hf, by rw [upd_ne (fun e => by have h1 := h.2.2.1; rw [e, h.1] at h1; cases h1)]; exact h.2.2.1, by rw [upd_ne (fun e => by have h1 := h.2.2.2; rw [e, h.1] at h1; cases h1)]; exact h.2.2.2⟩
theorem PlA.setL {H : Hp} {p f l a l' : Addr} {fs ls ls' : List Str} {m : List (Arc × Int)} (h : PlA H p f l a fs ls m) (hl : H l' = some (.lst (ls'.map V.str))) : PlA (upd H p (.dK [(.inr kF, .ref f), (.inr kL, .ref l'), (.inr kA, .ref a)])) p f l' a fs ls' m :=
  ⟨upd_same, by rw [upd_ne (fun e => by have h1 := h.2.1; rw [e, h.1] at h1; cases h1)]; exact h.2.1, by rw [upd_ne (fun e => by rw [e, h.1] at hl; cases hl)]; exact hl, by rw [upd_ne (fun e => by have h1 := h.2.2.2; rw [e, h.1] at h1; cases h1)]; exact h.2.2.2⟩
theorem new_ne {H : Hp} {p q : Addr} {o : HO} (h : upd H p o q = none) : q ≠ p ∧ H q = none := by
  have n : q ≠ p := fun e => by rw [e, upd_same] at h; cases h
  exact ⟨n, by rw [← h]; exact (upd_ne n).symm⟩
/-! ### _law_plain -/
def sSP : Str := Str.ofString " "
def stepP (c : Pm) (ln : Str) : Option Pm := if ln.length ≤ 1000 then match Txt.split ln sSP with
  | k :: r => if k = Str.ofString "first" then some (r, c.2.1, c.2.2) else if k = Str.ofString "last" then some (c.1, r, c.2.2) else match r with
    | [a, b, n, e] => match PySem.intText? n with
      | some i => if n.length ≤ 640 then some (c.1, c.2.1, putA c.2.2 (a, b, e) i) else none
      | none => none
    | _ => none
  | [] => none
  else none
def plainOf (ls : List Str) : Option Pm := ls.foldlM stepP ([], [], [])
theorem plain_take {ls : List Str} {i : Nat} (hi : i < ls.length) (init : Pm) : (ls.take (i + 1)).foldlM stepP init = (ls.take i).foldlM stepP init >>= fun c => stepP c ls[i] := by
  rw [List.take_add_one, List.getElem?_eq_getElem hi, List.foldlM_append]
  simp
theorem plain_some {ls : List Str} {c : Pm} (h : plainOf ls = some c) : ∀ i, i ≤ ls.length → ∃ b, (ls.take i).foldlM stepP ([], [], []) = some b := by
  intro i hi
  have e : plainOf ls = (ls.take i ++ ls.drop i).foldlM stepP ([], [], []) := by rw [List.take_append_drop]; rfl
  rw [e, List.foldlM_append] at h
  cases hb : (ls.take i).foldlM stepP ([], [], []) with
  | none => rw [hb] at h; cases h
  | some b => exact ⟨b, rfl⟩
def spPlain (K : PySem.W.Frag) : Sp := fun vs H Q _ => ∃ (a : Addr) (lns : List Str) (c : Pm), vs = [.ref a] ∧ H a = some (.lst (lns.map V.str)) ∧ lns.length ≤ 1000 ∧ plainOf lns = some c ∧
  ∀ p H', Same H H' → H p = none → PlO H' p c.1 c.2.1 c.2.2 → Q (.ref p) H'
theorem ok_plain (D : Ds K mg Z) (B : Bt mg) (C0 : Cs mg) : FnOk P w K mg base CX0 1 Z.a_plain Z.d_plain P_plain (spPlain K) := by
  obtain ⟨⟨t_LIMIT, c_LIMIT⟩, ⟨t_ALPHABET, c_ALPHABET⟩, ⟨t_MAX_LETTERS, c_MAX_LETTERS⟩, ⟨t_MAX_STATES, c_MAX_STATES⟩, ⟨t_MAX_PRICE, c_MAX_PRICE⟩, ⟨t_FIRST, c_FIRST⟩, ⟨t_LAST, c_LAST⟩, ⟨t_ARC, c_ARC⟩⟩ := C0
  refine D.plain.F.ok sc_plain (fun vs H Q E h => ?_) (fun cdv A outer s H vs Q E hr h => ?_)
  · obtain ⟨a, lns, c, rfl, _⟩ := h
    rfl
  · obtain ⟨a, lns, c, rfl, ha, hl, hc, q⟩ := h
    refine ⟨_, (pss_cons (ps_set (i := 1) sc_plain.nd rfl (Or.inl rfl) (pe_disp (pps_cons pe_str (pe_lst pa_nil) (pps_cons pe_str (pe_lst pa_nil) (pps_cons pe_str pe_dnewT pps_nil))) (by rfl) (by rfl) (fun z => by cases z) (by decide)))
    (pss_cons (ps_for PassesOwn.never rfl (pi_listK (K := K) rfl (pv 0)) (pg_name (i := 2) sc_plain.nd rfl (Or.inl rfl))
      (pss_cons (ps_set (i := 3) sc_plain.nd rfl (Or.inl rfl) (pe_sm PySem.F.plainAttrs_str PySem.F.slot_str_split PySem.F.type_str_split mt_split (pv 2) (pa_cons pe_str pa_nil)))
    (pss_one (ps_if (pt_cmpR op_eq (pe_ix ix_M (pv 3) pe_int (fun _ _ => rfl)) pe_str (nomark _)) (pss_one (ps_dput (hu_of hr) (pv 1) pe_str (pe_slice (sl_listK (K := K) rfl) (pv 3) (po_some pe_int) po_none) rfl)) (pss_one (ps_if (pt_cmpR op_eq (pe_ix ix_M (pv 3) pe_int (fun _ _ => rfl)) pe_str (nomark _)) (pss_one (ps_dput (hu_of hr) (pv 1) pe_str (pe_slice (sl_listK (K := K) rfl) (pv 3) (po_some pe_int) po_none) rfl)) (pss_one (ps_dput (hu_of hr) (pe_dget (hu_of hr) (pv 1) pe_str (fun _ _ => rfl)) (pe_tup (pa_cons (pe_ix ix_M (pv 3) pe_int (fun _ _ => rfl)) (pa_cons (pe_ix ix_M (pv 3) pe_int (fun _ _ => rfl)) (pa_cons (pe_ix ix_M (pv 3) pe_int (fun _ _ => rfl)) pa_nil)))) (pe_callTy call_int_str (by rfl) B.int (by decide +kernel) (pa_cons (pe_ix ix_M (pv 3) pe_int (fun _ _ => rfl)) pa_nil)) rfl))))))))
    (pss_one (ps_ret (pv 1))))), ?_⟩
    walk_at "rd"
    intro p hp
    refine ⟨Nat.zero_le _, fun p1 h1 => ⟨Nat.zero_le _, fun p2 h2 p3 h3 => ?_⟩⟩
    have s1 := Same.new (o := HO.lst []) h1
    have s2 := Same.new (o := HO.lst []) h2
    have s3 := Same.new (o := HO.dT []) h3
    have s4 := (s1.trans s2).trans s3
    have hp4 := s4 _ _ (upd_same (H := H) (a := p) (o := HO.dK []))
    have k1 := (s2.trans s3) _ _ (upd_same (H := upd H p (.dK [])) (a := p1) (o := HO.lst []))
    have k2 := s3 _ _ (upd_same (H := upd (upd H p (.dK [])) p1 (.lst [])) (a := p2) (o := HO.lst []))
    have k3 := upd_same (H := upd (upd (upd H p (.dK [])) p1 (.lst [])) p2 (.lst [])) (a := p3) (o := HO.dT [])
    have sm := (Same.new (o := HO.dK []) hp).trans s4
    have n3 : H p3 = none := (new_ne (new_ne (new_ne h3).2).2).2
    have n3p : p3 ≠ p := (new_ne (new_ne (new_ne h3).2).2).1
    refine ⟨hp4, [(.inr kF, .ref p1), (.inr kL, .ref p2), (.inr kA, .ref p3)], rfl, Nat.le_of_ble_eq_true rfl, ?_⟩
    rw [merge3]
    generalize upd (upd (upd (upd H p (.dK [])) p1 (.lst [])) p2 (.lst [])) p3 (HO.dT []) = H4 at hp4 k1 k2 k3 sm ⊢
    have pl : PlA (upd H4 p (.dK [(.inr kF, .ref p1), (.inr kL, .ref p2), (.inr kA, .ref p3)])) p p1 p2 p3 [] [] [] :=
      ⟨upd_same, by rw [upd_ne (fun e => by rw [e, hp4] at k1; cases k1)]; exact k1, by rw [upd_ne (fun e => by rw [e, hp4] at k2; cases k2)]; exact k2, by rw [upd_ne n3p]; exact k3⟩
    have sm5 : Same H (upd H4 p (.dK [(.inr kF, .ref p1), (.inr kL, .ref p2), (.inr kA, .ref p3)])) := Same.lay sm hp
    clear sm h1 h2 h3 s1 s2 s3 s4 hp4 k1 k2 k3
    generalize upd H4 p (.dK [(.inr kF, .ref p1), (.inr kL, .ref p2), (.inr kA, .ref p3)]) = H5 at pl sm5 ⊢
    walk_at "go"
    refine ⟨⟨_, SqL.of (sm5 _ _ ha)⟩, ?_⟩
    have ll : (lns.map V.str).length = lns.length := List.length_map ..
    obtain ⟨Pv, hP⟩ := inv_bi (fun (i : Nat) (σ : St) (H' : Hp) => ∃ (b : Pm) (f l : Addr) (o2 o3 : Option V), σ = [some (.ref a), some (.ref p), o2, o3] ∧ (lns.take i).foldlM stepP ([], [], []) = some b ∧ Same H H' ∧ PlA H' p f l p3 b.1 b.2.1 b.2.2 ∧ b.2.2.length ≤ i)
    refine loop_it (walk_list (K := K) (a := a) (xs := lns.map V.str)) Pv ((hP _ _ _).mpr ⟨([], [], []), p1, p2, _, _, rfl, rfl, sm5, pl, Nat.le_refl _⟩) (fun i σ H' _ h => by obtain ⟨_, _, _, _, _, _, _, e, _⟩ := (hP _ _ _).mp h; exact SqL.of (e _ _ ha)) (fun i x σ H6 H7 hi hpv y => ?_) (fun σ H6 hpv => ?_)
    · obtain ⟨b, f, l, o2, o3, rfl, eb, sm6, pl6, bl⟩ := (hP _ _ _).mp hpv
      obtain ⟨rfl, hx⟩ := y
      have hi2 : i < lns.length := by omega
      rw [List.getElem?_map, List.getElem?_eq_getElem hi2] at hx
      cases hx
      obtain ⟨b', eb'⟩ := plain_some hc (i + 1) hi2
      have fin := fun (f' l' : Addr) (o2 o3 : Option V) (H' : Hp) (h1 : Same H H') (h2 : PlA H' p f' l' p3 b'.1 b'.2.1 b'.2.2) (h3 : b'.2.2.length ≤ i + 1) => (hP (i + 1) [some (.ref a), some (.ref p), o2, o3] H').mpr ⟨b', f', l', o2, o3, rfl, eb', h1, h2, h3⟩
      have est : stepP b lns[i] = some b' := by
        rw [plain_take hi2, eb] at eb'
        exact eb'
      clear hP hpv eb eb' hc
      generalize lns[i] = ln at est ⊢
      clear pl sm5 hi
      walk_at "rd"
      unfold stepP at est
      split at est
      rotate_left
      · cases est
      rename_i hln
      have hln2 : ln.length + 2 ≤ sizeLine := Nat.le_trans (show ln.length + 2 ≤ 1002 by omega) (by decide)
      walk_at "gg"
      refine ⟨rfl, fun t ht => ?_⟩
      have e7 := Same.new (o := HO.lst ((Txt.split ln (Str.ofString " ")).map V.str)) ht
      have ht7 : upd H7 t (HO.lst ((Txt.split ln (Str.ofString " ")).map V.str)) t = some (.lst ((Txt.split ln (Str.ofString " ")).map V.str)) := upd_same
      replace pl6 := pl6.same e7
      replace sm6 := sm6.trans e7
      generalize upd H7 t (HO.lst ((Txt.split ln (Str.ofString " ")).map V.str)) = H8 at ht7 pl6 sm6 ⊢
      clear e7 ht
      rw [show sSP = Str.ofString " " from rfl] at est
      generalize Txt.split ln (Str.ofString " ") = ws at est ht7 ⊢
      cases ws with
      | nil => cases est
      | cons k r =>
        simp only at est
        walk_at "gg"
        have e1 : cutV ((k :: r).map V.str) (some 1) none = r.map V.str := by rw [cut1 _ (show 0 < (List.map V.str (k :: r)).length from Nat.zero_lt_succ _)]; rfl
        by_cases hk : k = Str.ofString "first"
        · rw [if_pos hk] at est
          cases est
          rw [if_pos (decide_eq_true hk)]
          walk_at "go"
          refine ⟨t, _, rfl, SqL.of ht7, fun p4 h4 => ?_⟩
          rw [e1]
          have s9 := Same.new (o := HO.lst (r.map V.str)) h4
          have pl9 := (pl6.same s9).setF upd_same
          exact ⟨_, DPut.k (k := Sum.inr kF) (s9 _ _ pl6.1) (Nat.lt_of_lt_of_le (show 3 < 4 by decide) (by decide)), fin _ _ _ _ _ (Same.lay (sm6.trans s9) hp) (by rw [put3F]; exact pl9) (by show b.2.2.length ≤ i + 1; omega)⟩
        rw [if_neg hk] at est
        rw [if_neg (by rw [decide_eq_true_eq]; exact hk)]
        walk_at "gg"
        by_cases hk2 : k = Str.ofString "last"
        · rw [if_pos hk2] at est
          cases est
          rw [if_pos (decide_eq_true hk2)]
          walk_at "go"
          refine ⟨t, _, rfl, SqL.of ht7, fun p4 h4 => ?_⟩
          rw [e1]
          have s9 := Same.new (o := HO.lst (r.map V.str)) h4
          have pl9 := (pl6.same s9).setL upd_same
          exact ⟨_, DPut.k (k := Sum.inr kL) (s9 _ _ pl6.1) (Nat.lt_of_lt_of_le (show 3 < 4 by decide) (by decide)), fin _ _ _ _ _ (Same.lay (sm6.trans s9) hp) (by rw [put3L]; exact pl9) (by show b.2.2.length ≤ i + 1; omega)⟩
        rw [if_neg hk2] at est
        rw [if_neg (by rw [decide_eq_true_eq]; exact hk2)]
        split at est
        rotate_left
        · cases est
        rename_i x1 x2 x3 x4
        split at est
        rotate_left
        · cases est
        rename_i z hz
        split at est
        rotate_left
        · cases est
        rename_i hz2
        cases est
        walk_at "gg"
        refine ⟨_, rfl, _, rfl, _, hz, hz2, _, pl6.gA, _, rfl, by decide, fun p4 h4 => ⟨_, rfl, ?_⟩⟩
        have s9 := Same.new (o := HO.tup [V.str x1, V.str x2, V.str x4]) h4
        have pl9 := pl6.same s9
        have pl10 := pl9.setA (m' := putA b.2.2 (x1, x2, x4) z)
        refine ⟨_, DPut.t (k := key3 (x1, x2, x4)) pl9.2.2.2 upd_same ?_, fin _ _ _ _ _ (Same.lay (sm6.trans s9) n3) (by rw [put_enc]; exact pl10) ?_⟩
        · unfold encA
          rw [List.length_map]
          exact Nat.lt_of_le_of_lt (show b.2.2.length ≤ 1000 by omega) (by decide)
        · have := putA_len b.2.2 (x1, x2, x4) z
          show (putA b.2.2 (x1, x2, x4) z).length ≤ i + 1
          omega
    · obtain ⟨b, f, l, o2, o3, rfl, eb, sm6, pl6, bl⟩ := (hP _ _ _).mp hpv
      rw [ll, List.take_length] at eb
      have e : some b = some c := eb.symm.trans hc
      cases e
      have q' := q p H6 sm6 hp ⟨_, _, _, pl6⟩
      walk_at "gg"
end
section
variable {P : Program} {w : World} {K : PySem.W.Frag} {mg : Str → Option Value} {base : Heap} {Z : Ad}
/-! ### the lines of the written machines -/
theorem none_of {H H' : Hp} (e : Same H H') {p : Addr} (h : H' p = none) : H p = none := by
  cases hp : H p with
  | none => rfl
  | some o => rw [e _ _ hp] at h; cases h
theorem cut_drop (xs : List V) (n : Nat) (h : n ≤ xs.length) : cutV xs (some (n : Int)) none = xs.drop n := by
  unfold cutV
  rw [HT.sIx_none, HT.sIx_nat, Nat.min_eq_left h, List.take_of_length_le (by rw [List.length_drop]; exact Nat.le_refl _)]
def spLst (xs : List Str) : Sp := fun vs H Q _ => vs = [] ∧ ∀ p H', Same H H' → H p = none → H' p = some (.lst (xs.map V.str)) → Q (.ref p) H'
def ln_block : List Str := [Str.ofString "first p", Str.ofString "last r", Str.ofString "arc p a 0 p", Str.ofString "arc p b 0 p", Str.ofString "arc p b 0 q", Str.ofString "arc q a 1 q", Str.ofString "arc q b 0 r", Str.ofString "arc r a 0 r", Str.ofString "arc r b 0 r"]
def l1_block : List Str := [Str.ofString "first p", Str.ofString "last r", Str.ofString "arc p a 0 p", Str.ofString "arc p b 0 p", Str.ofString "arc p b 0 q", Str.ofString "arc q a 1 q", Str.ofString "arc q b 0 r"]
def l2_block : List Str := [Str.ofString "arc r a 0 r", Str.ofString "arc r b 0 r"]
theorem ok_block (D : Ds K mg Z) (B : Bt mg) (C0 : Cs mg) : FnOk P w K mg base CX0 1 Z.a_block Z.d_block P_block (spLst ln_block) := by
  obtain ⟨⟨t_LIMIT, c_LIMIT⟩, ⟨t_ALPHABET, c_ALPHABET⟩, ⟨t_MAX_LETTERS, c_MAX_LETTERS⟩, ⟨t_MAX_STATES, c_MAX_STATES⟩, ⟨t_MAX_PRICE, c_MAX_PRICE⟩, ⟨t_FIRST, c_FIRST⟩, ⟨t_LAST, c_LAST⟩, ⟨t_ARC, c_ARC⟩⟩ := C0
  refine D.block.F.ok sc_block (fun vs H Q E h => ?_) (fun cdv A outer s H vs Q E hr h => ?_)
  · obtain ⟨rfl, _⟩ := h
    rfl
  · obtain ⟨rfl, q⟩ := h
    refine ⟨_, (pss_cons (ps_set (i := 0) sc_block.nd rfl (Or.inl rfl) (pe_lst (pa_cons pe_str (pa_cons pe_str (pa_cons pe_str (pa_cons pe_str (pa_cons pe_str (pa_cons pe_str (pa_cons pe_str pa_nil)))))))))
    (pss_one (ps_ret (pe_op op_cat (pv 0) (pe_lst (pa_cons pe_str (pa_cons pe_str pa_nil))))))), ?_⟩
    walk_at "rd"
    refine ⟨by decide, fun p1 h1 => ?_⟩
    have s1 := Same.new (o := HO.lst (l1_block.map V.str)) h1
    have k1 := upd_same (H := H) (a := p1) (o := HO.lst (l1_block.map V.str))
    change Later _ _ _ (upd H p1 (HO.lst (l1_block.map V.str)))
    generalize upd H p1 (HO.lst (l1_block.map V.str)) = H1 at s1 k1 ⊢
    refine later ?_
    refine ⟨_, rfl, by decide, fun p2 h2 => ?_⟩
    have s2 := Same.new (o := HO.lst (l2_block.map V.str)) h2
    refine ⟨p1, p2, _, _, rfl, rfl, s2 _ _ k1, upd_same, by decide, fun p3 h3 => ?_⟩
    have s3 := Same.new (o := HO.lst (ln_block.map V.str)) h3
    have n3 : H p3 = none := none_of (s1.trans s2) h3
    exact q p3 _ ((s1.trans s2).trans s3) n3 upd_same
def ln_count : List Str := [Str.ofString "first c", Str.ofString "last c", Str.ofString "arc c a 0 c", Str.ofString "arc c b 1 c"]
theorem ok_count (D : Ds K mg Z) (B : Bt mg) (C0 : Cs mg) : FnOk P w K mg base CX0 1 Z.a_count Z.d_count P_count (spLst ln_count) := by
  obtain ⟨⟨t_LIMIT, c_LIMIT⟩, ⟨t_ALPHABET, c_ALPHABET⟩, ⟨t_MAX_LETTERS, c_MAX_LETTERS⟩, ⟨t_MAX_STATES, c_MAX_STATES⟩, ⟨t_MAX_PRICE, c_MAX_PRICE⟩, ⟨t_FIRST, c_FIRST⟩, ⟨t_LAST, c_LAST⟩, ⟨t_ARC, c_ARC⟩⟩ := C0
  refine D.count.F.ok sc_count (fun vs H Q E h => ?_) (fun cdv A outer s H vs Q E hr h => ?_)
  · obtain ⟨rfl, _⟩ := h
    rfl
  · obtain ⟨rfl, q⟩ := h
    refine ⟨_, (pss_one (ps_ret (pe_lst (pa_cons pe_str (pa_cons pe_str (pa_cons pe_str (pa_cons pe_str pa_nil))))))), ?_⟩
    walk_at "rd"
    exact ⟨by decide, fun p hp => q p _ (Same.new (o := HO.lst (ln_count.map V.str)) hp) hp upd_same⟩
def ln_either : List Str := [Str.ofString "first s x", Str.ofString "last s xc", Str.ofString "arc s a 1 s", Str.ofString "arc s b 0 s", Str.ofString "arc x a 0 xa", Str.ofString "arc x b 0 x", Str.ofString "arc xa a 0 xb", Str.ofString "arc xa b 0 xa", Str.ofString "arc xb a 0 xc", Str.ofString "arc xb b 0 xb", Str.ofString "arc xc a 0 xc", Str.ofString "arc xc b 0 xc"]
def l1_either : List Str := [Str.ofString "first s x", Str.ofString "last s xc", Str.ofString "arc s a 1 s", Str.ofString "arc s b 0 s", Str.ofString "arc x a 0 xa", Str.ofString "arc x b 0 x", Str.ofString "arc xa a 0 xb"]
def l2_either : List Str := [Str.ofString "arc xa b 0 xa", Str.ofString "arc xb a 0 xc", Str.ofString "arc xb b 0 xb", Str.ofString "arc xc a 0 xc", Str.ofString "arc xc b 0 xc"]
theorem ok_either (D : Ds K mg Z) (B : Bt mg) (C0 : Cs mg) : FnOk P w K mg base CX0 1 Z.a_either Z.d_either P_either (spLst ln_either) := by
  obtain ⟨⟨t_LIMIT, c_LIMIT⟩, ⟨t_ALPHABET, c_ALPHABET⟩, ⟨t_MAX_LETTERS, c_MAX_LETTERS⟩, ⟨t_MAX_STATES, c_MAX_STATES⟩, ⟨t_MAX_PRICE, c_MAX_PRICE⟩, ⟨t_FIRST, c_FIRST⟩, ⟨t_LAST, c_LAST⟩, ⟨t_ARC, c_ARC⟩⟩ := C0
  refine D.either.F.ok sc_either (fun vs H Q E h => ?_) (fun cdv A outer s H vs Q E hr h => ?_)
  · obtain ⟨rfl, _⟩ := h
    rfl
  · obtain ⟨rfl, q⟩ := h
    refine ⟨_, (pss_cons (ps_set (i := 0) sc_either.nd rfl (Or.inl rfl) (pe_lst (pa_cons pe_str (pa_cons pe_str (pa_cons pe_str (pa_cons pe_str (pa_cons pe_str (pa_cons pe_str (pa_cons pe_str pa_nil)))))))))
    (pss_one (ps_ret (pe_op op_cat (pv 0) (pe_lst (pa_cons pe_str (pa_cons pe_str (pa_cons pe_str (pa_cons pe_str (pa_cons pe_str pa_nil)))))))))), ?_⟩
    walk_at "rd"
    refine ⟨by decide, fun p1 h1 => ?_⟩
    have s1 := Same.new (o := HO.lst (l1_either.map V.str)) h1
    have k1 := upd_same (H := H) (a := p1) (o := HO.lst (l1_either.map V.str))
    change Later _ _ _ (upd H p1 (HO.lst (l1_either.map V.str)))
    generalize upd H p1 (HO.lst (l1_either.map V.str)) = H1 at s1 k1 ⊢
    refine later ?_
    refine ⟨_, rfl, by decide, fun p2 h2 => ?_⟩
    have s2 := Same.new (o := HO.lst (l2_either.map V.str)) h2
    refine ⟨p1, p2, _, _, rfl, rfl, s2 _ _ k1, upd_same, by decide, fun p3 h3 => ?_⟩
    have s3 := Same.new (o := HO.lst (ln_either.map V.str)) h3
    have n3 : H p3 = none := none_of (s1.trans s2) h3
    exact q p3 _ ((s1.trans s2).trans s3) n3 upd_same
def ln_thrice : List Str := [Str.ofString "first s x", Str.ofString "last s y", Str.ofString "arc s a 1 s", Str.ofString "arc x a 0 xa", Str.ofString "arc xa a 0 xb", Str.ofString "arc xb a 0 xc", Str.ofString "arc xc a 0 xd", Str.ofString "arc xd a 0 xe", Str.ofString "arc xe a 0 y", Str.ofString "arc y a 0 y"]
def l1_thrice : List Str := [Str.ofString "first s x", Str.ofString "last s y", Str.ofString "arc s a 1 s", Str.ofString "arc x a 0 xa", Str.ofString "arc xa a 0 xb", Str.ofString "arc xb a 0 xc", Str.ofString "arc xc a 0 xd"]
def l2_thrice : List Str := [Str.ofString "arc xd a 0 xe", Str.ofString "arc xe a 0 y", Str.ofString "arc y a 0 y"]
theorem ok_thrice (D : Ds K mg Z) (B : Bt mg) (C0 : Cs mg) : FnOk P w K mg base CX0 1 Z.a_thrice Z.d_thrice P_thrice (spLst ln_thrice) := by
  obtain ⟨⟨t_LIMIT, c_LIMIT⟩, ⟨t_ALPHABET, c_ALPHABET⟩, ⟨t_MAX_LETTERS, c_MAX_LETTERS⟩, ⟨t_MAX_STATES, c_MAX_STATES⟩, ⟨t_MAX_PRICE, c_MAX_PRICE⟩, ⟨t_FIRST, c_FIRST⟩, ⟨t_LAST, c_LAST⟩, ⟨t_ARC, c_ARC⟩⟩ := C0
  refine D.thrice.F.ok sc_thrice (fun vs H Q E h => ?_) (fun cdv A outer s H vs Q E hr h => ?_)
  · obtain ⟨rfl, _⟩ := h
    rfl
  · obtain ⟨rfl, q⟩ := h
    refine ⟨_, (pss_cons (ps_set (i := 0) sc_thrice.nd rfl (Or.inl rfl) (pe_lst (pa_cons pe_str (pa_cons pe_str (pa_cons pe_str (pa_cons pe_str (pa_cons pe_str (pa_cons pe_str (pa_cons pe_str pa_nil)))))))))
    (pss_one (ps_ret (pe_op op_cat (pv 0) (pe_lst (pa_cons pe_str (pa_cons pe_str (pa_cons pe_str pa_nil)))))))), ?_⟩
    walk_at "rd"
    refine ⟨by decide, fun p1 h1 => ?_⟩
    have s1 := Same.new (o := HO.lst (l1_thrice.map V.str)) h1
    have k1 := upd_same (H := H) (a := p1) (o := HO.lst (l1_thrice.map V.str))
    change Later _ _ _ (upd H p1 (HO.lst (l1_thrice.map V.str)))
    generalize upd H p1 (HO.lst (l1_thrice.map V.str)) = H1 at s1 k1 ⊢
    refine later ?_
    refine ⟨_, rfl, by decide, fun p2 h2 => ?_⟩
    have s2 := Same.new (o := HO.lst (l2_thrice.map V.str)) h2
    refine ⟨p1, p2, _, _, rfl, rfl, s2 _ _ k1, upd_same, by decide, fun p3 h3 => ?_⟩
    have s3 := Same.new (o := HO.lst (ln_thrice.map V.str)) h3
    have n3 : H p3 = none := none_of (s1.trans s2) h3
    exact q p3 _ ((s1.trans s2).trans s3) n3 upd_same
def ln_uneven : List Str := [Str.ofString "first p", Str.ofString "last p", Str.ofString "arc p a 1 q", Str.ofString "arc q a 1 p", Str.ofString "arc p a 9 p", Str.ofString "arc q a 9 q"]
theorem ok_uneven (D : Ds K mg Z) (B : Bt mg) (C0 : Cs mg) : FnOk P w K mg base CX0 1 Z.a_uneven Z.d_uneven P_uneven (spLst ln_uneven) := by
  obtain ⟨⟨t_LIMIT, c_LIMIT⟩, ⟨t_ALPHABET, c_ALPHABET⟩, ⟨t_MAX_LETTERS, c_MAX_LETTERS⟩, ⟨t_MAX_STATES, c_MAX_STATES⟩, ⟨t_MAX_PRICE, c_MAX_PRICE⟩, ⟨t_FIRST, c_FIRST⟩, ⟨t_LAST, c_LAST⟩, ⟨t_ARC, c_ARC⟩⟩ := C0
  refine D.uneven.F.ok sc_uneven (fun vs H Q E h => ?_) (fun cdv A outer s H vs Q E hr h => ?_)
  · obtain ⟨rfl, _⟩ := h
    rfl
  · obtain ⟨rfl, q⟩ := h
    refine ⟨_, (pss_one (ps_ret (pe_lst (pa_cons pe_str (pa_cons pe_str (pa_cons pe_str (pa_cons pe_str (pa_cons pe_str (pa_cons pe_str pa_nil))))))))), ?_⟩
    walk_at "rd"
    exact ⟨by decide, fun p hp => q p _ (Same.new (o := HO.lst (ln_uneven.map V.str)) hp) hp upd_same⟩
def ln_paid : List Str := [Str.ofString "first s", Str.ofString "last v", Str.ofString "arc s a 3 t", Str.ofString "arc s b 0 s", Str.ofString "arc t a 0 t", Str.ofString "arc t b 4 v", Str.ofString "arc v a 0 v", Str.ofString "arc v b 0 v"]
def l1_paid : List Str := [Str.ofString "first s", Str.ofString "last v", Str.ofString "arc s a 3 t", Str.ofString "arc s b 0 s", Str.ofString "arc t a 0 t", Str.ofString "arc t b 4 v", Str.ofString "arc v a 0 v"]
def l2_paid : List Str := [Str.ofString "arc v b 0 v"]
theorem ok_paid (D : Ds K mg Z) (B : Bt mg) (C0 : Cs mg) : FnOk P w K mg base CX0 1 Z.a_paid Z.d_paid P_paid (spLst ln_paid) := by
  obtain ⟨⟨t_LIMIT, c_LIMIT⟩, ⟨t_ALPHABET, c_ALPHABET⟩, ⟨t_MAX_LETTERS, c_MAX_LETTERS⟩, ⟨t_MAX_STATES, c_MAX_STATES⟩, ⟨t_MAX_PRICE, c_MAX_PRICE⟩, ⟨t_FIRST, c_FIRST⟩, ⟨t_LAST, c_LAST⟩, ⟨t_ARC, c_ARC⟩⟩ := C0
  refine D.paid.F.ok sc_paid (fun vs H Q E h => ?_) (fun cdv A outer s H vs Q E hr h => ?_)
  · obtain ⟨rfl, _⟩ := h
    rfl
  · obtain ⟨rfl, q⟩ := h
    refine ⟨_, (pss_cons (ps_set (i := 0) sc_paid.nd rfl (Or.inl rfl) (pe_lst (pa_cons pe_str (pa_cons pe_str (pa_cons pe_str (pa_cons pe_str (pa_cons pe_str (pa_cons pe_str (pa_cons pe_str pa_nil)))))))))
    (pss_one (ps_ret (pe_op op_cat (pv 0) (pe_lst (pa_cons pe_str pa_nil)))))), ?_⟩
    walk_at "rd"
    refine ⟨by decide, fun p1 h1 => ?_⟩
    have s1 := Same.new (o := HO.lst (l1_paid.map V.str)) h1
    have k1 := upd_same (H := H) (a := p1) (o := HO.lst (l1_paid.map V.str))
    change Later _ _ _ (upd H p1 (HO.lst (l1_paid.map V.str)))
    generalize upd H p1 (HO.lst (l1_paid.map V.str)) = H1 at s1 k1 ⊢
    refine later ?_
    refine ⟨_, rfl, by decide, fun p2 h2 => ?_⟩
    have s2 := Same.new (o := HO.lst (l2_paid.map V.str)) h2
    refine ⟨p1, p2, _, _, rfl, rfl, s2 _ _ k1, upd_same, by decide, fun p3 h3 => ?_⟩
    have s3 := Same.new (o := HO.lst (ln_paid.map V.str)) h3
    have n3 : H p3 = none := none_of (s1.trans s2) h3
    exact q p3 _ ((s1.trans s2).trans s3) n3 upd_same
def l0_deal : List Str := [Str.ofString "first c p", Str.ofString "last c r"]
def ln_deal : List Str := l0_deal ++ ln_block.drop 2 ++ ln_count.drop 2
theorem ok_deal (D : Ds K mg Z) (B : Bt mg) (C0 : Cs mg) : FnOk P w K mg base CX0 2 Z.a_deal Z.d_deal P_deal (spLst ln_deal) := by
  have G_block := ok_block (P := P) (w := w) (base := base) D B C0
  have G_count := ok_count (P := P) (w := w) (base := base) D B C0
  obtain ⟨⟨t_LIMIT, c_LIMIT⟩, ⟨t_ALPHABET, c_ALPHABET⟩, ⟨t_MAX_LETTERS, c_MAX_LETTERS⟩, ⟨t_MAX_STATES, c_MAX_STATES⟩, ⟨t_MAX_PRICE, c_MAX_PRICE⟩, ⟨t_FIRST, c_FIRST⟩, ⟨t_LAST, c_LAST⟩, ⟨t_ARC, c_ARC⟩⟩ := C0
  refine D.deal.F.ok sc_deal (fun vs H Q E h => ?_) (fun cdv A outer s H vs Q E hr h => ?_)
  · obtain ⟨rfl, _⟩ := h
    rfl
  · obtain ⟨rfl, q⟩ := h
    refine ⟨_, (pss_one (ps_ret (pe_op op_cat (pe_op op_cat (pe_lst (pa_cons pe_str (pa_cons pe_str pa_nil))) (pe_slice (sl_listK (K := K) rfl) (pe_df0 D.block G_block (hr.mono (by decide)) (by rfl)) (po_some pe_int) po_none)) (pe_slice (sl_listK (K := K) rfl) (pe_df0 D.count G_count (hr.mono (by decide)) (by rfl)) (po_some pe_int) po_none)))), ?_⟩
    walk_at "rd"
    refine ⟨by decide, fun p1 h1 => ⟨rfl, fun p2 H2 e2 h2 k2 => ⟨p2, _, rfl, SqL.of k2, fun p3 h3 => ?_⟩⟩⟩
    have s1 := Same.new (o := HO.lst (l0_deal.map V.str)) h1
    have c3 : cutV (ln_block.map V.str) (some 2) none = (ln_block.drop 2).map V.str := (cut_drop _ 2 (by decide)).trans (List.map_drop ..).symm
    rw [c3]
    have s3 := Same.new (o := HO.lst ((ln_block.drop 2).map V.str)) h3
    refine ⟨p3, rfl, _, s3 _ _ (e2 _ _ upd_same), _, upd_same, by decide, fun p4 h4 => ⟨rfl, fun p5 H5 e5 h5 k5 => ⟨p5, _, rfl, SqL.of k5, fun p6 h6 => ?_⟩⟩⟩
    have c6 : cutV (ln_count.map V.str) (some 2) none = (ln_count.drop 2).map V.str := (cut_drop _ 2 (by decide)).trans (List.map_drop ..).symm
    rw [c6]
    have s4 := Same.new (o := HO.lst (l0_deal.map V.str ++ (ln_block.drop 2).map V.str)) h4
    have s6 := Same.new (o := HO.lst ((ln_count.drop 2).map V.str)) h6
    refine ⟨p6, rfl, _, s6 _ _ (e5 _ _ upd_same), _, upd_same, by decide, fun p7 h7 => ?_⟩
    have sA := (((s1.trans e2).trans s3).trans s4).trans (Same.trans e5 s6)
    have s7 := Same.new (o := HO.lst (ln_deal.map V.str)) h7
    exact q p7 _ (sA.trans s7) (none_of sA h7) upd_same
end
section
variable {P : Program} {w : World} {K : PySem.W.Frag} {mg : Str → Option Value} {base : Heap} {Z : Ad}
/-! ### written and drawn machines -/
def ABC : List Str := [Str.ofString "a", Str.ofString "b", Str.ofString "c"]
structure Dm (k : Nat) (fs ls : List Str) (m : List (Arc × Int)) : Prop where
  f0 : 0 < fs.length
  l0 : 0 < ls.length
  fn : namesB fs = true
  ln : namesB ls = true
  an : ∀ a ∈ m, placeB a.1.1 a.1.2.1 a.1.2.2 = true ∧ priceB (.int a.2) = true
  nd : (m.map (·.1)).Nodup
  ml : m.length ≤ 300
  lt : ∀ a ∈ m, a.1.2.1 ∈ ABC
  nm : ∃ nm : List Str, nm.length ≤ max k 8 ∧ (∀ x ∈ nm, isName (.str x) = true) ∧ ∀ x ∈ fs ++ ls ++ innA m, x ∈ nm
theorem nd_sub_len {α : Type} [BEq α] [LawfulBEq α] : ∀ {ys nm : List α}, ys.Nodup → (∀ y ∈ ys, y ∈ nm) → ys.length ≤ nm.length
  | [], _, _, _ => Nat.zero_le _
  | y :: ys, nm, nd, h => by
    obtain ⟨h1, h2⟩ := List.nodup_cons.mp nd
    have hy := h y List.mem_cons_self
    have ih := nd_sub_len (ys := ys) (nm := nm.erase y) h2 fun z hz => (List.mem_erase_of_ne (fun e => h1 (by rw [← e]; exact hz))).mpr (h z (List.mem_cons_of_mem _ hz))
    rw [List.length_erase_of_mem hy] at ih
    have := List.length_pos_of_mem hy
    rw [List.length_cons]
    omega
theorem names_asc {xs : List Str} (h : namesB xs = true) : ascB xs = true := by
  unfold namesB at h
  rw [Bool.and_eq_true] at h
  exact h.2
theorem names_all {xs : List Str} (h : namesB xs = true) : ∀ x ∈ xs, isName (.str x) = true := by
  unfold namesB at h
  rw [Bool.and_eq_true, List.all_eq_true] at h
  exact h.1
theorem names_mk {xs : List Str} (h : ∀ x ∈ xs, isName (.str x) = true) (h2 : ascB xs = true) : namesB xs = true := by
  unfold namesB
  rw [Bool.and_eq_true, List.all_eq_true]
  exact ⟨h, h2⟩
theorem Dm.gm {k : Nat} {fs ls : List Str} {m : List (Arc × Int)} (h : Dm k fs ls m) (hk : k ≤ 10) : Gm fs ls m := by
  obtain ⟨nm, n1, n2, n3⟩ := h.nm
  have nl : nm.length ≤ 10 := by omega
  have lf := nd_sub_len (asc_nd (names_asc h.fn)) fun y hy => n3 y (List.mem_append_left _ (List.mem_append_left _ hy))
  have lls := nd_sub_len (asc_nd (names_asc h.ln)) fun y hy => n3 y (List.mem_append_left _ (List.mem_append_right _ hy))
  have ml := h.ml
  refine ⟨h.f0, h.l0, h.fn, h.ln, h.an, h.nd, by omega, fun ys so => ?_⟩
  have := nd_sub_len so.nd fun y hy => n3 y ((so.mem y).mp hy)
  omega
def dedup : List Str → List Str
  | [] => []
  | x :: r => if x ∈ dedup r then dedup r else x :: dedup r
theorem mem_dedup : ∀ {xs : List Str} {y : Str}, y ∈ xs → y ∈ dedup xs
  | x :: r, y, h => by
    unfold dedup
    rcases List.mem_cons.mp h with rfl | h
    · split
      · assumption
      · exact List.mem_cons_self
    · split
      · exact mem_dedup h
      · exact List.mem_cons_of_mem _ (mem_dedup h)
theorem dedup_mem : ∀ {xs : List Str} {y : Str}, y ∈ dedup xs → y ∈ xs
  | x :: r, y, h => by
    unfold dedup at h
    split at h
    · exact List.mem_cons_of_mem _ (dedup_mem h)
    · rcases List.mem_cons.mp h with rfl | h
      · exact List.mem_cons_self
      · exact List.mem_cons_of_mem _ (dedup_mem h)
def dmB (c : Pm) : Bool := decide (0 < c.1.length) && decide (0 < c.2.1.length) && namesB c.1 && namesB c.2.1 && c.2.2.all (fun a => placeB a.1.1 a.1.2.1 a.1.2.2 && priceB (.int a.2)) && decide ((c.2.2.map (·.1)).Nodup) && decide (c.2.2.length ≤ 300) &&
  c.2.2.all (fun a => decide (a.1.2.1 ∈ ABC)) && decide ((dedup (c.1 ++ c.2.1 ++ innA c.2.2)).length ≤ 8) && (c.1 ++ c.2.1 ++ innA c.2.2).all (fun x => isName (.str x))
theorem dm_of {k : Nat} {c : Pm} (h : dmB c = true) : Dm k c.1 c.2.1 c.2.2 := by
  unfold dmB at h
  simp only [Bool.and_eq_true, decide_eq_true_eq, List.all_eq_true] at h
  obtain ⟨⟨⟨⟨⟨⟨⟨⟨⟨h1, h2⟩, h3⟩, h4⟩, h5⟩, h6⟩, h7⟩, h8⟩, h9⟩, h10⟩ := h
  exact ⟨h1, h2, h3, h4, h5, h6, h7, h8, _, Nat.le_trans h9 (Nat.le_max_right _ _), fun x hx => h10 x (dedup_mem hx), fun x hx => mem_dedup hx⟩
def okLn (ls : List Str) : Bool := match plainOf ls with
  | some c => dmB c
  | none => false
theorem ln_ok {ls : List Str} (h : okLn ls = true) (k : Nat) : ∃ c, plainOf ls = some c ∧ Dm k c.1 c.2.1 c.2.2 := by
  unfold okLn at h
  split at h
  · rename_i c e
    exact ⟨c, e, dm_of h⟩
  · cases h
theorem k_block : okLn ln_block = true := by decide +kernel
theorem k_count : okLn ln_count = true := by decide +kernel
theorem k_deal : okLn ln_deal = true := by decide +kernel
theorem k_either : okLn ln_either = true := by decide +kernel
theorem k_uneven : okLn ln_uneven = true := by decide +kernel
theorem k_paid : okLn ln_paid = true := by decide +kernel
theorem k_thrice : okLn ln_thrice = true := by decide +kernel
def spWritten : Sp := fun vs H Q _ => ∃ i : Int, vs = [.int i] ∧ 0 ≤ i ∧ i ≤ 6 ∧ ∀ p fs ls m H', Same H H' → H p = none → PlO H' p fs ls m → Dm 0 fs ls m → Q (.ref p) H'
theorem ok_written (D : Ds K mg Z) (B : Bt mg) (C0 : Cs mg) : FnOk P w K mg base CX0 3 Z.a_written Z.d_written P_written spWritten := by
  have G_plain := ok_plain (P := P) (w := w) (base := base) D B C0
  have G_block := ok_block (P := P) (w := w) (base := base) D B C0
  have G_count := ok_count (P := P) (w := w) (base := base) D B C0
  have G_deal := ok_deal (P := P) (w := w) (base := base) D B C0
  have G_either := ok_either (P := P) (w := w) (base := base) D B C0
  have G_uneven := ok_uneven (P := P) (w := w) (base := base) D B C0
  have G_paid := ok_paid (P := P) (w := w) (base := base) D B C0
  have G_thrice := ok_thrice (P := P) (w := w) (base := base) D B C0
  obtain ⟨⟨t_LIMIT, c_LIMIT⟩, ⟨t_ALPHABET, c_ALPHABET⟩, ⟨t_MAX_LETTERS, c_MAX_LETTERS⟩, ⟨t_MAX_STATES, c_MAX_STATES⟩, ⟨t_MAX_PRICE, c_MAX_PRICE⟩, ⟨t_FIRST, c_FIRST⟩, ⟨t_LAST, c_LAST⟩, ⟨t_ARC, c_ARC⟩⟩ := C0
  refine D.written.F.ok sc_written (fun vs H Q E h => ?_) (fun cdv A outer s H vs Q E hr h => ?_)
  · obtain ⟨i, rfl, _⟩ := h
    rfl
  · obtain ⟨i, rfl, i0, i6, q⟩ := h
    refine ⟨_, (pss_cons (ps_if (pt_cmpR op_eq (pv 0) pe_int (nomark _)) (pss_one (ps_ret (pe_df D.plain G_plain (hr.mono (by decide)) (by rfl) (pa_cons (pe_df0 D.block G_block (hr.mono (by decide)) (by rfl)) pa_nil)))) pss_nil)
    (pss_cons (ps_if (pt_cmpR op_eq (pv 0) pe_int (nomark _)) (pss_one (ps_ret (pe_df D.plain G_plain (hr.mono (by decide)) (by rfl) (pa_cons (pe_df0 D.count G_count (hr.mono (by decide)) (by rfl)) pa_nil)))) pss_nil)
    (pss_cons (ps_if (pt_cmpR op_eq (pv 0) pe_int (nomark _)) (pss_one (ps_ret (pe_df D.plain G_plain (hr.mono (by decide)) (by rfl) (pa_cons (pe_df0 D.deal G_deal (hr.mono (by decide)) (by rfl)) pa_nil)))) pss_nil)
    (pss_cons (ps_if (pt_cmpR op_eq (pv 0) pe_int (nomark _)) (pss_one (ps_ret (pe_df D.plain G_plain (hr.mono (by decide)) (by rfl) (pa_cons (pe_df0 D.either G_either (hr.mono (by decide)) (by rfl)) pa_nil)))) pss_nil)
    (pss_cons (ps_if (pt_cmpR op_eq (pv 0) pe_int (nomark _)) (pss_one (ps_ret (pe_df D.plain G_plain (hr.mono (by decide)) (by rfl) (pa_cons (pe_df0 D.uneven G_uneven (hr.mono (by decide)) (by rfl)) pa_nil)))) pss_nil)
    (pss_one (ps_ret (pe_df D.plain G_plain (hr.mono (by decide)) (by rfl) (pa_cons (pe_ifExp (pt_cmpR op_eq (pv 0) pe_int (nomark _)) (pe_df0 D.paid G_paid (hr.mono (by decide)) (by rfl)) (pe_df0 D.thrice G_thrice (hr.mono (by decide)) (by rfl))) pa_nil))))))))), ?_⟩
    have go : ∀ {xs : List Str}, okLn xs = true → xs.length ≤ 1000 → spLst xs [] H (fun x H1 => spPlain K [x] H1 Q E0) E0 := fun {xs} hk hl => by
      obtain ⟨c, e, dm⟩ := ln_ok hk 0
      refine ⟨rfl, fun a H1 s1 h1 k1 => ⟨a, xs, c, rfl, k1, hl, e, fun p H2 s2 h2 pl => ?_⟩⟩
      exact q p _ _ _ H2 (s1.trans s2) (none_of s1 h2) pl dm
    have g0 := go k_block (by decide)
    have g1 := go k_count (by decide)
    have g2 := go k_deal (by decide)
    have g3 := go k_either (by decide)
    have g4 := go k_uneven (by decide)
    have g5 := go k_paid (by decide)
    have g6 := go k_thrice (by decide)
    clear go q
    rcases (show i = 0 ∨ i = 1 ∨ i = 2 ∨ i = 3 ∨ i = 4 ∨ i = 5 ∨ i = 6 by omega) with rfl | rfl | rfl | rfl | rfl | rfl | rfl
    all_goals clear i0 i6
    all_goals walk_at "rd"
    all_goals walk_at "gg"
theorem Dm.mono {k k' : Nat} {fs ls : List Str} {m : List (Arc × Int)} (h : Dm k fs ls m) (e : k ≤ k') : Dm k' fs ls m := by
  obtain ⟨nm, n1, n2, n3⟩ := h.nm
  exact ⟨h.f0, h.l0, h.fn, h.ln, h.an, h.nd, h.ml, h.lt, nm, by omega, n2, n3⟩
end
section
variable {P : Program} {w : World} {K : PySem.W.Frag} {mg : Str → Option Value} {base : Heap} {Z : Ad}
/-! ### drawn machines -/
def PRC : List Int := [0, 0, 0, 1, 1, 2, 9]
/-- arcs between the names -/
structure Bag (nm : List Str) (m : List (Arc × Int)) : Prop where
  nd : (m.map (·.1)).Nodup
  mem : ∀ a ∈ m, a.1.1 ∈ nm ∧ a.1.2.1 ∈ ABC ∧ a.1.2.2 ∈ nm ∧ a.2 ∈ PRC
def prod3 (nm : List Str) : List Arc := nm.flatMap fun a => ABC.flatMap fun b => nm.map fun c => (a, b, c)
theorem prod3_len (nm : List Str) : (prod3 nm).length = nm.length * (3 * nm.length) := by
  unfold prod3
  have h : ∀ a : Str, (ABC.flatMap fun b => nm.map fun c => ((a, b, c) : Arc)).length = 3 * nm.length := fun a => by
    unfold ABC
    simp only [List.flatMap_cons, List.flatMap_nil, List.length_append, List.length_map, List.length_nil]
    omega
  rw [List.length_flatMap]
  simp only [h]
  rw [List.map_const', List.sum_replicate_nat]
theorem Bag.len {nm : List Str} {m : List (Arc × Int)} (h : Bag nm m) (hn : nm.length ≤ 10) : m.length ≤ 300 := by
  have h1 := nd_sub_len (nm := prod3 nm) h.nd fun k hk => by
    obtain ⟨a, ha, rfl⟩ := List.mem_map.mp hk
    obtain ⟨h1, h2, h3, _⟩ := h.mem a ha
    exact List.mem_flatMap.mpr ⟨_, h1, List.mem_flatMap.mpr ⟨_, h2, List.mem_map.mpr ⟨_, h3, rfl⟩⟩⟩
  rw [List.length_map, prod3_len] at h1
  have h2 : nm.length * (3 * nm.length) ≤ 10 * (3 * 10) := Nat.mul_le_mul hn (Nat.mul_le_mul_left 3 hn)
  omega
theorem Bag.put {nm : List Str} {m : List (Arc × Int)} (h : Bag nm m) {a b c : Str} {i : Int} (ha : a ∈ nm) (hb : b ∈ ABC) (hc : c ∈ nm) (hi : i ∈ PRC) : Bag nm (putA m (a, b, c) i) :=
  ⟨putA_nd h.nd, fun x hx => by
    rcases putA_mem hx with rfl | hx
    · exact ⟨ha, hb, hc, hi⟩
    · exact h.mem x hx⟩
theorem abc_letter : ∀ x ∈ ABC, isLetter (.str x) = true := by decide +kernel
theorem prc_price : ∀ i ∈ PRC, priceB (.int i) = true := by decide +kernel
theorem Bag.dm {nm fs ls : List Str} {m : List (Arc × Int)} {k : Nat} (h : Bag nm m) (hk : nm.length ≤ k) (hk2 : k ≤ 10) (ten : ∀ x ∈ nm, x ∈ TEN) (asc : ascB nm = true) (sf : fs.Sublist nm) (sl : ls.Sublist nm) (f0 : 0 < fs.length) (l0 : 0 < ls.length) : Dm k fs ls m := by
  have nn : ∀ x ∈ nm, isName (.str x) = true := fun x hx => ten_name x (ten x hx)
  refine ⟨f0, l0, names_mk (fun x hx => nn x (sf.subset hx)) (sub_asc asc sf), names_mk (fun x hx => nn x (sl.subset hx)) (sub_asc asc sl), fun a ha => ?_, h.nd, h.len (by omega), fun a ha => (h.mem a ha).2.1, nm, by omega, nn, fun x hx => ?_⟩
  · obtain ⟨h1, h2, h3, h4⟩ := h.mem a ha
    refine ⟨?_, prc_price _ h4⟩
    unfold placeB
    rw [nn _ h1, abc_letter _ h2, nn _ h3]
    rfl
  · rcases List.mem_append.mp hx with hx | hx
    · rcases List.mem_append.mp hx with hx | hx
      · exact sf.subset hx
      · exact sl.subset hx
    · unfold innA at hx
      obtain ⟨a, ha, hx⟩ := List.mem_flatMap.mp hx
      obtain ⟨h1, h2, h3, h4⟩ := h.mem a ha
      rcases List.mem_cons.mp hx with rfl | hx
      · exact h1
      · rw [List.mem_singleton.mp hx]
        exact h3
def spDrawnM : Sp := fun vs H Q _ => ∃ (d : Addr) (x y z : Int) (k n : Nat), vs = [.ref d, .int (k : Int), .int (n : Int)] ∧ H d = some (.lst [.int x, .int y, .int z]) ∧ 1 ≤ k ∧ k ≤ 10 ∧ 1 ≤ n ∧ n ≤ 3 ∧
  ∀ p fs ls m H', Dk d H H' → H p = none → p ≠ d → PlO H' p fs ls m → Dm k fs ls m → Q (.ref p) H'
theorem ok_drawn_machine (D : Ds K mg Z) (B : Bt mg) (C0 : Cs mg) : FnOk P w K mg base CX0 4 Z.a_drawn_machine Z.d_drawn_machine P_drawn_machine spDrawnM := by
  have G_roll := ok_roll (P := P) (w := w) (base := base) D B
  have G_pick := ok_pick (P := P) (w := w) (base := base) D B
  have G_some := ok_some (P := P) (w := w) (base := base) D B C0
  have G_state_names := ok_state_names (P := P) (w := w) (base := base) D B C0
  obtain ⟨⟨t_LIMIT, c_LIMIT⟩, ⟨t_ALPHABET, c_ALPHABET⟩, ⟨t_MAX_LETTERS, c_MAX_LETTERS⟩, ⟨t_MAX_STATES, c_MAX_STATES⟩, ⟨t_MAX_PRICE, c_MAX_PRICE⟩, ⟨t_FIRST, c_FIRST⟩, ⟨t_LAST, c_LAST⟩, ⟨t_ARC, c_ARC⟩⟩ := C0
  refine D.drawn_machine.F.ok sc_drawn_machine (fun vs H Q E h => ?_) (fun cdv A outer s H vs Q E hr h => ?_)
  · obtain ⟨d, x, y, z, k, n, rfl, _⟩ := h
    rfl
  · obtain ⟨d, x, y, z, k, n, rfl, hd, k1, k10, n1, n3, q⟩ := h
    refine ⟨_, (pss_cons (ps_set (i := 3) sc_drawn_machine.nd rfl (Or.inl rfl) (pe_df D.state_names G_state_names (hr.mono (by decide)) (by rfl) (pa_cons (pv 0) (pa_cons (pe_op op_add pe_int (pe_df D.roll G_roll (hr.mono (by decide)) (by rfl) (pa_cons (pv 0) (pa_cons (pv 1) pa_nil)))) pa_nil))))
    (pss_cons (ps_par (i := 4) (j := 5) (by rfl) sc_drawn_machine.nd rfl rfl (by decide) rfl rfl (pa_cons (pe_slice (sl_listK (K := K) rfl) (pe_lst (pa_cons pe_str (pa_cons pe_str (pa_cons pe_str pa_nil)))) po_none (po_some (pe_op op_add pe_int (pe_df D.roll G_roll (hr.mono (by decide)) (by rfl) (pa_cons (pv 0) (pa_cons (pv 2) pa_nil)))))) (pa_cons pe_dnewT pa_nil)) (by rfl))
    (pss_cons (ps_for PassesOwn.never rfl (pi_listK (K := K) rfl (pv 3)) (pg_name (i := 6) sc_drawn_machine.nd rfl (Or.inl rfl))
      (pss_one (ps_for PassesOwn.never rfl (pi_listK (K := K) rfl (pv 4)) (pg_name (i := 7) sc_drawn_machine.nd rfl (Or.inl rfl))
      (pss_one (ps_for PassesOwn.never rfl (pi_listK (K := K) rfl (pv 3)) (pg_name (i := 8) sc_drawn_machine.nd rfl (Or.inl rfl))
      (pss_one (ps_if (pt_cmpR op_eq (pe_df D.roll G_roll (hr.mono (by decide)) (by rfl) (pa_cons (pv 0) (pa_cons (pe_op op_add pe_int (pe_callTy call_intB (by rfl) B.int (by decide +kernel) (pa_cons (pe_cmpR op_gt (pe_callB call_lenM (by rfl) B.len (by decide +kernel) (pa_cons (pv 3) pa_nil)) pe_int (nomark _)) pa_nil))) pa_nil))) pe_int (nomark _)) (pss_one (ps_dput (hu_of hr) (pv 5) (pe_tup (pa_cons (pv 6) (pa_cons (pv 7) (pa_cons (pv 8) pa_nil)))) (pe_df D.pick G_pick (hr.mono (by decide)) (by rfl) (pa_cons (pv 0) (pa_cons (pe_lst (pa_cons pe_int (pa_cons pe_int (pa_cons pe_int (pa_cons pe_int (pa_cons pe_int (pa_cons pe_int (pa_cons pe_int pa_nil)))))))) pa_nil))) rfl)) pss_nil)))))))
    (pss_one (ps_ret (pe_disp (pps_cons pe_str (pe_df D.some G_some (hr.mono (by decide)) (by rfl) (pa_cons (pv 0) (pa_cons (pv 3) pa_nil))) (pps_cons pe_str (pe_df D.some G_some (hr.mono (by decide)) (by rfl) (pa_cons (pv 0) (pa_cons (pv 3) pa_nil))) (pps_cons pe_str (pv 5) pps_nil))) (by rfl) (by rfl) (fun z => by cases z) (by decide))))))), ?_⟩
    walk_at "rd"
    refine ⟨d, x, y, z, _, rfl, hd, by omega, Nat.lt_of_lt_of_le (log2_of (k := 10) (by omega) (by decide)) (by decide), fun r x1 y1 z1 r0 r1 => ?_⟩
    walk_at "rd"
    refine ⟨d, x1, y1, z1, (1 + r).toNat, by rw [Int.toNat_of_nonneg (by omega)], upd_same, by omega, fun pn nm H1 dk1 npd hpn nl ten asc hnm => ?_⟩
    replace dk1 := (Dk.roll (A := H) x1 y1 z1).trans dk1
    replace hpn := (Dk.roll (A := H) x1 y1 z1).none npd hpn
    walk_at "gg"
    refine ⟨by decide, fun p0 h0 => ?_⟩
    obtain ⟨x2, y2, z2, hd2⟩ := dk1.2
    have np0 : p0 ≠ d := Dk.ne hd2 h0
    have e0 := Same.new (o := HO.lst (ABC.map V.str)) h0
    have dk2 := dk1.same e0
    have hp0 : upd H1 p0 (HO.lst (ABC.map V.str)) p0 = some (.lst (ABC.map V.str)) := upd_same
    replace hnm := e0 _ _ hnm
    refine ⟨d, x2, y2, z2, _, rfl, e0 _ _ hd2, by omega, Nat.lt_of_lt_of_le (log2_of (k := 10) (by omega) (by decide)) (by decide), fun r2 x3 y3 z3 r20 r21 => ?_⟩
    have dk3 := dk2.trans (Dk.roll x3 y3 z3)
    have hp3 : upd (upd H1 p0 (HO.lst (ABC.map V.str))) d (HO.lst [.int x3, .int y3, .int z3]) p0 = some (.lst (ABC.map V.str)) := by rw [upd_ne np0]; exact hp0
    have hn3 : upd (upd H1 p0 (HO.lst (ABC.map V.str))) d (HO.lst [.int x3, .int y3, .int z3]) pn = some (.lst (nm.map V.str)) := by rw [upd_ne npd]; exact hnm
    refine ⟨r2, rfl, ?_⟩
    change rSlL _ _ _ _ (upd (upd H1 p0 (HO.lst (ABC.map V.str))) d (HO.lst [.int x3, .int y3, .int z3])) _
    generalize upd (upd H1 p0 (HO.lst (ABC.map V.str))) d (HO.lst [.int x3, .int y3, .int z3]) = H3 at dk3 hp3 hn3 ⊢
    refine ⟨p0, _, rfl, SqL.of hp3, fun ps hps => ?_⟩
    have ec : cutV (ABC.map V.str) none (some (1 + r2)) = (ABC.take (1 + r2).toNat).map V.str := by
      rw [show (1 + r2 : Int) = (((1 + r2).toNat : Nat) : Int) by omega, cut_take, List.map_take, Int.toNat_natCast]
    rw [ec]
    have sgl : ∀ x ∈ ABC.take (1 + r2).toNat, x ∈ ABC := fun x hx => List.mem_of_mem_take hx
    have sgn : (ABC.take (1 + r2).toNat).length ≤ 3 := by rw [List.length_take]; exact Nat.min_le_right _ _
    generalize ABC.take (1 + r2).toNat = sg at sgl sgn ⊢
    have e4 := Same.new (o := HO.lst (sg.map V.str)) hps
    have hs4 : upd H3 ps (HO.lst (sg.map V.str)) ps = some (.lst (sg.map V.str)) := upd_same
    have dk4 := dk3.same e4
    have hn4 := e4 _ _ hn3
    have nps : ps ≠ d := Dk.ne dk3.2.choose_spec.choose_spec.choose_spec hps
    generalize upd H3 ps (HO.lst (sg.map V.str)) = H4 at e4 hs4 dk4 hn4 ⊢
    walk_at "rd"
    intro pa hpa
    have npa : pa ≠ d := Dk.ne dk4.2.choose_spec.choose_spec.choose_spec hpa
    have hpa0 := dk4.none npa hpa
    have e5 := Same.new (o := HO.dT []) hpa
    have dk5 := dk4.same e5
    have hn5 := e5 _ _ hn4
    have hs5 := e5 _ _ hs4
    have ha5 : upd H4 pa (HO.dT []) pa = some (.dT (encA [])) := upd_same
    have nap : pa ≠ pn := fun e => by rw [e, hn4] at hpa; cases hpa
    have nas : pa ≠ ps := fun e => by rw [e, hs4] at hpa; cases hpa
    generalize upd H4 pa (HO.dT []) = H5 at e5 dk5 hn5 hs5 ha5 ⊢
    clear e4 e5 e0 dk1 dk2 dk3 dk4 hn3 hn4 hp0 hp3 hs4 hnm hd2 hps hpa h0 ec
    have nl10 : nm.length ≤ 10 := by omega
    have nl1 : 1 ≤ nm.length := by omega
    have nlk : nm.length ≤ k := by omega
    clear nl r0 r1 r20 r21
    walk_at "go"
    refine ⟨⟨_, SqL.of hn5⟩, ?_⟩
    obtain ⟨Pv, hP⟩ := inv_bi (fun (_ : Unit) (σ : St) (H' : Hp) => ∃ (m : List (Arc × Int)) (o6 o7 o8 : Option V), σ = [some (.ref d), some (.int (k : Int)), some (.int (n : Int)), some (.ref pn), some (.ref ps), some (.ref pa), o6, o7, o8] ∧ Dk d H H' ∧ H' pn = some (.lst (nm.map V.str)) ∧ H' ps = some (.lst (sg.map V.str)) ∧ H' pa = some (.dT (encA m)) ∧ Bag nm m)
    have lnm : (nm.map V.str).length = nm.length := List.length_map ..
    have lsg : (sg.map V.str).length = sg.length := List.length_map ..
    have sqn : ∀ σ H', Pv () σ H' → SqL K H' pn (nm.map V.str) := fun σ H' h => by obtain ⟨_, _, _, _, _, _, e, _⟩ := (hP _ _ _).mp h; exact SqL.of e
    have sqs : ∀ σ H', Pv () σ H' → SqL K H' ps (sg.map V.str) := fun σ H' h => by obtain ⟨_, _, _, _, _, _, _, e, _⟩ := (hP _ _ _).mp h; exact SqL.of e
    refine loop_it (walk_list (K := K) (a := pn) (xs := nm.map V.str)) (fun _ => Pv ()) ((hP _ _ _).mpr ⟨[], _, _, _, rfl, dk5, hn5, hs5, ha5, ⟨.nil, fun a h => by cases h⟩⟩) (fun i σ H' _ h => sqn σ H' h) (fun i x σ H6 H7 hi hpv y => ?_) (fun σ H6 hpv => ?_)
    · obtain ⟨m, o6, o7, o8, rfl, dk6, hn6, hs6, ha6, bag⟩ := (hP _ _ _).mp hpv
      obtain ⟨rfl, hx⟩ := y
      obtain ⟨s1, hs1, rfl⟩ := List.mem_map.mp (List.mem_of_getElem? hx)
      walk_at "rd"
      refine later ?_
      walk_at "rd"
      refine ⟨⟨_, SqL.of hs6⟩, ?_⟩
      have up : ∀ (o6 o7 o8 : Option V) (m : List (Arc × Int)) (H' : Hp), Dk d H H' → H' pn = some (.lst (nm.map V.str)) → H' ps = some (.lst (sg.map V.str)) → H' pa = some (.dT (encA m)) → Bag nm m → Pv () [some (.ref d), some (.int (k : Int)), some (.int (n : Int)), some (.ref pn), some (.ref ps), some (.ref pa), o6, o7, o8] H' := fun o6 o7 o8 m H' h1 h2 h3 h4 h5 => (hP _ _ _).mpr ⟨m, o6, o7, o8, rfl, h1, h2, h3, h4, h5⟩
      clear hP hpv sqn sqs
      obtain ⟨Pw, hW⟩ := inv_bi (fun (_ : Unit) (σ : St) (H' : Hp) => ∃ (m : List (Arc × Int)) (o7 o8 : Option V), σ = [some (.ref d), some (.int (k : Int)), some (.int (n : Int)), some (.ref pn), some (.ref ps), some (.ref pa), some (.str s1), o7, o8] ∧ Dk d H H' ∧ H' pn = some (.lst (nm.map V.str)) ∧ H' ps = some (.lst (sg.map V.str)) ∧ H' pa = some (.dT (encA m)) ∧ Bag nm m)
      refine loop_it (walk_list (K := K) (a := ps) (xs := sg.map V.str)) (fun _ => Pw ()) ((hW _ _ _).mpr ⟨m, o7, o8, rfl, dk6, hn6, hs6, ha6, bag⟩) (fun i σ H' _ h => by obtain ⟨_, _, _, _, _, _, e, _⟩ := (hW _ _ _).mp h; exact SqL.of e) (fun i x σ H8 H9 hi hpw y => ?_) (fun σ H8 hpw => by obtain ⟨m, o7, o8, rfl, h1, h2, h3, h4, h5⟩ := (hW _ _ _).mp hpw; exact up _ _ _ m H8 h1 h2 h3 h4 h5)
      clear up dk6 hn6 hs6 ha6 bag
      obtain ⟨m, o7, o8, rfl, dk6, hn6, hs6, ha6, bag⟩ := (hW _ _ _).mp hpw
      obtain ⟨rfl, hx2⟩ := y
      obtain ⟨s2, hs2, rfl⟩ := List.mem_map.mp (List.mem_of_getElem? hx2)
      walk_at "rd"
      refine later ?_
      walk_at "rd"
      refine ⟨⟨_, SqL.of hn6⟩, ?_⟩
      have up : ∀ (o7 o8 : Option V) (m : List (Arc × Int)) (H' : Hp), Dk d H H' → H' pn = some (.lst (nm.map V.str)) → H' ps = some (.lst (sg.map V.str)) → H' pa = some (.dT (encA m)) → Bag nm m → Pw () [some (.ref d), some (.int (k : Int)), some (.int (n : Int)), some (.ref pn), some (.ref ps), some (.ref pa), some (.str s1), o7, o8] H' := fun o7 o8 m H' h1 h2 h3 h4 h5 => (hW _ _ _).mpr ⟨m, o7, o8, rfl, h1, h2, h3, h4, h5⟩
      clear hW hpw
      obtain ⟨Pu, hU⟩ := inv_bi (fun (_ : Unit) (σ : St) (H' : Hp) => ∃ (m : List (Arc × Int)) (o8 : Option V), σ = [some (.ref d), some (.int (k : Int)), some (.int (n : Int)), some (.ref pn), some (.ref ps), some (.ref pa), some (.str s1), some (.str s2), o8] ∧ Dk d H H' ∧ H' pn = some (.lst (nm.map V.str)) ∧ H' ps = some (.lst (sg.map V.str)) ∧ H' pa = some (.dT (encA m)) ∧ Bag nm m)
      refine loop_it (walk_list (K := K) (a := pn) (xs := nm.map V.str)) (fun _ => Pu ()) ((hU _ _ _).mpr ⟨m, o8, rfl, dk6, hn6, hs6, ha6, bag⟩) (fun i σ H' _ h => by obtain ⟨_, _, _, _, e, _⟩ := (hU _ _ _).mp h; exact SqL.of e) (fun i x σ H10 H11 hi hpu y => ?_) (fun σ H10 hpu => by obtain ⟨m, o8, rfl, h1, h2, h3, h4, h5⟩ := (hU _ _ _).mp hpu; exact up _ _ m H10 h1 h2 h3 h4 h5)
      clear up dk6 hn6 hs6 ha6 bag
      obtain ⟨m, o8, rfl, dk6, hn6, hs6, ha6, bag⟩ := (hU _ _ _).mp hpu
      obtain ⟨rfl, hx3⟩ := y
      obtain ⟨s3, hs3, rfl⟩ := List.mem_map.mp (List.mem_of_getElem? hx3)
      have up : ∀ (o8 : Option V) (m : List (Arc × Int)) (H' : Hp), Dk d H H' → H' pn = some (.lst (nm.map V.str)) → H' ps = some (.lst (sg.map V.str)) → H' pa = some (.dT (encA m)) → Bag nm m → Pu () [some (.ref d), some (.int (k : Int)), some (.int (n : Int)), some (.ref pn), some (.ref ps), some (.ref pa), some (.str s1), some (.str s2), o8] H' := fun o8 m H' h1 h2 h3 h4 h5 => (hU _ _ _).mpr ⟨m, o8, rfl, h1, h2, h3, h4, h5⟩
      clear hU hpu
      obtain ⟨x4, y4, z4, hd4⟩ := dk6.2
      walk_at "rd"
      refine later ?_
      walk_at "rd"
      have hb : 0 < (2 + (if decide (2 < (nm.length : Int)) = true then 1 else 0) : Int) ∧ (2 + (if decide (2 < (nm.length : Int)) = true then 1 else 0) : Int) ≤ 3 := by split <;> exact ⟨by decide, by decide⟩
      generalize (2 + (if decide (2 < (nm.length : Int)) = true then 1 else 0) : Int) = rr at hb ⊢
      refine ⟨d, x4, y4, z4, _, rfl, hd4, hb.1, Nat.lt_of_lt_of_le (log2_of (k := 10) (by omega) (by decide)) (by decide), fun r3 x5 y5 z5 r30 r31 => ⟨rfl, ?_⟩⟩
      have dk7 := dk6.trans (Dk.roll x5 y5 z5)
      have hn7 : upd H11 d (HO.lst [.int x5, .int y5, .int z5]) pn = some (.lst (nm.map V.str)) := by rw [upd_ne npd]; exact hn6
      have hs7 : upd H11 d (HO.lst [.int x5, .int y5, .int z5]) ps = some (.lst (sg.map V.str)) := by rw [upd_ne nps]; exact hs6
      have ha7 : upd H11 d (HO.lst [.int x5, .int y5, .int z5]) pa = some (.dT (encA m)) := by rw [upd_ne npa]; exact ha6
      have hd7 : upd H11 d (HO.lst [.int x5, .int y5, .int z5]) d = some (.lst [.int x5, .int y5, .int z5]) := upd_same
      generalize upd H11 d (HO.lst [.int x5, .int y5, .int z5]) = H12 at dk7 hn7 hs7 ha7 hd7 ⊢
      refine ite2 (fun h => ?_) (fun h => ?_)
      · refine later ?_
        walk_at "rd"
        refine ⟨by decide, fun pp hpp => ?_⟩
        have e8 := Same.new (o := HO.lst (PRC.map V.int)) hpp
        have dk8 := dk7.same e8
        have npp := Dk.ne hd7 hpp
        refine ⟨d, x5, y5, z5, _, PRC.map V.int, rfl, e8 _ _ hd7, .inl ⟨pp, rfl, npp, upd_same⟩, by decide, by decide, fun v hv x6 y6 z6 => ?_⟩
        obtain ⟨iv, hiv, rfl⟩ := List.mem_map.mp hv
        have dk9 := dk8.trans (Dk.roll x6 y6 z6)
        have hn9 : upd (upd H12 pp (HO.lst (PRC.map V.int))) d (HO.lst [.int x6, .int y6, .int z6]) pn = some (.lst (nm.map V.str)) := by rw [upd_ne npd]; exact e8 _ _ hn7
        have hs9 : upd (upd H12 pp (HO.lst (PRC.map V.int))) d (HO.lst [.int x6, .int y6, .int z6]) ps = some (.lst (sg.map V.str)) := by rw [upd_ne nps]; exact e8 _ _ hs7
        have ha9 : upd (upd H12 pp (HO.lst (PRC.map V.int))) d (HO.lst [.int x6, .int y6, .int z6]) pa = some (.dT (encA m)) := by rw [upd_ne npa]; exact e8 _ _ ha7
        walk_at "rd"
        refine ⟨by decide, fun pt hpt => ?_⟩
        have eA := Same.new (o := HO.tup [.str s1, .str s2, .str s3]) hpt
        have ml := bag.len nl10
        refine ⟨_, DPut.t (k := key3 (s1, s2, s3)) (eA _ _ ha9) upd_same ?_, up _ (putA m (s1, s2, s3) iv) _ ((dk9.same eA).lay hpa0 npa) ?_ ?_ ?_ (bag.put hs1 (sgl _ hs2) hs3 hiv)⟩
        · unfold encA
          rw [List.length_map]
          exact Nat.lt_of_le_of_lt ml (by decide)
        · rw [upd_ne nap.symm]
          exact eA _ _ hn9
        · rw [upd_ne nas.symm]
          exact eA _ _ hs9
        · rw [upd_same, put_enc]
      · refine later ?_
        exact up _ m _ dk7 hn7 hs7 ha7 bag
    · obtain ⟨m, o6, o7, o8, rfl, dk6, hn6, hs6, ha6, bag⟩ := (hP _ _ _).mp hpv
      clear hP sqn sqs hpv dk5 hn5 hs5 ha5
      obtain ⟨x4, y4, z4, hd4⟩ := dk6.2
      have okn : ∀ x ∈ nm, PyData.strOk x = true := fun x hx => name_ok (ten_name x (ten x hx))
      walk_at "gg"
      intro p hp
      have npp := Dk.ne hd4 hp
      have hp0 := dk6.none npp hp
      have e7 := Same.new (o := HO.dK []) hp
      have dk7 := dk6.same e7
      have hp7 := upd_same (H := H6) (a := p) (o := HO.dK [])
      refine ⟨d, pn, x4, y4, z4, nm, rfl, e7 _ _ hd4, npd, e7 _ _ hn6, by omega, by omega, okn, fun pf fs H8 dk8 npf hpf sf f0 hf => ?_⟩
      obtain ⟨x5, y5, z5, hd8⟩ := dk8.2
      refine ⟨d, pn, x5, y5, z5, nm, rfl, hd8, npd, dk8.1 _ _ npd (e7 _ _ hn6), by omega, by omega, okn, fun pl ls H9 dk9 npl hpl sl l0 hl => ?_⟩
      have hp9 := dk9.1 _ _ npp (dk8.1 _ _ npp hp7)
      have ha9 := dk9.1 _ _ npa (dk8.1 _ _ npa (e7 _ _ ha6))
      have hf9 := dk9.1 _ _ npf hf
      refine ⟨hp9, [(.inr kF, .ref pf), (.inr kL, .ref pl), (.inr kA, .ref pa)], rfl, Nat.le_of_ble_eq_true rfl, ?_⟩
      rw [merge3]
      refine q p fs ls m _ (((dk7.trans dk8).trans dk9).lay hp0 npp) hp0 npp ⟨pf, pl, pa, upd_same, ?_, ?_, ?_⟩ (bag.dm nlk k10 ten asc sf sl f0 l0)
      · rw [upd_ne (fun e => by rw [e, hp9] at hf9; cases hf9)]
        exact hf9
      · rw [upd_ne (fun e => by rw [e, hp9] at hl; cases hl)]
        exact hl
      · rw [upd_ne (fun e => by rw [e, hp9] at ha9; cases ha9)]
        exact ha9
def spAny : Sp := fun vs H Q _ => ∃ (d : Addr) (x y z : Int) (k n : Nat), vs = [.ref d, .int (k : Int), .int (n : Int)] ∧ H d = some (.lst [.int x, .int y, .int z]) ∧ 1 ≤ k ∧ k ≤ 10 ∧ 1 ≤ n ∧ n ≤ 3 ∧
  ∀ p fs ls m H', Dk d H H' → H p = none → p ≠ d → PlO H' p fs ls m → Dm k fs ls m → Q (.ref p) H'
theorem ok_any_machine (D : Ds K mg Z) (B : Bt mg) (C0 : Cs mg) : FnOk P w K mg base CX0 5 Z.a_any_machine Z.d_any_machine P_any_machine spAny := by
  have G_roll := ok_roll (P := P) (w := w) (base := base) D B
  have G_written := ok_written (P := P) (w := w) (base := base) D B C0
  have G_drawn_machine := ok_drawn_machine (P := P) (w := w) (base := base) D B C0
  obtain ⟨⟨t_LIMIT, c_LIMIT⟩, ⟨t_ALPHABET, c_ALPHABET⟩, ⟨t_MAX_LETTERS, c_MAX_LETTERS⟩, ⟨t_MAX_STATES, c_MAX_STATES⟩, ⟨t_MAX_PRICE, c_MAX_PRICE⟩, ⟨t_FIRST, c_FIRST⟩, ⟨t_LAST, c_LAST⟩, ⟨t_ARC, c_ARC⟩⟩ := C0
  refine D.any_machine.F.ok sc_any_machine (fun vs H Q E h => ?_) (fun cdv A outer s H vs Q E hr h => ?_)
  · obtain ⟨d, x, y, z, k, n, rfl, _⟩ := h
    rfl
  · obtain ⟨d, x, y, z, k, n, rfl, hd, k1, k10, n1, n3, q⟩ := h
    refine ⟨_, (pss_cons (ps_if (pt_cmpR op_eq (pe_df D.roll G_roll (hr.mono (by decide)) (by rfl) (pa_cons (pv 0) (pa_cons pe_int pa_nil))) pe_int (nomark _)) (pss_one (ps_ret (pe_df D.written G_written (hr.mono (by decide)) (by rfl) (pa_cons (pe_df D.roll G_roll (hr.mono (by decide)) (by rfl) (pa_cons (pv 0) (pa_cons pe_int pa_nil))) pa_nil)))) pss_nil)
    (pss_one (ps_ret (pe_df D.drawn_machine G_drawn_machine (hr.mono (by decide)) (by rfl) (pa_cons (pv 0) (pa_cons (pv 1) (pa_cons (pv 2) pa_nil))))))), ?_⟩
    walk_at "rd"
    refine ⟨d, x, y, z, _, rfl, hd, by decide, by decide, fun r x1 y1 z1 r0 r1 => ⟨rfl, ?_⟩⟩
    have dk1 := Dk.roll (d := d) (A := H) x1 y1 z1
    have hd1 : upd H d (HO.lst [.int x1, .int y1, .int z1]) d = some (.lst [.int x1, .int y1, .int z1]) := upd_same
    generalize upd H d (HO.lst [.int x1, .int y1, .int z1]) = H1 at dk1 hd1 ⊢
    refine ite2 (fun h => ?_) (fun h => ?_)
    · refine later ?_
      walk_at "rd"
      refine ⟨d, x1, y1, z1, _, rfl, hd1, by decide, by decide, fun r2 x2 y2 z2 r20 r21 => ⟨r2, rfl, r20, by omega, fun p fs ls m H' e hp pl dm => ?_⟩⟩
      have dk2 := dk1.trans (Dk.roll x2 y2 z2)
      have np : p ≠ d := Dk.ne upd_same hp
      exact q p fs ls m H' (dk2.same e) (dk2.none np hp) np pl (dm.mono (Nat.zero_le _))
    · walk_at "gg"
      exact ⟨d, x1, y1, z1, k, n, rfl, hd1, k1, k10, n1, n3, fun p fs ls m H' dk hp np pl dm => q p fs ls m H' (dk1.trans dk) (dk1.none np hp) np pl dm⟩
end
section
/-! ### renamings, plainly -/
def encN (im : List (Str × Str)) : List (Key × V) := im.map fun p => (.inr p.1, .str p.2)
def apN (im : List (Str × Str)) (x : Str) : Str := match im.find? (fun p => decide (p.1 = x)) with
  | some p => p.2
  | none => x
theorem find_in {α : Type} {im : List (Str × α)} {x : Str} (h : x ∈ im.map (·.1)) : ∃ p, im.find? (fun p => decide (p.1 = x)) = some p ∧ p ∈ im ∧ p.1 = x := by
  obtain ⟨q, hq, e⟩ := List.mem_map.mp h
  cases hf : im.find? (fun p => decide (p.1 = x)) with
  | none => exact absurd (decide_eq_true e) (List.find?_eq_none.mp hf q hq)
  | some p => exact ⟨p, rfl, List.mem_of_find?_eq_some hf, of_decide_eq_true (by have := List.find?_some hf; exact this)⟩
theorem find_encN (x : Str) : ∀ im : List (Str × Str), ((encN im).find? fun kv => decide (kv.1 = (.inr x : Key))) = (im.find? fun p => decide (p.1 = x)).map fun p => ((.inr p.1 : Key), V.str p.2)
  | [] => rfl
  | p :: r => by
    show (((.inr p.1 : Key), V.str p.2) :: encN r).find? _ = _
    rw [List.find?_cons, List.find?_cons]
    have e : decide ((.inr p.1 : Key) = .inr x) = decide (p.1 = x) := by
      by_cases h : p.1 = x
      · rw [decide_eq_true h, decide_eq_true (by rw [h])]
      · rw [decide_eq_false h, decide_eq_false (fun z => h (Sum.inr.inj z))]
    show (match decide ((.inr p.1 : Key) = .inr x) with | true => some ((.inr p.1 : Key), V.str p.2) | false => (encN r).find? _) = _
    rw [e]
    cases decide (p.1 = x)
    · exact find_encN x r
    · rfl
theorem val_encN {im : List (Str × Str)} {x : Str} (h : x ∈ im.map (·.1)) : valV (encN im) (.inr x) = some (.str (apN im x)) := by
  obtain ⟨p, hp, _, _⟩ := find_in h
  unfold valV apN
  rw [find_encN, hp]
  rfl
theorem ap_mem {im : List (Str × Str)} {x : Str} (h : x ∈ im.map (·.1)) : (x, apN im x) ∈ im := by
  obtain ⟨p, hp, hm, e⟩ := find_in h
  unfold apN
  rw [hp, ← e]
  exact hm
def InjOn (r : Str → Str) (ys : List Str) : Prop := ∀ x ∈ ys, ∀ y ∈ ys, r x = r y → x = y
structure Rn (ys : List Str) (im : List (Str × Str)) : Prop where
  keys : (im.map (·.1)).Perm ys
  nd : ys.Nodup
  vals : (im.map (·.2)).Nodup
  names : ∀ p ∈ im, isName (.str p.2) = true
  few : ys.length ≤ 24
theorem snd_inj {α : Type} : ∀ {im : List (α × Str)}, (im.map (·.2)).Nodup → ∀ p ∈ im, ∀ q ∈ im, p.2 = q.2 → p = q
  | [], _, _, hp, _, _, _ => by cases hp
  | a :: r, nd, p, hp, q, hq, e => by
    rw [List.map_cons, List.nodup_cons] at nd
    rcases List.mem_cons.mp hp with h1 | h1
    · rcases List.mem_cons.mp hq with h2 | h2
      · rw [h1, h2]
      · exact (nd.1 (List.mem_map.mpr ⟨q, h2, by rw [← e, h1]⟩)).elim
    · rcases List.mem_cons.mp hq with h2 | h2
      · exact (nd.1 (List.mem_map.mpr ⟨p, h1, by rw [e, h2]⟩)).elim
      · exact snd_inj nd.2 p h1 q h2 e
theorem Rn.key {ys : List Str} {im : List (Str × Str)} (h : Rn ys im) {x : Str} (hx : x ∈ ys) : x ∈ im.map (·.1) := h.keys.mem_iff.mpr hx
theorem Rn.inj {ys : List Str} {im : List (Str × Str)} (h : Rn ys im) : InjOn (apN im) ys := fun x hx y hy e =>
  congrArg Prod.fst (snd_inj h.vals _ (ap_mem (h.key hx)) _ (ap_mem (h.key hy)) e)
theorem Rn.name {ys : List Str} {im : List (Str × Str)} (h : Rn ys im) {x : Str} (hx : x ∈ ys) : isName (.str (apN im x)) = true := h.names _ (ap_mem (h.key hx))
theorem nd_map {r : Str → Str} {ys : List Str} (inj : InjOn r ys) : ∀ {xs : List Str}, (∀ x ∈ xs, x ∈ ys) → xs.Nodup → (xs.map r).Nodup
  | [], _, _ => .nil
  | x :: xs, h, nd => by
    rw [List.nodup_cons] at nd
    rw [List.map_cons, List.nodup_cons]
    refine ⟨fun hm => ?_, nd_map inj (fun y hy => h y (List.mem_cons_of_mem _ hy)) nd.2⟩
    obtain ⟨y, hy, e⟩ := List.mem_map.mp hm
    rw [inj y (h y (List.mem_cons_of_mem _ hy)) x (h x List.mem_cons_self) e] at hy
    exact nd.1 hy
theorem leS_anti {a b : Str} (h1 : leS a b = true) (h2 : leS b a = true) : a = b := by
  unfold leS at h1 h2
  rw [decide_eq_true_eq] at h1 h2
  exact key_inj (List.le_antisymm h1 h2)
theorem sortS_eq {xs ys : List Str} (p : xs.Perm ys) : sortS xs = sortS ys :=
  pw_one (r := fun a b => leS a b = true) (fun a b => leS_anti) (PySem.W.sort_pairwise leS_total xs) (PySem.W.sort_pairwise leS_total ys) ((sortS_perm xs).trans (p.trans (sortS_perm ys).symm))
theorem asc_le {xs : List Str} (h : ascB xs = true) : xs.Pairwise (fun a b => leS a b = true) := (pw_asc h).imp fun {a b} e => by
  unfold ltS at e
  unfold leS
  rw [decide_eq_true_eq] at e ⊢
  exact List.le_of_lt e
theorem sortS_id {xs : List Str} (h : ascB xs = true) : sortS xs = xs :=
  pw_one (r := fun a b => leS a b = true) (fun a b => leS_anti) (PySem.W.sort_pairwise leS_total xs) (asc_le h) (sortS_perm xs)
theorem sortS_len (xs : List Str) : (sortS xs).length = xs.length := (sortS_perm xs).length_eq
theorem sortA_id (m : List (Arc × Int)) (nd : (m.map (·.1)).Nodup) : sortA (sortA m) = sortA m := (sortA_eq (sort_perm m).symm nd).symm
/-- the arcs with other names -/
def rnA (r : Str → Str) (m : List (Arc × Int)) : List (Arc × Int) := m.map fun a => ((r a.1.1, a.1.2.1, r a.1.2.2), a.2)
theorem rnA_perm {r : Str → Str} {m n : List (Arc × Int)} (p : m.Perm n) : (rnA r m).Perm (rnA r n) := p.map _
theorem rnA_len (r : Str → Str) (m : List (Arc × Int)) : (rnA r m).length = m.length := List.length_map ..
theorem rnA_nd {r : Str → Str} {ys : List Str} (inj : InjOn r ys) : ∀ {m : List (Arc × Int)}, (∀ x ∈ innA m, x ∈ ys) → (m.map (·.1)).Nodup → ((rnA r m).map (·.1)).Nodup
  | [], _, _ => .nil
  | a :: m, h, nd => by
    rw [List.map_cons, List.nodup_cons] at nd
    show ((r a.1.1, a.1.2.1, r a.1.2.2) :: (rnA r m).map (·.1)).Nodup
    have hm : ∀ x ∈ innA m, x ∈ ys := fun x hx => h x (by rw [innA, List.flatMap_cons]; exact List.mem_append_right _ hx)
    have ha : ∀ x, x = a.1.1 ∨ x = a.1.2.2 → x ∈ ys := fun x hx => h x (inn_mem.mpr ⟨a, List.mem_cons_self, hx⟩)
    refine List.nodup_cons.mpr ⟨fun hmem => ?_, rnA_nd inj hm nd.2⟩
    obtain ⟨b', hb', e⟩ := List.mem_map.mp hmem
    obtain ⟨b, hb, rfl⟩ := List.mem_map.mp hb'
    have hb2 : ∀ x, x = b.1.1 ∨ x = b.1.2.2 → x ∈ ys := fun x hx => hm x (inn_mem.mpr ⟨b, hb, hx⟩)
    have e1 : r b.1.1 = r a.1.1 := congrArg Prod.fst e
    have e2 : b.1.2.1 = a.1.2.1 := congrArg (fun z => z.2.1) e
    have e3 : r b.1.2.2 = r a.1.2.2 := congrArg (fun z => z.2.2) e
    have f1 := inj _ (hb2 _ (.inl rfl)) _ (ha _ (.inl rfl)) e1
    have f3 := inj _ (hb2 _ (.inr rfl)) _ (ha _ (.inr rfl)) e3
    exact nd.1 (List.mem_map.mpr ⟨b, hb, Prod.ext f1 (Prod.ext e2 f3)⟩)
theorem inn_rn (r : Str → Str) (m : List (Arc × Int)) : innA (rnA r m) = (innA m).map r := by
  unfold innA rnA
  rw [List.flatMap_map, List.map_flatMap]
  rfl
structure InSt (ys fs ls : List Str) (m : List (Arc × Int)) : Prop where
  f : ∀ x ∈ fs, x ∈ ys
  l : ∀ x ∈ ls, x ∈ ys
  m : ∀ x ∈ innA m, x ∈ ys
theorem so_inSt {ys fs ls : List Str} {m : List (Arc × Int)} (h : Sorted ys (fs ++ ls ++ innA m)) : InSt ys fs ls m :=
  ⟨fun x hx => (h.mem x).mpr (List.mem_append_left _ (List.mem_append_left _ hx)), fun x hx => (h.mem x).mpr (List.mem_append_left _ (List.mem_append_right _ hx)), fun x hx => (h.mem x).mpr (List.mem_append_right _ hx)⟩
theorem InSt.sort {ys fs ls : List Str} {m : List (Arc × Int)} (h : InSt ys fs ls (sortA m)) : InSt ys fs ls m :=
  ⟨h.f, h.l, fun x hx => h.m x (by obtain ⟨a, ha, e⟩ := inn_mem.mp hx; exact inn_mem.mpr ⟨a, (sort_perm m).mem_iff.mpr ha, e⟩)⟩
theorem InSt.perm {ys fs ls : List Str} {m n : List (Arc × Int)} (p : m.Perm n) (h : InSt ys fs ls m) : InSt ys fs ls n :=
  ⟨h.f, h.l, fun x hx => h.m x (by obtain ⟨a, ha, e⟩ := inn_mem.mp hx; exact inn_mem.mpr ⟨a, p.mem_iff.mpr ha, e⟩)⟩
theorem Gm.rn {ys fs ls : List Str} {m : List (Arc × Int)} {r : Str → Str} (g : Gm fs ls m) (st : InSt ys fs ls m) (few : ys.length ≤ 24) (inj : InjOn r ys) (nm : ∀ x ∈ ys, isName (.str (r x)) = true) :
    Gm (sortS (fs.map r)) (sortS (ls.map r)) (rnA r m) := by
  have ndf := nd_map inj st.f (asc_nd (names_asc g.fn))
  have ndl := nd_map inj st.l (asc_nd (names_asc g.ln))
  have up : ∀ {zs : List Str}, (∀ x ∈ zs, x ∈ ys) → ∀ x ∈ sortS (zs.map r), isName (.str x) = true := fun {zs} hz x hx => by
    obtain ⟨y, hy, rfl⟩ := List.mem_map.mp ((sortS_perm _).mem_iff.mp hx)
    exact nm y (hz y hy)
  refine ⟨by rw [sortS_len, List.length_map]; exact g.f0, by rw [sortS_len, List.length_map]; exact g.l0, names_mk (up st.f) (sortS_asc ndf), names_mk (up st.l) (sortS_asc ndl), fun a ha => ?_, rnA_nd inj st.m g.nd, ?_, fun zs so => ?_⟩
  · obtain ⟨b, hb, rfl⟩ := List.mem_map.mp ha
    obtain ⟨pl, pr⟩ := g.an b hb
    obtain ⟨p1, p2, p3⟩ := place_of pl
    refine ⟨?_, pr⟩
    show (isName (.str (r b.1.1)) && (isLetter (.str b.1.2.1) && isName (.str (r b.1.2.2)))) = true
    rw [nm _ (st.m _ (inn_mem.mpr ⟨b, hb, .inl rfl⟩)), p2, nm _ (st.m _ (inn_mem.mpr ⟨b, hb, .inr rfl⟩))]
    rfl
  · rw [sortS_len, List.length_map, sortS_len, List.length_map, rnA_len]
    exact g.small
  · have h := nd_sub_len (nm := ys.map r) so.nd fun y hy => by
      rcases List.mem_append.mp ((so.mem y).mp hy) with h | h
      · rcases List.mem_append.mp h with h | h
        · obtain ⟨x, hx, rfl⟩ := List.mem_map.mp ((sortS_perm _).mem_iff.mp h)
          exact List.mem_map.mpr ⟨x, st.f x hx, rfl⟩
        · obtain ⟨x, hx, rfl⟩ := List.mem_map.mp ((sortS_perm _).mem_iff.mp h)
          exact List.mem_map.mpr ⟨x, st.l x hx, rfl⟩
      · rw [inn_rn] at h
        obtain ⟨x, hx, rfl⟩ := List.mem_map.mp h
        exact List.mem_map.mpr ⟨x, st.m x hx, rfl⟩
    rw [List.length_map] at h
    omega
/-- the states of a renamed machine -/
theorem so_rn {ys zs fs ls : List Str} {m m' : List (Arc × Int)} {r : Str → Str} (so : Sorted ys (fs ++ ls ++ innA m)) (inj : InjOn r ys) (p : m'.Perm (rnA r m)) (so2 : Sorted zs (sortS (fs.map r) ++ sortS (ls.map r) ++ innA m')) : zs.Perm (ys.map r) := by
  refine (List.perm_ext_iff_of_nodup so2.nd (nd_map inj (fun _ h => h) so.nd)).mpr fun k => ?_
  have im : k ∈ innA m' ↔ ∃ x ∈ innA m, r x = k := by
    rw [inn_mem]
    constructor
    · rintro ⟨a, ha, e⟩
      have h : k ∈ innA (rnA r m) := inn_mem.mpr ⟨a, p.mem_iff.mp ha, e⟩
      rw [inn_rn] at h
      exact List.mem_map.mp h
    · intro h
      have h : k ∈ innA (rnA r m) := by rw [inn_rn]; exact List.mem_map.mpr h
      obtain ⟨a, ha, e⟩ := inn_mem.mp h
      exact ⟨a, p.mem_iff.mpr ha, e⟩
  rw [so2.mem k, List.mem_append, List.mem_append, (sortS_perm _).mem_iff, (sortS_perm _).mem_iff, im, List.mem_map, List.mem_map, List.mem_map]
  constructor
  · rintro ((⟨x, hx, e⟩ | ⟨x, hx, e⟩) | ⟨x, hx, e⟩)
    · exact ⟨x, (so_inSt so).f x hx, e⟩
    · exact ⟨x, (so_inSt so).l x hx, e⟩
    · exact ⟨x, (so_inSt so).m x hx, e⟩
  · rintro ⟨x, hx, e⟩
    rcases List.mem_append.mp ((so.mem x).mp hx) with h | h
    · rcases List.mem_append.mp h with h | h
      · exact .inl (.inl ⟨x, h, e⟩)
      · exact .inl (.inr ⟨x, h, e⟩)
    · exact .inr ⟨x, h, e⟩
end
section
variable {P : Program} {w : World} {K : PySem.W.Frag} {mg : Str → Option Value} {base : Heap} {Z : Ad}
/-! ### told of machines -/
def spMF (C : Addr) : Sp := fun vs H Q _ => ∃ (x : Addr) (fs ls : List Str) (m : List (Arc × Int)), vs = [.ref x] ∧ MacO C H x fs ls m ∧ ∀ f, H f = some (.tup (fs.map V.str)) → Q (.ref f) H
theorem ok_Machine_firsts (D : Ds K mg Z) (B : Bt mg) (C0 : Cs mg) : FnOk P w K mg base CX0 1 Z.a_Machine_firsts Z.d_Machine_firsts P_Machine_firsts (spMF Z.c_Machine) := by
  obtain ⟨⟨t_LIMIT, c_LIMIT⟩, ⟨t_ALPHABET, c_ALPHABET⟩, ⟨t_MAX_LETTERS, c_MAX_LETTERS⟩, ⟨t_MAX_STATES, c_MAX_STATES⟩, ⟨t_MAX_PRICE, c_MAX_PRICE⟩, ⟨t_FIRST, c_FIRST⟩, ⟨t_LAST, c_LAST⟩, ⟨t_ARC, c_ARC⟩⟩ := C0
  refine D.Machine_firsts.F.ok sc_Machine_firsts (fun vs H Q E h => ?_) (fun cdv A outer s H vs Q E hr h => ?_)
  · obtain ⟨x, fs, ls, m, rfl, _⟩ := h
    rfl
  · obtain ⟨x, fs, ls, m, rfl, mo, q⟩ := h
    obtain ⟨dx, da, f, l, ln, st, sp, ys, ws, h1, h2, h3, h4, h5, h6, h7, h8, h9, h10⟩ := mo
    refine ⟨_, (pss_one (ps_ret (pe_slot D.Machine D.Machine_own_firsts (pv 0)))), ?_⟩
    exact ⟨.ref x, rfl, x, dx, _, _, rfl, h1, rfl, q f h3⟩
def spMS (C : Addr) : Sp := fun vs H Q _ => ∃ (x : Addr) (fs ls : List Str) (m : List (Arc × Int)), vs = [.ref x] ∧ MacO C H x fs ls m ∧ ∀ st ys, H st = some (.tup (ys.map V.str)) → Sorted ys (fs ++ ls ++ innA m) → Q (.ref st) H
theorem ok_Machine_states (D : Ds K mg Z) (B : Bt mg) (C0 : Cs mg) : FnOk P w K mg base CX0 1 Z.a_Machine_states Z.d_Machine_states P_Machine_states (spMS Z.c_Machine) := by
  obtain ⟨⟨t_LIMIT, c_LIMIT⟩, ⟨t_ALPHABET, c_ALPHABET⟩, ⟨t_MAX_LETTERS, c_MAX_LETTERS⟩, ⟨t_MAX_STATES, c_MAX_STATES⟩, ⟨t_MAX_PRICE, c_MAX_PRICE⟩, ⟨t_FIRST, c_FIRST⟩, ⟨t_LAST, c_LAST⟩, ⟨t_ARC, c_ARC⟩⟩ := C0
  refine D.Machine_states.F.ok sc_Machine_states (fun vs H Q E h => ?_) (fun cdv A outer s H vs Q E hr h => ?_)
  · obtain ⟨x, fs, ls, m, rfl, _⟩ := h
    rfl
  · obtain ⟨x, fs, ls, m, rfl, mo, q⟩ := h
    obtain ⟨dx, da, f, l, ln, st, sp, ys, ws, h1, h2, h3, h4, h5, h6, h7, h8, h9, h10⟩ := mo
    refine ⟨_, (pss_one (ps_ret (pe_slot D.Machine D.Machine_own_states (pv 0)))), ?_⟩
    exact ⟨.ref x, rfl, x, dx, _, _, rfl, h1, rfl, q st ys h6 h7⟩
def spML (C : Addr) : Sp := fun vs H Q _ => ∃ (x : Addr) (fs ls : List Str) (m : List (Arc × Int)), vs = [.ref x] ∧ MacO C H x fs ls m ∧ ∀ ln, H ln = some (.tup ((linesM fs ls m).map V.str)) → Q (.ref ln) H
theorem ok_Machine_lines (D : Ds K mg Z) (B : Bt mg) (C0 : Cs mg) : FnOk P w K mg base CX0 1 Z.a_Machine_lines Z.d_Machine_lines P_Machine_lines (spML Z.c_Machine) := by
  obtain ⟨⟨t_LIMIT, c_LIMIT⟩, ⟨t_ALPHABET, c_ALPHABET⟩, ⟨t_MAX_LETTERS, c_MAX_LETTERS⟩, ⟨t_MAX_STATES, c_MAX_STATES⟩, ⟨t_MAX_PRICE, c_MAX_PRICE⟩, ⟨t_FIRST, c_FIRST⟩, ⟨t_LAST, c_LAST⟩, ⟨t_ARC, c_ARC⟩⟩ := C0
  refine D.Machine_lines.F.ok sc_Machine_lines (fun vs H Q E h => ?_) (fun cdv A outer s H vs Q E hr h => ?_)
  · obtain ⟨x, fs, ls, m, rfl, _⟩ := h
    rfl
  · obtain ⟨x, fs, ls, m, rfl, mo, q⟩ := h
    obtain ⟨dx, da, f, l, ln, st, sp, ys, ws, h1, h2, h3, h4, h5, h6, h7, h8, h9, h10⟩ := mo
    refine ⟨_, (pss_one (ps_ret (pe_slot D.Machine D.Machine_own_lines (pv 0)))), ?_⟩
    exact ⟨.ref x, rfl, x, dx, _, _, rfl, h1, rfl, q ln h5⟩
def spMLen (C : Addr) : Sp := fun vs H Q _ => ∃ (x : Addr) (fs ls : List Str) (m : List (Arc × Int)), vs = [.ref x] ∧ MacO C H x fs ls m ∧ ∀ ys, Sorted ys (fs ++ ls ++ innA m) → Q (.int (ys.length : Int)) H
theorem ok_Machine___len__ (D : Ds K mg Z) (B : Bt mg) (C0 : Cs mg) : FnOk P w K mg base CX0 1 Z.a_Machine___len__ Z.d_Machine___len__ P_Machine___len__ (spMLen Z.c_Machine) := by
  obtain ⟨⟨t_LIMIT, c_LIMIT⟩, ⟨t_ALPHABET, c_ALPHABET⟩, ⟨t_MAX_LETTERS, c_MAX_LETTERS⟩, ⟨t_MAX_STATES, c_MAX_STATES⟩, ⟨t_MAX_PRICE, c_MAX_PRICE⟩, ⟨t_FIRST, c_FIRST⟩, ⟨t_LAST, c_LAST⟩, ⟨t_ARC, c_ARC⟩⟩ := C0
  refine D.Machine___len__.F.ok sc_Machine___len__ (fun vs H Q E h => ?_) (fun cdv A outer s H vs Q E hr h => ?_)
  · obtain ⟨x, fs, ls, m, rfl, _⟩ := h
    rfl
  · obtain ⟨x, fs, ls, m, rfl, mo, q⟩ := h
    obtain ⟨dx, da, f, l, ln, st, sp, ys, ws, h1, h2, h3, h4, h5, h6, h7, h8, h9, h10⟩ := mo
    refine ⟨_, (pss_one (ps_ret (pe_callB call_lenT (by rfl) B.len (by decide +kernel) (pa_cons (pe_slot D.Machine D.Machine_own_states (pv 0)) pa_nil)))), ?_⟩
    have q2 := q ys h7
    walk_at "rd"
    refine ⟨dx, _, h1, _, rfl, st, rfl, _, h6, ?_⟩
    rw [List.length_map]
    exact q2
/-! the texts of lines can be laid -/
theorem ok_app {a b : Str} (ha : PyData.strOk a = true) (hb : PyData.strOk b = true) : PyData.strOk (a ++ b) = true := by
  unfold PyData.strOk at *
  show (a.cps ++ b.cps).all _ = true
  rw [← Array.all_toList] at *
  rw [Array.toList_append, List.all_append, ha, hb]
  rfl
theorem ok_join {sep : Str} (hs : PyData.strOk sep = true) : ∀ {xs : List Str}, (∀ x ∈ xs, PyData.strOk x = true) → PyData.strOk (Txt.join sep xs) = true := fun {xs} h => by
  have step : ∀ (l : List Str) (acc : Array Nat), (acc.all (· < 0x110000)) = true → (∀ x ∈ l, PyData.strOk x = true) → ((l.foldl (fun acc p => acc ++ sep.cps ++ p.cps) acc).all (· < 0x110000)) = true := by
    intro l
    induction l with
    | nil => intro acc ha _; exact ha
    | cons y l ih =>
      intro acc ha hl
      refine ih _ ?_ fun x hx => hl x (List.mem_cons_of_mem _ hx)
      exact ok_app (a := ⟨acc ++ sep.cps⟩) (b := y) (ok_app (a := ⟨acc⟩) (b := sep) ha hs) (hl y List.mem_cons_self)
  refine step _ _ ?_ fun x hx => h x (List.mem_of_mem_drop hx)
  cases xs with
  | nil => decide +kernel
  | cons x r => exact h x List.mem_cons_self
theorem price_okS {i : Int} (h : priceB (.int i) = true) : PyData.strOk (Str.ofString (toString i)) = true := by
  obtain ⟨h0, h9⟩ := price_in h
  rcases (show i = 0 ∨ i = 1 ∨ i = 2 ∨ i = 3 ∨ i = 4 ∨ i = 5 ∨ i = 6 ∨ i = 7 ∨ i = 8 ∨ i = 9 by omega) with rfl | rfl | rfl | rfl | rfl | rfl | rfl | rfl | rfl | rfl <;> decide +kernel
theorem ok_lines {fs ls : List Str} {m : List (Arc × Int)} (g : Gm fs ls m) : ∀ x ∈ linesM fs ls m, PyData.strOk x = true := fun x hx => by
  have sp : PyData.strOk (Str.ofString " ") = true := by decide +kernel
  unfold linesM at hx
  rcases List.mem_cons.mp hx with rfl | hx
  · refine ok_join sp fun y hy => ?_
    rcases List.mem_cons.mp hy with rfl | hy
    · decide +kernel
    · exact name_ok (names_all g.fn y hy)
  · rcases List.mem_cons.mp hx with rfl | hx
    · refine ok_join sp fun y hy => ?_
      rcases List.mem_cons.mp hy with rfl | hy
      · decide +kernel
      · exact name_ok (names_all g.ln y hy)
    · obtain ⟨a, ha, rfl⟩ := List.mem_map.mp hx
      obtain ⟨pl, pr⟩ := g.an a ha
      obtain ⟨p1, p2, p3⟩ := place_of pl
      exact ok_app (ok_app (ok_app (ok_app (ok_app (ok_app (ok_app (ok_app (by decide +kernel) (by decide +kernel)) sp) (name_ok p1)) sp) (letter_ok p2)) sp) (price_okS pr)) sp |> fun h => ok_app h (name_ok p3)
def spMEq (C : Addr) : Sp := fun vs H Q _ => ∃ (x y : Addr) (fs ls : List Str) (m : List (Arc × Int)), vs = [.ref x, .ref y] ∧ MacO C H x fs ls m ∧ MacO C H y fs ls m ∧ Q (.bl true) H
theorem ok_Machine___eq__ (D : Ds K mg Z) (B : Bt mg) (C0 : Cs mg) : FnOk P w K mg base CX0 1 Z.a_Machine___eq__ Z.d_Machine___eq__ P_Machine___eq__ (spMEq Z.c_Machine) := by
  obtain ⟨⟨t_LIMIT, c_LIMIT⟩, ⟨t_ALPHABET, c_ALPHABET⟩, ⟨t_MAX_LETTERS, c_MAX_LETTERS⟩, ⟨t_MAX_STATES, c_MAX_STATES⟩, ⟨t_MAX_PRICE, c_MAX_PRICE⟩, ⟨t_FIRST, c_FIRST⟩, ⟨t_LAST, c_LAST⟩, ⟨t_ARC, c_ARC⟩⟩ := C0
  refine D.Machine___eq__.F.ok sc_Machine___eq__ (fun vs H Q E h => ?_) (fun cdv A outer s H vs Q E hr h => ?_)
  · obtain ⟨x, y, fs, ls, m, rfl, _⟩ := h
    rfl
  · obtain ⟨x, y, fs, ls, m, rfl, mo, mp, q⟩ := h
    obtain ⟨dx, da, f, l, ln, st, sp, ys, ws, h1, h2, h3, h4, h5, h6, h7, h8, h9, h10⟩ := mo
    obtain ⟨dx', da', f', l', ln', st', sp', ys', ws', h1', h2', h3', h4', h5', h6', h7', h8', h9', h10'⟩ := mp
    refine ⟨_, (pss_one (ps_ret (pe_and (pe_callB (call_isE (K := K) rfl D.Machine D.Machine_kn) (by rfl) B.isinstance (by decide +kernel) (pa_cons (pv 1) (pa_cons (pe_glob (v := .ref Z.c_Machine) (by rfl) D.Machine.g rfl) pa_nil))) (pe_one (pe_cmpR (op_eqK (K := K) rfl hr.units) (pe_slot D.Machine D.Machine_own_lines (pv 0)) (pe_slot D.Machine D.Machine_own_lines (pv 1)) (nomark _)))))), ?_⟩
    walk_at "rd"
    refine .inl ⟨dx', _, h1', dx, _, h1, _, rfl, dx', _, h1', _, rfl, ?_⟩
    exact eq_same (.tup (SqT.of h5) (dps _)) (.tup (SqT.of h5') (dps _)) (shaped_strs (ok_lines h10)) q
theorem inV_strs (x : Str) (xs : List Str) : inV (.str x) (xs.map V.str) = decide (x ∈ xs) := by
  unfold inV
  rw [List.any_map]
  have e : ((fun y => eqV y (.str x)) ∘ V.str) = fun y : Str => decide (y = x) := funext fun y => rfl
  rw [e]
  by_cases h : x ∈ xs
  · rw [decide_eq_true h, List.any_eq_true]
    exact ⟨x, h, decide_eq_true rfl⟩
  · rw [decide_eq_false h, List.any_eq_false]
    intro y hy e
    rw [of_decide_eq_true e] at hy
    exact h hy
theorem flat_strs (xs : List Str) : (xs.map V.str).all flatV = true := by
  rw [List.all_map, List.all_eq_true]
  intro x _
  rfl
/-- the steps -/
def spMSt (C : Addr) : Sp := fun vs H Q _ => ∃ (x : Addr) (s l : Str) (fs ls ys : List Str) (m : List (Arc × Int)), vs = [.ref x, .str s, .str l] ∧ MacO C H x fs ls m ∧ Sorted ys (fs ++ ls ++ innA m) ∧ s ∈ ys ∧ isName (.str s) = true ∧ isLetter (.str l) = true ∧
  ∀ t rs H', Same H H' → H' t = some (.tup (rs.map V.ref)) → Paired (fun (x : Str × Int) r => H' r = some (.tup [.str x.1, .int x.2])) (stepsL m s l) rs → Q (.ref t) H'
theorem ok_Machine_steps (D : Ds K mg Z) (B : Bt mg) (C0 : Cs mg) : FnOk P w K mg base CX0 3 Z.a_Machine_steps Z.d_Machine_steps P_Machine_steps (spMSt Z.c_Machine) := by
  have G_is_name := ok_is_name (P := P) (w := w) (base := base) D B C0
  have G_is_letter := ok_is_letter (P := P) (w := w) (base := base) D B C0
  obtain ⟨⟨t_LIMIT, c_LIMIT⟩, ⟨t_ALPHABET, c_ALPHABET⟩, ⟨t_MAX_LETTERS, c_MAX_LETTERS⟩, ⟨t_MAX_STATES, c_MAX_STATES⟩, ⟨t_MAX_PRICE, c_MAX_PRICE⟩, ⟨t_FIRST, c_FIRST⟩, ⟨t_LAST, c_LAST⟩, ⟨t_ARC, c_ARC⟩⟩ := C0
  refine D.Machine_steps.F.ok sc_Machine_steps (fun vs H Q E h => ?_) (fun cdv A outer s H vs Q E hr h => ?_)
  · obtain ⟨x, s, l, fs, ls, ys, m, rfl, _⟩ := h
    rfl
  · obtain ⟨x, s, l, fs, ls, ys, m, rfl, mo, so, hs, ns, nl, q⟩ := h
    refine ⟨_, (pss_cons (ps_if (PW.pt (pw_or (pt_not (pt_val (pe_df D.is_name G_is_name (hr.mono (by decide)) (by rfl) (pa_cons (pv 1) pa_nil)))) (pw_or1 (pt_cmpR op_ninT (pv 1) (pe_slot D.Machine D.Machine_own_states (pv 0)) (by rfl))))) (pss_one ps_dead) pss_nil)
    (pss_cons (ps_if (pt_not (pt_val (pe_df D.is_letter G_is_letter (hr.mono (by decide)) (by rfl) (pa_cons (pv 2) pa_nil)))) (pss_one ps_dead) pss_nil)
    (pss_one (ps_ret (pe_dget2 (hu_of hr) (pe_slot D.Machine D.Machine_own_steps (pv 0)) (pe_tup (pa_cons (pv 1) (pa_cons (pv 2) pa_nil))) (pe_tup pa_nil) ⟨rfl, rfl, rfl, rfl⟩))))), ?_⟩
    walk_at "rd"
    refine ⟨.str s, rfl, okv_s (Nat.le_trans (name_len ns) (by decide)), fun H1 e1 => ?_⟩
    rw [ns]
    replace mo := mo.same e1
    obtain ⟨dx, da, f, lk, ln, st, sp, ys', ws, h1, h2, h3, h4, h5, h6, h7, h8, h9, h10⟩ := mo
    walk_at "rd"
    have es : ys' = ys := Sorted.uniq h7 so (fun _ => Iff.rfl)
    subst es
    refine ⟨dx, _, h1, _, rfl, st, rfl, _, h6, rfl, flat_strs _, ?_⟩
    rw [inV_strs, decide_eq_true hs]
    walk_at "rd"
    walk_at "gg"
    refine ⟨.str l, rfl, okv_s (by rw [letter_len nl]; decide), fun H2 e2 => ?_⟩
    rw [nl]
    replace h1 := Same.slt e2 h1
    replace h8 := e2 _ _ h8
    replace h9 := h9.mono (Tk.of e2)
    walk_at "rd"
    walk_at "gg"
    refine ⟨dx, _, h1, _, rfl, sp, rfl, .inr ⟨_, .inl h8⟩, by decide, fun t1 k1 => ⟨Nat.zero_le _, fun t2 k2 => ?_⟩⟩
    have s5 := (Same.new (o := HO.tup [V.str s, V.str l]) k1).trans (Same.new (o := HO.tup []) k2)
    have ht1 : upd (upd H2 t1 (HO.tup [V.str s, V.str l])) t2 (HO.tup []) t1 = some (.tup ([Sum.inr s, Sum.inr l].map kV)) := Same.new k2 _ _ upd_same
    have ht2 : upd (upd H2 t1 (HO.tup [V.str s, V.str l])) t2 (HO.tup []) t2 = some (.tup []) := upd_same
    replace h8 := s5 _ _ h8
    replace h9 := h9.mono (Tk.of s5)
    refine ⟨_, .inr ⟨ws, [Sum.inr s, Sum.inr l], t1, .inl h8, rfl, ht1, rfl⟩, ?_⟩
    have eA := (e1.trans e2).trans s5
    have h := h9 s l
    cases hv : valV ws [Sum.inr s, Sum.inr l] with
    | none =>
      rw [hv] at h
      exact q t2 [] _ eA ht2 (by rw [show stepsL m s l = [] from h]; exact .nil)
    | some v =>
      rw [hv] at h
      obtain ⟨t, rs, rfl, h2, h3⟩ := h
      exact q t rs _ eA h2 h3
/-- the letters -/
def letAt (m : List (Arc × Int)) (i : Nat) : Str := match m[i]? with
  | some a => a.1.2.1
  | none => Str.empty
theorem let_range (m : List (Arc × Int)) : (List.range m.length).map (letAt m) = m.map fun a => a.1.2.1 := by
  refine List.ext_getElem? fun i => ?_
  rw [List.getElem?_map, List.getElem?_map]
  by_cases hi : i < m.length
  · have e := List.getElem?_eq_getElem hi
    unfold letAt
    rw [List.getElem?_range hi, Option.map_some, e]
    rfl
  · rw [List.getElem?_eq_none (by rw [List.length_range]; omega), List.getElem?_eq_none (by omega)]
    rfl
theorem enc_at {m : List (Arc × Int)} {i : Nat} (hm : i < m.length) : (encA m)[i]? = some (key3 m[i].1, .int m[i].2) := by
  unfold encA
  rw [List.getElem?_map, List.getElem?_eq_getElem hm]
  rfl
theorem enc_len (m : List (Arc × Int)) : (encA m).length = m.length := List.length_map ..
theorem slt_upd {H : Hp} {x C dx b : Addr} {o : HO} {v : Option V} {vs : List (Option V)} (h : SlX.Slt H x C dx (v :: vs)) (h1 : b ≠ x) (h2 : b ≠ dx) : SlX.Slt (upd H b o) x C dx (v :: vs) := by
  obtain ⟨a1, a2⟩ := slt_at h
  exact .inr ⟨by rw [upd_ne h1.symm]; exact a1, by rw [upd_ne h2.symm]; exact a2⟩
def spMLt (C : Addr) : Sp := fun vs H Q _ => ∃ (x : Addr) (fs ls : List Str) (m : List (Arc × Int)), vs = [.ref x] ∧ MacO C H x fs ls m ∧ ∀ p zs H', Same H H' → Sorted zs (m.map fun a => a.1.2.1) → H' p = some (.tup (zs.map V.str)) → Q (.ref p) H'
theorem ok_Machine_letters (D : Ds K mg Z) (B : Bt mg) (C0 : Cs mg) : FnOk P w K mg base CX0 1 Z.a_Machine_letters Z.d_Machine_letters P_Machine_letters (spMLt Z.c_Machine) := by
  obtain ⟨⟨t_LIMIT, c_LIMIT⟩, ⟨t_ALPHABET, c_ALPHABET⟩, ⟨t_MAX_LETTERS, c_MAX_LETTERS⟩, ⟨t_MAX_STATES, c_MAX_STATES⟩, ⟨t_MAX_PRICE, c_MAX_PRICE⟩, ⟨t_FIRST, c_FIRST⟩, ⟨t_LAST, c_LAST⟩, ⟨t_ARC, c_ARC⟩⟩ := C0
  refine D.Machine_letters.F.ok sc_Machine_letters (fun vs H Q E h => ?_) (fun cdv A outer s H vs Q E hr h => ?_)
  · obtain ⟨x, fs, ls, m, rfl, _⟩ := h
    rfl
  · obtain ⟨x, fs, ls, m, rfl, mo, q⟩ := h
    obtain ⟨dx, da, f, lk, ln, st, sp, ys', ws, h1, h2, h3, h4, h5, h6, h7, h8, h9, h10⟩ := mo
    refine ⟨_, (pss_one (ps_ret (pe_callTy call_tupM (by rfl) B.tuple (by decide +kernel) (pa_cons (pe_callB (cr_sortT rfl) (by rfl) B.sorted (by decide +kernel) (pa_cons (pe_lock (pe_scT (own := [("state", 1), ("letter", 2), ("later", 3)]) rfl sc_Machine_letters.nd (pi_keys (pe_slot D.Machine D.Machine_own_arcs (pv 0))) (blkOk_by (N := N_Machine_letters) (sc := defScope s_Machine_letters) (by decide +kernel)) (fun _ _ _ _ _ => (pg_tupK (K := K) (n := 3) rfl rfl (pgs_cons (pg_name (i := 1) sc_Machine_letters.nd rfl (Or.inl rfl)) (pgs_cons (pg_name (i := 2) sc_Machine_letters.nd rfl (Or.inl rfl)) (pgs_cons (pg_name (i := 3) sc_Machine_letters.nd rfl (Or.inl rfl)) pgs_nil))))) (fun _ _ _ _ _ => pts_nil) (fun _ _ _ _ _ => (pv 2)))) pa_nil)) pa_nil)))), ?_⟩
    walk_at "rd"
    refine ⟨da, _, h2, trivial, fun od => ?_⟩
    obtain ⟨nax, nad⟩ := slt_off h1 h2 (fun _ z => by cases z) (fun _ z => by cases z)
    have hA : upd H da (HO.frz od (HO.dT (encA m))) da = some (.frz od (.dT (encA m))) := upd_same
    refine ⟨dx, _, slt_upd h1 nax nad, _, rfl, da, rfl, od, .inr ⟨_, hA, ?_⟩⟩
    have sm := h10.small
    refine sc_texts (walk_keysT (d := da) (o := od) (kvs := encA m)) (letAt m) (by rw [enc_len]; exact Nat.lt_of_le_of_lt (show m.length + 1 ≤ 2001 by omega) (by decide)) (fun H1 e1 => e1 _ _ hA) ?_ ?_
    · intro i y H1 H2 hi e1 yy R hR
      obtain ⟨rfl, k, v, p, hkv, rfl, hp⟩ := yy
      rw [enc_len] at hi
      rw [enc_at hi] at hkv
      cases hkv
      have el : letAt m i = m[i].1.2.1 := by
        unfold letAt
        rw [List.getElem?_eq_getElem hi]
      rw [el] at hR
      generalize m[i] = a at *
      have hR2 := hR _ (Same.refl _)
      walk_at "rd"
      exact ⟨_, SqT.of hp, rfl, _, _, rfl, _, _, rfl, _, _, rfl, rfl, hR2⟩
    · intro p H1 hp e1 hp1
      rw [enc_len, let_range] at hp1
      have npa : p ≠ da := fun e => by rw [e, upd_same] at hp; cases hp
      refine ⟨e1 _ _ hA, ?_⟩
      have sm9 := lock_same h2 e1
      have hp2 : upd H1 da (HO.dT (encA m)) p = some (TxS w p (m.map fun a => a.1.2.1)) := by rw [upd_ne npa]; exact hp1
      generalize upd H1 da (HO.dT (encA m)) = H2 at sm9 hp2 ⊢
      refine ⟨p, _, rfl, hp2, fun zs p2 so h2 => ?_⟩
      have s3 := Same.new (o := HO.lst (zs.map V.str)) h2
      refine ⟨p2, rfl, _, upd_same, fun p3 h3 => ?_⟩
      exact q p3 zs _ ((sm9.trans s3).trans (Same.new h3)) so upd_same
/-! ### renaming -/
def spRen : Sp := fun vs H Q _ => ∃ (t d : Addr) (ys : List Str) (im : List (Str × Str)), vs = [.ref t, .ref d] ∧ H t = some (.tup (ys.map V.str)) ∧ H d = some (.dK (encN im)) ∧ Rn ys im ∧ ∀ H', Same H H' → Q (.bl true) H'
theorem ok_is_renaming (D : Ds K mg Z) (B : Bt mg) (C0 : Cs mg) : FnOk P w K mg base CX0 3 Z.a_is_renaming Z.d_is_renaming P_is_renaming spRen := by
  have G_is_name := ok_is_name (P := P) (w := w) (base := base) D B C0
  obtain ⟨⟨t_LIMIT, c_LIMIT⟩, ⟨t_ALPHABET, c_ALPHABET⟩, ⟨t_MAX_LETTERS, c_MAX_LETTERS⟩, ⟨t_MAX_STATES, c_MAX_STATES⟩, ⟨t_MAX_PRICE, c_MAX_PRICE⟩, ⟨t_FIRST, c_FIRST⟩, ⟨t_LAST, c_LAST⟩, ⟨t_ARC, c_ARC⟩⟩ := C0
  refine D.is_renaming.F.ok sc_is_renaming (fun vs H Q E h => ?_) (fun cdv A outer s H vs Q E hr h => ?_)
  · obtain ⟨t, d, ys, im, rfl, _⟩ := h
    rfl
  · obtain ⟨t, d, ys, im, rfl, ht, hd, rn, q⟩ := h
    refine ⟨_, (pss_cons (ps_if (PW.pt (pw_or (pt_not (pt_val (pe_callB (call_isiK' (K := K) rfl) (by rfl) B.isinstance (by decide +kernel) (pa_cons (pv 1) (pa_cons (pe_bltn (v := .ty "dict") (by rfl) B.dict (by decide +kernel) rfl) pa_nil))))) (pw_or (pt_cmpR op_ne (pe_callB call_lenD (by rfl) B.len (by decide +kernel) (pa_cons (pv 1) pa_nil)) (pe_callB call_lenT (by rfl) B.len (by decide +kernel) (pa_cons (pv 0) pa_nil)) (nomark _)) (pw_or1 (pt_not (pt_val (pe_callB (cr_allM rfl) (by rfl) B.all (by decide +kernel) (pa_cons (pe_lc (own := [("name", 2)]) (g := gName 2) rfl sc_is_renaming.nd (pi_tupK (K := K) rfl (pv 0)) (blkOk_by (N := N_is_renaming) (sc := defScope s_is_renaming) (by decide +kernel)) (fun _ _ _ _ _ => (pg_name (i := 2) sc_is_renaming.nd rfl (Or.inl rfl))) (fun _ _ _ _ _ => pts_nil) (fun _ _ _ _ _ => (pe_cmpR (op_inD (hu_of hr)) (pv 2) (pv 1) (by rfl)))) pa_nil)))))))) (pss_one (ps_ret pe_bl)) pss_nil)
    (pss_one (ps_ret (pe_and (pe_callB (cr_allM rfl) (by rfl) B.all (by decide +kernel) (pa_cons (pe_lock (pe_lc (own := [("name", 2)]) (g := gName 2) rfl sc_is_renaming.nd (pi_values (pv 1)) (blkOk_by (N := N_is_renaming) (sc := defScope s_is_renaming) (by decide +kernel)) (fun _ _ _ _ _ => (pg_name (i := 2) sc_is_renaming.nd rfl (Or.inl rfl))) (fun _ _ _ _ _ => pts_nil) (fun _ _ _ _ _ => (pe_df D.is_name G_is_name (hr.mono (by decide)) (by rfl) (pa_cons (pv 2) pa_nil))))) pa_nil)) (pe_one (pe_cmpR op_eq (pe_callB (cr_lenTx rfl) (by rfl) B.len (by decide +kernel) (pa_cons (pe_callTy (cr_setT rfl) (by rfl) B.set (by decide +kernel) (pa_cons (pe_listVals rfl (pv 1) (by rfl) B.list (by decide +kernel)) pa_nil)) pa_nil)) (pe_callB call_lenT (by rfl) B.len (by decide +kernel) (pa_cons (pv 0) pa_nil)) (nomark _))))))), ?_⟩
    have li : (encN im).length = ys.length := by
      unfold encN
      rw [List.length_map, ← rn.keys.length_eq, List.length_map]
    have few := rn.few
    have ly : (ys.map V.str).length = ys.length := List.length_map ..
    walk_at "rd"
    refine ⟨.ref d, .ty "dict", .type "dict", .type "dict", true, rfl, .ty "dict", .base (.dK hd), kit_ty (by decide +kernel), ?_⟩
    walk_at "rd"
    refine ⟨_, rfl, ?_⟩
    rw [li, decide_eq_true rfl]
    walk_at "rd"
    refine ⟨⟨_, SqT.of ht⟩, ?_⟩
    refine lc_val (walk_tup (K := K) (a := t) (xs := ys.map V.str)) (fun _ => .bl true) (fun H1 e1 => SqT.of (e1 _ _ ht)) (by omega) ?_ ?_
    · rintro i v H1 H2 hi e1 ⟨rfl, hv⟩ R hR
      obtain ⟨x, hx, rfl⟩ := List.mem_map.mp (List.mem_of_getElem? hv)
      have hR2 := hR _ (Same.refl _)
      walk_at "rd"
      refine ⟨_, .inl ⟨_, Sum.inr x, .inl (e1 _ _ hd), rfl, rfl⟩, ?_⟩
      rw [val_encN (rn.key hx)]
      exact hR2
    · intro p H1 hp e1 hp1
      have er : (List.range (ys.map V.str).length).map (fun _ => V.bl true) = (List.replicate ys.length true).map V.bl := by
        rw [ly, List.map_const', List.map_replicate, List.length_range]
      have ea : (List.replicate ys.length true).all id = true := by rw [List.all_replicate]; simp
      rw [er] at hp1
      refine ⟨p, rfl, _, hp1, ?_⟩
      rw [ea]
      replace ht := e1 _ _ ht
      replace hd := e1 _ _ hd
      clear hp hp1
      walk_at "rd"
      walk_at "gg"
      refine ⟨d, _, hd, trivial, fun od => ?_⟩
      have hA : upd H1 d (HO.frz od (HO.dK (encN im))) d = some (.frz od (.dK (encN im))) := upd_same
      walk_at "rd"
      refine ⟨od, _, rfl, ?_⟩
      refine lc_val (walk_values (d := d) (o := od) (kvs := encN im)) (fun _ => .bl true) (fun H2 e2 => e2 _ _ hA) (by omega) ?_ ?_
      · rintro i v H2 H3 hi e2 ⟨rfl, k, hv⟩ R hR
        obtain ⟨x, hx, ex⟩ := List.mem_map.mp (List.mem_of_getElem? hv)
        cases ex
        have nx := rn.names x hx
        walk_at "rd"
        refine ⟨_, rfl, okv_s (Nat.le_trans (name_len nx) (by decide)), fun H4 e4 => ?_⟩
        rw [nx]
        exact hR H4 e4
      · intro p2 H2 hp2 e2 hp3
        have er2 : (List.range (encN im).length).map (fun _ => V.bl true) = (List.replicate ys.length true).map V.bl := by
          rw [li, List.map_const', List.map_replicate, List.length_range]
        rw [er2] at hp3
        have npa : p2 ≠ d := fun e => by rw [e, upd_same] at hp2; cases hp2
        refine ⟨e2 _ _ hA, ?_⟩
        have sm9 := lock_same hd e2
        have hp4 : upd H2 d (HO.dK (encN im)) p2 = some (.lst ((List.replicate ys.length true).map V.bl)) := by rw [upd_ne npa]; exact hp3
        replace ht := sm9 _ _ ht
        replace hd := sm9 _ _ hd
        have eB := e1.trans sm9
        generalize upd H2 d (HO.dK (encN im)) = H3 at hp4 ht hd eB ⊢
        refine ⟨p2, rfl, _, hp4, ?_⟩
        rw [ea]
        clear hp4 hp3 sm9 hA hp2 e2
        walk_at "rd"
        refine ⟨_, rfl, fun l hl => ?_⟩
        have ev : (encN im).map (fun x => x.2) = (im.map (·.2)).map V.str := by
          unfold encN
          rw [List.map_map, List.map_map]
          rfl
        rw [ev]
        have s4 := Same.new (o := HO.lst ((im.map (·.2)).map V.str)) hl
        have lv : (im.map (·.2)).length = ys.length := by rw [List.length_map, ← li]; unfold encN; rw [List.length_map]
        refine ⟨l, _, rfl, upd_same, by rw [lv]; exact Nat.lt_of_le_of_lt (show ys.length + 1 ≤ 25 by omega) (by decide), fun p5 hp5 => ⟨p5, _, rfl, upd_same, fun ks nd mem => ?_⟩⟩
        have s5 := Same.new (o := TxS w p5 (im.map (·.2))) hp5
        have lk : ks.length = ys.length := by
          rw [← lv]
          exact ((List.perm_ext_iff_of_nodup nd rn.vals).mpr mem).length_eq
        refine ⟨_, s5 _ _ (s4 _ _ ht), rfl, ?_⟩
        rw [lk, ly, decide_eq_true rfl]
        exact q _ ((eB.trans s4).trans s5)
end
section
variable {P : Program} {w : World} {K : PySem.W.Frag} {mg : Str → Option Value} {base : Heap} {Z : Ad}
theorem getN {H : Hp} {d : Addr} {im : List (Str × Str)} {x : Str} (hd : H d = some (.dK (encN im))) (hx : x ∈ im.map (·.1)) : DGet H d (kV (.inr x)) (some (.str (apN im x))) := by
  rw [← val_encN hx]
  exact DGet.k hd
theorem mk_mac {C f l d : Addr} {H : Hp} {fs ls : List Str} {m : List (Arc × Int)} {Q : VK} (hf : H f = some (.tup (fs.map V.str))) (hl : H l = some (.tup (ls.map V.str))) (hd : H d = some (.dT (encA m))) (gm : Gm fs ls m)
    (q : ∀ x H', Same H H' → H x = none → MacO C H' x fs ls (sortA m) → Q (.ref x) H') : ∀ x dx, H x = none → H dx = none → dx ≠ x → spMacI C [.ref x, .ref f, .ref l, .ref d] (upd (upd H dx (HO.own x)) x (HO.ins C dx [])) (fun v H2 => v = V.non ∧ Q (.ref x) H2) E0 := by
  intro x dx hx hdx ne
  have go : ∀ b o, H b = some o → upd (upd H dx (HO.own x)) x (HO.ins C dx []) b = some o := fun b o hb => by
    rw [upd_ne (ne_of_none hb hx), upd_ne (ne_of_none hb hdx)]
    exact hb
  exact ⟨x, dx, f, l, d, fs, ls, m, rfl, upd_same, by rw [upd_ne ne, upd_same], ne, go _ _ hf, go _ _ hl, go _ _ hd, gm, fun H' kp mo => ⟨rfl, q x H' (fun b o hb => kp b o (ne_of_none hb hx) (ne_of_none hb hdx) (go _ _ hb)) hx mo⟩⟩
/-- [names[s] for s in xs] -/
theorem ren_lc {J : It} {G : Hp → Prop} {H : Hp} {d : Addr} {xs : List Str} {im : List (Str × Str)} {σ : St} {i j : Nat} {R : VK} (W : Walk J (xs.map V.str).length G (YAt (xs.map V.str))) (hG : ∀ H1, Same H H1 → G H1) (hd : H d = some (.dK (encN im))) (hk : ∀ x ∈ xs, x ∈ im.map (·.1))
    (hz : xs.length ≤ 1000000) (hw : ∀ x, wipe ((wipe σ [j]).set j (some x)) [j] = wipe σ [j]) (hi : ∀ x, ((wipe σ [j]).set j (some x))[i]? = some (some (.ref d))) (hj : ∀ x, ((wipe σ [j]).set j (some x))[j]? = some (some x))
    (q : ∀ p H', H p = none → Same H H' → H' p = some (.lst ((xs.map (apN im)).map V.str)) → R (.ref p) H') : LcLoop J (gName j) tYes (tDGet (tVar i) (tVar j)) [j] σ H R := by
  let f : V → V := fun v => match v with
    | .str x => .str (apN im x)
    | v => v
  refine lc_mapW W hG (by rw [List.length_map]; exact hz) f hw (fun v hv H1 e1 R hR => ?_) fun p H2 hp e2 hl => q p H2 hp e2 ?_
  · obtain ⟨x, hx, rfl⟩ := List.mem_map.mp hv
    exact ⟨_, hi _, _, hj _, d, _, rfl, getN (e1 _ _ hd) (hk x hx), hR _ (Same.refl _)⟩
  · rw [hl, List.map_map, List.map_map]
    rfl
theorem rnA_take (r : Str → Str) {m : List (Arc × Int)} {i : Nat} (hi : i < m.length) : rnA r (m.take (i + 1)) = rnA r (m.take i) ++ [((r m[i].1.1, m[i].1.2.1, r m[i].1.2.2), m[i].2)] := by
  rw [List.take_add_one, List.getElem?_eq_getElem hi]
  unfold rnA
  rw [List.map_append]
  rfl
theorem put_rn {r : Str → Str} {m : List (Arc × Int)} {i : Nat} (hi : i < m.length) (nd : ((rnA r m).map (·.1)).Nodup) : putK (encA (rnA r (m.take i))) (key3 (r m[i].1.1, m[i].1.2.1, r m[i].1.2.2)) (.int m[i].2) = encA (rnA r (m.take (i + 1))) := by
  rw [put_enc, putA_new, ← rnA_take r hi]
  intro hmem
  have e : rnA r m = rnA r (m.take i) ++ [((r m[i].1.1, m[i].1.2.1, r m[i].1.2.2), m[i].2)] ++ rnA r (m.drop (i + 1)) := by
    rw [← rnA_take r hi]
    unfold rnA
    rw [← List.map_append, List.take_append_drop]
  rw [e, List.map_append, List.map_append, List.append_assoc, List.nodup_append] at nd
  exact nd.2.2 _ hmem _ (List.mem_append_left _ List.mem_cons_self) rfl
def spRnm (C : Addr) : Sp := fun vs H Q _ => ∃ (x d : Addr) (fs ls ys : List Str) (m : List (Arc × Int)) (im : List (Str × Str)), vs = [.ref x, .ref d] ∧ MacO C H x fs ls (sortA m) ∧ Gm fs ls m ∧ Sorted ys (fs ++ ls ++ innA m) ∧ H d = some (.dK (encN im)) ∧ Rn ys im ∧
  ∀ x' H', Same H H' → H x' = none → MacO C H' x' (sortS (fs.map (apN im))) (sortS (ls.map (apN im))) (sortA (rnA (apN im) m)) → Q (.ref x') H'
theorem ok_Machine_renamed (D : Ds K mg Z) (B : Bt mg) (C0 : Cs mg) : FnOk P w K mg base CX0 9 Z.a_Machine_renamed Z.d_Machine_renamed P_Machine_renamed (spRnm Z.c_Machine) := by
  have G_is_renaming := ok_is_renaming (P := P) (w := w) (base := base) D B C0
  have G_Machine___init__ := ok_Machine___init__ (P := P) (w := w) (base := base) D B C0
  obtain ⟨⟨t_LIMIT, c_LIMIT⟩, ⟨t_ALPHABET, c_ALPHABET⟩, ⟨t_MAX_LETTERS, c_MAX_LETTERS⟩, ⟨t_MAX_STATES, c_MAX_STATES⟩, ⟨t_MAX_PRICE, c_MAX_PRICE⟩, ⟨t_FIRST, c_FIRST⟩, ⟨t_LAST, c_LAST⟩, ⟨t_ARC, c_ARC⟩⟩ := C0
  refine D.Machine_renamed.F.ok sc_Machine_renamed (fun vs H Q E h => ?_) (fun cdv A outer s H vs Q E hr h => ?_)
  · obtain ⟨x, d, fs, ls, ys, m, im, rfl, _⟩ := h
    rfl
  · obtain ⟨x, d, fs, ls, ys, m, im, rfl, mo, gm, so, hd, rn, q⟩ := h
    refine ⟨_, (pss_cons (ps_if (pt_not (pt_val (pe_df D.is_renaming G_is_renaming (hr.mono (by decide)) (by rfl) (pa_cons (pe_slot D.Machine D.Machine_own_states (pv 0)) (pa_cons (pv 1) pa_nil))))) (pss_one ps_dead) pss_nil)
    (pss_cons (ps_set (i := 2) sc_Machine_renamed.nd rfl (Or.inl rfl) pe_dnewT)
    (pss_cons (ps_lock (ps_for PassesOwn.never rfl (pi_itT (pe_slot D.Machine D.Machine_own_arcs (pv 0))) (pg_tupK (K := K) (n := 2) rfl rfl (pgs_cons (pg_tupK (K := K) (n := 3) rfl rfl (pgs_cons (pg_name (i := 3) sc_Machine_renamed.nd rfl (Or.inl rfl)) (pgs_cons (pg_name (i := 4) sc_Machine_renamed.nd rfl (Or.inl rfl)) (pgs_cons (pg_name (i := 5) sc_Machine_renamed.nd rfl (Or.inl rfl)) pgs_nil)))) (pgs_cons (pg_name (i := 6) sc_Machine_renamed.nd rfl (Or.inl rfl)) pgs_nil)))
      (pss_one (ps_dput (hu_of hr) (pv 2) (pe_tup (pa_cons (pe_dget (hu_of hr) (pv 1) (pv 3) (fun _ _ => rfl)) (pa_cons (pv 4) (pa_cons (pe_dget (hu_of hr) (pv 1) (pv 5) (fun _ _ => rfl)) pa_nil)))) (pv 6) rfl))))
    (pss_cons (ps_set (i := 7) sc_Machine_renamed.nd rfl (Or.inl rfl) (pe_callTy call_tupM (by rfl) B.tuple (by decide +kernel) (pa_cons (pe_callB (cr_sortL (K := K) rfl hr.units) (by rfl) B.sorted (by decide +kernel) (pa_cons (pe_lc (own := [("state", 3)]) (g := gName 3) rfl sc_Machine_renamed.nd (pi_tupK (K := K) rfl (pe_slot D.Machine D.Machine_own_firsts (pv 0))) (blkOk_by (N := N_Machine_renamed) (sc := defScope s_Machine_renamed) (by decide +kernel)) (fun _ _ _ _ _ => (pg_name (i := 3) sc_Machine_renamed.nd rfl (Or.inl rfl))) (fun _ _ _ _ _ => pts_nil) (fun _ _ _ _ _ => (pe_dget (hu_of hr) (pv 1) (pv 3) (fun _ _ => rfl)))) pa_nil)) pa_nil)))
    (pss_one (ps_ret (pe_mkS D.Machine D.Machine___init__ G_Machine___init__ (hr.mono (by decide)) (by rfl) (pa_cons (pv 7) (pa_cons (pe_callTy call_tupM (by rfl) B.tuple (by decide +kernel) (pa_cons (pe_callB (cr_sortL (K := K) rfl hr.units) (by rfl) B.sorted (by decide +kernel) (pa_cons (pe_lc (own := [("state", 3)]) (g := gName 3) rfl sc_Machine_renamed.nd (pi_tupK (K := K) rfl (pe_slot D.Machine D.Machine_own_lasts (pv 0))) (blkOk_by (N := N_Machine_renamed) (sc := defScope s_Machine_renamed) (by decide +kernel)) (fun _ _ _ _ _ => (pg_name (i := 3) sc_Machine_renamed.nd rfl (Or.inl rfl))) (fun _ _ _ _ _ => pts_nil) (fun _ _ _ _ _ => (pe_dget (hu_of hr) (pv 1) (pv 3) (fun _ _ => rfl)))) pa_nil)) pa_nil)) (pa_cons (pv 2) pa_nil)))))))))), ?_⟩
    have mo0 := id mo
    obtain ⟨dx, da, f, lk, ln, st, sp, ys', ws, h1, h2, h3, h4, h5, h6, h7, h8, h9, h10⟩ := mo0
    have es : ys' = ys := Sorted.uniq h7 so (fun k => by
      rw [List.mem_append (t := innA (sortA m)), List.mem_append (t := innA m), inn_mem, inn_mem]
      exact or_congr Iff.rfl ⟨fun ⟨a, ha, e⟩ => ⟨a, (sort_perm m).mem_iff.mp ha, e⟩, fun ⟨a, ha, e⟩ => ⟨a, (sort_perm m).mem_iff.mpr ha, e⟩⟩)
    subst es
    walk_at "rd"
    refine ⟨dx, _, h1, _, rfl, st, d, ys', im, rfl, h6, hd, rn, fun H1 e1 => ?_⟩
    walk_at "rd"
    walk_at "gg"
    replace mo := mo.same e1
    replace hd := e1 _ _ hd
    clear h1 h2 h3 h4 h5 h6 h8 h9
    obtain ⟨dx, da, f, lk, ln, st, sp, ys2, ws, h1, h2, h3, h4, h5, h6, _, h8, h9, _⟩ := mo
    have inS := (so_inSt so)
    have inj := rn.inj
    have gr := gm.rn inS rn.few inj fun x hx => rn.name hx
    intro p hp
    have hp0 : H p = none := none_of e1 hp
    have s1 := Same.new (o := HO.dT []) hp
    have hp1 : upd H1 p (HO.dT []) p = some (.dT (encA (rnA (apN im) ((sortA m).take 0)))) := upd_same
    replace h1 := Same.slt s1 h1
    have nap : da ≠ p := fun e => by rw [e, hp] at h2; cases h2
    replace h2 := s1 _ _ h2
    replace h3 := s1 _ _ h3
    replace h4 := s1 _ _ h4
    replace hd := s1 _ _ hd
    replace e1 := e1.trans s1
    generalize upd H1 p (HO.dT []) = H2 at s1 hp1 h1 h2 h3 h4 hd e1 ⊢
    have ndd : d ≠ da := fun e => by rw [e, h2] at hd; cases hd
    have ndp : d ≠ p := fun e => by rw [e, hp1] at hd; cases hd
    clear s1 hp
    walk_at "go"
    refine ⟨da, _, h2, trivial, fun od => ?_⟩
    obtain ⟨nax, nad⟩ := slt_off h1 h2 (fun _ z => by cases z) (fun _ z => by cases z)
    have slA := slt_upd (o := HO.frz od (HO.dT (encA (sortA m)))) h1 nax nad
    have hA : upd H2 da (HO.frz od (HO.dT (encA (sortA m)))) da = some (.frz od (.dT (encA (sortA m)))) := upd_same
    walk_at "rd"
    refine ⟨dx, _, slA, _, rfl, da, rfl, od, _, hA, ?_⟩
    have k3 : ∀ b o, b ≠ da → b ≠ p → H2 b = some o → upd H2 da (HO.frz od (HO.dT (encA (sortA m)))) b = some o := fun b o h1 _ h => by rw [upd_ne h1]; exact h
    have hp3 : upd H2 da (HO.frz od (HO.dT (encA (sortA m)))) p = some (.dT (encA (rnA (apN im) ((sortA m).take 0)))) := by rw [upd_ne nap.symm]; exact hp1
    generalize upd H2 da (HO.frz od (HO.dT (encA (sortA m)))) = H3 at hA k3 hp3 ⊢
    clear slA
    have ms : (sortA m).length = m.length := sort_len m
    have sm := gm.small
    have ndr : ((rnA (apN im) (sortA m)).map (·.1)).Nodup := ((rnA_perm (sort_perm m)).map _).nodup_iff.mpr gr.nd
    obtain ⟨Pv, hP⟩ := inv_bi (fun (i : Nat) (σ : St) (H' : Hp) => ∃ (o3 o4 o5 o6 : Option V), σ = [some (.ref x), some (.ref d), some (.ref p), o3, o4, o5, o6, none] ∧ H' da = some (.frz od (.dT (encA (sortA m)))) ∧ (∀ b o, b ≠ da → b ≠ p → H2 b = some o → H' b = some o) ∧ H' p = some (.dT (encA (rnA (apN im) ((sortA m).take i)))))
    refine loop_it (walk_itI (d := da) (o := od) (ws := encA (sortA m))) Pv ((hP _ _ _).mpr ⟨_, _, _, _, rfl, hA, k3, hp3⟩) (fun i σ H' _ h => by obtain ⟨_, _, _, _, _, h, _⟩ := (hP _ _ _).mp h; exact h) (fun i y σ H4 H5 hi hpv yy => ?_) (fun σ H4 hpv => ?_)
    · obtain ⟨o3, o4, o5, o6, rfl, hd4, k4, hp4⟩ := (hP _ _ _).mp hpv
      obtain ⟨T, r, k, v, hkv, rfl, hT, hr3, rfl⟩ := yy
      rw [enc_len] at hi
      rw [enc_at hi] at hkv
      cases hkv
      have pu := put_rn hi ndr
      have fin := fun o3 o4 o5 o6 H' (h1 : H' da = some (.frz od (.dT (encA (sortA m))))) (h2 : ∀ b o, b ≠ da → b ≠ p → H2 b = some o → H' b = some o) (h3 : H' p = some (.dT (encA (rnA (apN im) ((sortA m).take (i + 1)))))) => (hP (i + 1) [some (.ref x), some (.ref d), some (.ref p), o3, o4, o5, o6, none] H').mpr ⟨o3, o4, o5, o6, rfl, h1, h2, h3⟩
      have hmem : (sortA m)[i] ∈ m := (sort_perm m).mem_iff.mp (List.getElem_mem hi)
      have m1 := inS.m _ (inn_mem.mpr ⟨_, hmem, .inl rfl⟩)
      have m2 := inS.m _ (inn_mem.mpr ⟨_, hmem, .inr rfl⟩)
      have lp : (encA (rnA (apN im) ((sortA m).take i))).length < sizeLine := by
        rw [enc_len, rnA_len, List.length_take]
        exact Nat.lt_of_le_of_lt (show min i (sortA m).length ≤ 4000 by omega) (by decide)
      clear hP hpv hp3 hA k3
      generalize (sortA m)[i] = a at *
      have s4 := Same.new (o := HO.tup [.ref r, .int a.2]) hT
      have hT4 : upd H4 T (HO.tup [.ref r, .int a.2]) T = some (.tup [.ref r, .int a.2]) := upd_same
      replace hr3 := s4 _ _ hr3
      replace hd4 := s4 _ _ hd4
      replace hp4 := s4 _ _ hp4
      replace k4 : ∀ b o, b ≠ da → b ≠ p → H2 b = some o → upd H4 T (HO.tup [.ref r, .int a.2]) b = some o := fun b o h1 h2 h => s4 _ _ (k4 b o h1 h2 h)
      generalize upd H4 T (HO.tup [.ref r, .int a.2]) = H5 at hT4 hr3 hd4 hp4 k4 ⊢
      clear s4 hT
      walk_at "rd"
      refine ⟨_, SqT.of hT4, rfl, _, _, rfl, ?_⟩
      walk_at "rd"
      refine ⟨_, SqT.of hr3, rfl, _, _, rfl, _, _, rfl, _, _, rfl, rfl, ?_⟩
      walk_at "rd"
      walk_at "go"
      have hd5 := k4 _ _ ndd ndp hd
      refine ⟨_, getN hd5 (rn.key m1), _, getN hd5 (rn.key m2), by decide, fun p2 hp2 => ?_⟩
      have s6 := Same.new (o := HO.tup [V.str (apN im a.1.1), kV (Sum.inr a.1.2.1), V.str (apN im a.1.2.2)]) hp2
      refine ⟨_, DPut.t (k := key3 (apN im a.1.1, a.1.2.1, apN im a.1.2.2)) (s6 _ _ hp4) upd_same lp, ?_⟩
      rw [pu]
      refine fin _ _ _ _ _ ?_ (fun b o n1 n2 hb => ?_) upd_same
      · rw [upd_ne nap]
        exact s6 _ _ hd4
      · rw [upd_ne n2]
        exact s6 _ _ (k4 b o n1 n2 hb)
    · obtain ⟨o3, o4, o5, o6, rfl, hd4, k4, hp4⟩ := (hP _ _ _).mp hpv
      refine ⟨hd4, ?_⟩
      rw [enc_len, List.take_length] at hp4
      have sA : Same H (upd H4 da (HO.dT (encA (sortA m)))) := fun b o hb => by
        have nbp : b ≠ p := fun e => by rw [e, hp0] at hb; cases hb
        have hb2 := e1 _ _ hb
        by_cases e : b = da
        · rw [e, upd_same, ← hb2, e, h2]
        · rw [upd_ne e]
          exact k4 b o e nbp hb2
      have ld : ∀ b xs, H2 b = some (.tup xs) → upd H4 da (HO.dT (encA (sortA m))) b = some (.tup xs) := fun b xs hb => by
        have n1 : b ≠ da := fun e => by rw [e, h2] at hb; cases hb
        rw [upd_ne n1]
        exact k4 b _ n1 (fun e => by rw [e, hp1] at hb; cases hb) hb
      replace h3 := ld _ _ h3
      replace h4 := ld _ _ h4
      have hp5 : upd H4 da (HO.dT (encA (sortA m))) p = some (.dT (encA (rnA (apN im) (sortA m)))) := by rw [upd_ne nap.symm]; exact hp4
      have hd5 : upd H4 da (HO.dT (encA (sortA m))) d = some (.dK (encN im)) := by rw [upd_ne ndd]; exact k4 _ _ ndd ndp hd
      obtain ⟨x1, x2⟩ := slt_at h1
      have npx : p ≠ x := fun e => by rw [e, x1] at hp1; cases hp1
      have npd : p ≠ dx := fun e => by rw [e, x2] at hp1; cases hp1
      have sl5 : SlX.Slt (upd H4 da (HO.dT (encA (sortA m)))) x Z.c_Machine dx [some (V.ref da), some (V.ref f), some (V.ref lk), some (V.ref ln), some (V.ref st), some (V.ref sp)] :=
        .inr ⟨by rw [upd_ne nax.symm]; exact k4 _ _ nax.symm npx.symm x1, by rw [upd_ne nad.symm]; exact k4 _ _ nad.symm npd.symm x2⟩
      generalize upd H4 da (HO.dT (encA (sortA m))) = H5 at sA h3 h4 hp5 hd5 sl5 ⊢
      clear ld hp4 k4 hd4 hP hpv hp3 k3 hA h1 h2 hp1 hd e1 x1 x2 h5 h6 h8 h9
      walk_at "go"
      refine ⟨dx, _, sl5, _, rfl, f, rfl, ⟨_, SqT.of h3⟩, ?_⟩
      refine ren_lc (walk_tup (K := K) (a := f) (xs := fs.map V.str)) (fun H1 e1 => SqT.of (e1 _ _ h3)) hd5 (fun x hx => rn.key (inS.f x hx)) (by omega) (fun _ => rfl) (fun _ => rfl) (fun _ => rfl) fun p6 H6 hp6 e6 hl6 => ?_
      refine sort_strs hl6 fun p7 hp7 => ?_
      have e7 := Same.new (o := HO.lst ((sortS (fs.map (apN im))).map V.str)) hp7
      refine ⟨p7, rfl, _, upd_same, fun p8 hp8 => ?_⟩
      have e8 := Same.new (o := HO.tup ((sortS (fs.map (apN im))).map V.str)) hp8
      have hf8 : upd (upd H6 p7 (HO.lst ((sortS (fs.map (apN im))).map V.str))) p8 (HO.tup ((sortS (fs.map (apN im))).map V.str)) p8 = some (.tup ((sortS (fs.map (apN im))).map V.str)) := upd_same
      have eA := (e6.trans e7).trans e8
      replace sA := sA.trans eA
      replace h4 := eA _ _ h4
      replace hp5 := eA _ _ hp5
      replace hd5 := eA _ _ hd5
      replace sl5 := Same.slt eA sl5
      generalize upd (upd H6 p7 (HO.lst ((sortS (fs.map (apN im))).map V.str))) p8 (HO.tup ((sortS (fs.map (apN im))).map V.str)) = H8 at sA h4 hp5 hd5 sl5 hf8 ⊢
      clear e6 e7 e8 eA hl6 hp6 hp7 hp8 h3
      walk_at "go"
      refine ⟨dx, _, sl5, _, rfl, lk, rfl, ⟨_, SqT.of h4⟩, ?_⟩
      refine ren_lc (walk_tup (K := K) (a := lk) (xs := ls.map V.str)) (fun H1 e1 => SqT.of (e1 _ _ h4)) hd5 (fun x hx => rn.key (inS.l x hx)) (by omega) (fun _ => rfl) (fun _ => rfl) (fun _ => rfl) fun p6 H6 hp6 e6 hl6 => ?_
      refine sort_strs hl6 fun p7 hp7 => ?_
      have e7 := Same.new (o := HO.lst ((sortS (ls.map (apN im))).map V.str)) hp7
      refine ⟨p7, rfl, _, upd_same, fun p9 hp9 => ?_⟩
      have e9 := Same.new (o := HO.tup ((sortS (ls.map (apN im))).map V.str)) hp9
      have hl9 : upd (upd H6 p7 (HO.lst ((sortS (ls.map (apN im))).map V.str))) p9 (HO.tup ((sortS (ls.map (apN im))).map V.str)) p9 = some (.tup ((sortS (ls.map (apN im))).map V.str)) := upd_same
      have eA := (e6.trans e7).trans e9
      replace sA := sA.trans eA
      replace hp5 := eA _ _ hp5
      replace hf8 := eA _ _ hf8
      generalize upd (upd H6 p7 (HO.lst ((sortS (ls.map (apN im))).map V.str))) p9 (HO.tup ((sortS (ls.map (apN im))).map V.str)) = H9 at sA hp5 hf8 hl9 ⊢
      clear e6 e7 e9 eA hl6 hp6 hp7 hp9 h4
      have gr2 : Gm (sortS (fs.map (apN im))) (sortS (ls.map (apN im))) (rnA (apN im) (sortA m)) := gr.perm (rnA_perm (sort_perm m)).symm
      refine mk_mac hf8 hl9 hp5 gr2 fun x' H' e hx mo => q x' H' (sA.trans e) (none_of sA hx) ?_
      rw [sortA_eq (rnA_perm (sort_perm m)) ndr] at mo
      exact mo
end
section
variable {P : Program} {w : World} {K : PySem.W.Frag} {mg : Str → Option Value} {base : Heap} {Z : Ad}
/-! ### the law's own machines -/
def spMade (C : Addr) : Sp := fun vs H Q _ => ∃ (p : Addr) (fs ls : List Str) (m : List (Arc × Int)), vs = [.ref p] ∧ PlO H p fs ls m ∧ Gm fs ls m ∧ ∀ x H', Same H H' → H x = none → MacO C H' x fs ls (sortA m) → Q (.ref x) H'
theorem ok_made (D : Ds K mg Z) (B : Bt mg) (C0 : Cs mg) : FnOk P w K mg base CX0 9 Z.a_made Z.d_made P_made (spMade Z.c_Machine) := by
  have G_Machine___init__ := ok_Machine___init__ (P := P) (w := w) (base := base) D B C0
  obtain ⟨⟨t_LIMIT, c_LIMIT⟩, ⟨t_ALPHABET, c_ALPHABET⟩, ⟨t_MAX_LETTERS, c_MAX_LETTERS⟩, ⟨t_MAX_STATES, c_MAX_STATES⟩, ⟨t_MAX_PRICE, c_MAX_PRICE⟩, ⟨t_FIRST, c_FIRST⟩, ⟨t_LAST, c_LAST⟩, ⟨t_ARC, c_ARC⟩⟩ := C0
  refine D.made.F.ok sc_made (fun vs H Q E h => ?_) (fun cdv A outer s H vs Q E hr h => ?_)
  · obtain ⟨p, fs, ls, m, rfl, _⟩ := h
    rfl
  · obtain ⟨p, fs, ls, m, rfl, ⟨f, l, a, pa⟩, gm, q⟩ := h
    refine ⟨_, (pss_one (ps_ret (pe_mkS D.Machine D.Machine___init__ G_Machine___init__ (hr.mono (by decide)) (by rfl) (pa_cons (pe_callTy call_tupM (by rfl) B.tuple (by decide +kernel) (pa_cons (pe_dget (hu_of hr) (pv 0) pe_str (fun _ _ => rfl)) pa_nil)) (pa_cons (pe_callTy call_tupM (by rfl) B.tuple (by decide +kernel) (pa_cons (pe_dget (hu_of hr) (pv 0) pe_str (fun _ _ => rfl)) pa_nil)) (pa_cons (pe_dget (hu_of hr) (pv 0) pe_str (fun _ _ => rfl)) pa_nil)))))), ?_⟩
    walk_at "rd"
    refine ⟨_, PlA.gF pa, f, rfl, _, pa.2.1, fun t1 h1 => ?_⟩
    have s1 := Same.new (o := HO.tup (fs.map V.str)) h1
    have p1 := pa.same s1
    have t1' : upd H t1 (HO.tup (fs.map V.str)) t1 = some (.tup (fs.map V.str)) := upd_same
    generalize upd H t1 (HO.tup (fs.map V.str)) = H1 at s1 p1 t1' ⊢
    refine ⟨_, PlA.gL p1, l, rfl, _, p1.2.2.1, fun t2 h2 => ?_⟩
    have s2 := Same.new (o := HO.tup (ls.map V.str)) h2
    have p2 := p1.same s2
    have t2' : upd H1 t2 (HO.tup (ls.map V.str)) t2 = some (.tup (ls.map V.str)) := upd_same
    replace t1' := s2 _ _ t1'
    generalize upd H1 t2 (HO.tup (ls.map V.str)) = H2 at s2 p2 t1' t2' ⊢
    refine ⟨_, PlA.gA p2, ?_⟩
    have sA := s1.trans s2
    exact mk_mac t1' t2' p2.2.2.2 gm fun x H' e hx mo => q x H' (sA.trans e) (none_of sA hx) mo
/-! lines -/
theorem glue_out (sep : Array Nat) (a : Array Nat) : ∀ (l : List Str) (acc : Array Nat), l.foldl (fun acc p => acc ++ sep ++ p.cps) (a ++ acc) = a ++ l.foldl (fun acc p => acc ++ sep ++ p.cps) acc
  | [], _ => rfl
  | x :: l, acc => by
    rw [List.foldl_cons, List.foldl_cons, ← glue_out sep a l, Array.append_assoc, Array.append_assoc, Array.append_assoc]
theorem join_cons (sep a b : Str) (r : List Str) : Txt.join sep (a :: b :: r) = a ++ sep ++ Txt.join sep (b :: r) := by
  show (⟨r.foldl (fun acc p => acc ++ sep.cps ++ p.cps) (a.cps ++ sep.cps ++ b.cps)⟩ : Str) = ⟨(a.cps ++ sep.cps) ++ r.foldl (fun acc p => acc ++ sep.cps ++ p.cps) b.cps⟩
  rw [glue_out]
theorem join_first {sep a : Str} {xs : List Str} (h : 0 < xs.length) : Txt.join sep (a :: xs) = a ++ sep ++ Txt.join sep xs := by
  cases xs with
  | nil => cases h
  | cons b r => exact join_cons sep a b r
theorem em_app (a : Str) : Str.empty ++ a = a := by
  show (⟨#[] ++ a.cps⟩ : Str) = a
  rw [Array.empty_append]
theorem line_eq (a : Arc × Int) : Txt.join (Str.ofString " ") [Str.ofString "arc", a.1.1, a.1.2.1, Str.ofString (toString a.2), a.1.2.2] = lineA a := by
  unfold lineA
  rw [em_app]
  rfl
theorem lines_eq (fs ls : List Str) (m : List (Arc × Int)) (hf : 0 < fs.length) (hl : 0 < ls.length) : [Str.ofString "first " ++ Txt.join (Str.ofString " ") fs, Str.ofString "last " ++ Txt.join (Str.ofString " ") ls] ++ m.map lineA = linesM fs ls m := by
  unfold linesM
  rw [join_first hf, join_first hl]
  have e1 : Str.ofString "first " = Str.ofString "first" ++ Str.ofString " " := by decide +kernel
  have e2 : Str.ofString "last " = Str.ofString "last" ++ Str.ofString " " := by decide +kernel
  rw [e1, e2]
  rfl
theorem join_len {sep : Str} (xs : List Str) : (Txt.join sep xs).length ≤ (xs.map (fun x => x.length)).sum + xs.length * sep.length := by
  have step : ∀ (l : List Str) (acc : Array Nat), (l.foldl (fun acc p => acc ++ sep.cps ++ p.cps) acc).size = acc.size + ((l.map (fun x => x.length)).sum + l.length * sep.length) := by
    intro l
    induction l with
    | nil => intro acc; simp
    | cons y l ih =>
      intro acc
      rw [List.foldl_cons, ih, Array.size_append, Array.size_append, List.map_cons, List.sum_cons, List.length_cons, Nat.add_mul]
      show acc.size + sep.cps.size + y.cps.size + _ = acc.size + (y.cps.size + _ + (_ + 1 * sep.cps.size))
      omega
  cases xs with
  | nil => exact Nat.zero_le _
  | cons x r =>
    show (List.foldl (fun acc p => acc ++ sep.cps ++ p.cps) x.cps r).size ≤ _
    rw [step, List.map_cons, List.sum_cons, List.length_cons, Nat.add_mul]
    show x.cps.size + _ ≤ x.cps.size + _ + _
    omega
theorem names_sum {xs : List Str} (h : namesB xs = true) (hl : xs.length ≤ 4000) : (xs.map (fun x => x.length)).sum + xs.length * (Str.ofString " ").length ≤ 40000 := by
  have := sum_le (names_8 h)
  rw [len_sp]
  omega
theorem tri_enc {m : List (Arc × Int)} : ∀ k ∈ (encA m).map (·.1), ∃ a b c : Str, k = [.inr a, .inr b, .inr c] := fun k hk => by
  obtain ⟨p, hp, rfl⟩ := List.mem_map.mp hk
  obtain ⟨a, ha, rfl⟩ := List.mem_map.mp hp
  exact ⟨_, _, _, rfl⟩
def spLines : Sp := fun vs H Q _ => ∃ (p : Addr) (fs ls : List Str) (m : List (Arc × Int)), vs = [.ref p] ∧ PlO H p fs ls m ∧ Gm fs ls m ∧ ∀ l H', Same H H' → H' l = some (.lst ((linesM fs ls (sortA m)).map V.str)) → Q (.ref l) H'
theorem ok_lines_ (D : Ds K mg Z) (B : Bt mg) (C0 : Cs mg) : FnOk P w K mg base CX0 1 Z.a_lines Z.d_lines P_lines spLines := by
  obtain ⟨⟨t_LIMIT, c_LIMIT⟩, ⟨t_ALPHABET, c_ALPHABET⟩, ⟨t_MAX_LETTERS, c_MAX_LETTERS⟩, ⟨t_MAX_STATES, c_MAX_STATES⟩, ⟨t_MAX_PRICE, c_MAX_PRICE⟩, ⟨t_FIRST, c_FIRST⟩, ⟨t_LAST, c_LAST⟩, ⟨t_ARC, c_ARC⟩⟩ := C0
  refine D.lines.F.ok sc_lines (fun vs H Q E h => ?_) (fun cdv A outer s H vs Q E hr h => ?_)
  · obtain ⟨p, fs, ls, m, rfl, _⟩ := h
    rfl
  · obtain ⟨p, fs, ls, m, rfl, ⟨f, l, a, pa⟩, gm, q⟩ := h
    refine ⟨_, (pss_cons (ps_set (i := 1) sc_lines.nd rfl (Or.inl rfl) (pe_lst (pa_cons (pe_op op_add_str pe_str (pe_sm PySem.F.plainAttrs_str PySem.F.slot_str_join PySem.F.type_str_join (mt_joinK (K := K) rfl) pe_str (pa_cons (pe_dget (hu_of hr) (pv 0) pe_str (fun _ _ => rfl)) pa_nil))) (pa_cons (pe_op op_add_str pe_str (pe_sm PySem.F.plainAttrs_str PySem.F.slot_str_join PySem.F.type_str_join (mt_joinK (K := K) rfl) pe_str (pa_cons (pe_dget (hu_of hr) (pv 0) pe_str (fun _ _ => rfl)) pa_nil))) pa_nil))))
    (pss_cons (ps_for PassesOwn.never rfl (pi_listK (K := K) rfl (pe_callB (cr_sortD rfl hr.units) (by rfl) B.sorted (by decide +kernel) (pa_cons (pe_dget (hu_of hr) (pv 0) pe_str (fun _ _ => rfl)) pa_nil))) (pg_tupK (K := K) (n := 3) rfl rfl (pgs_cons (pg_name (i := 2) sc_lines.nd rfl (Or.inl rfl)) (pgs_cons (pg_name (i := 3) sc_lines.nd rfl (Or.inl rfl)) (pgs_cons (pg_name (i := 4) sc_lines.nd rfl (Or.inl rfl)) pgs_nil))))
      (pss_one (ps_expr (pe_lm PySem.F.plainAttrs_list PySem.F.slot_list_append PySem.F.type_list_append mt_append (pv 1) (pa_cons (pe_sm PySem.F.plainAttrs_str PySem.F.slot_str_join PySem.F.type_str_join (mt_joinK (K := K) rfl) pe_str (pa_cons (pe_lst (pa_cons pe_str (pa_cons (pv 2) (pa_cons (pv 3) (pa_cons (pe_callTy call_str_int (by rfl) B.str (by decide +kernel) (pa_cons (pe_dget (hu_of hr) (pe_dget (hu_of hr) (pv 0) pe_str (fun _ _ => rfl)) (pe_tup (pa_cons (pv 2) (pa_cons (pv 3) (pa_cons (pv 4) pa_nil)))) (fun _ _ => rfl)) pa_nil)) (pa_cons (pv 4) pa_nil)))))) pa_nil)) pa_nil)))))
    (pss_one (ps_ret (pv 1))))), ?_⟩
    walk_at "rd"
    have sm := gm.small
    have lf := names_sum gm.fn (by omega)
    have ll := names_sum gm.ln (by omega)
    have jf := join_len (sep := Str.ofString " ") fs
    have jl := join_len (sep := Str.ofString " ") ls
    have e6 : (Str.ofString "first ").length = 6 := by decide +kernel
    have e5 : (Str.ofString "last ").length = 5 := by decide +kernel
    refine ⟨_, PlA.gF pa, f, rfl, fs, .inl (SqL.of pa.2.1), Nat.le_trans lf (by decide), Nat.le_trans (show _ ≤ 50000 by omega) (by decide), _, PlA.gL pa, l, rfl, ls, .inl (SqL.of pa.2.2.1), Nat.le_trans ll (by decide), Nat.le_trans (show _ ≤ 50000 by omega) (by decide), by decide, fun p1 h1 => ?_⟩
    have np1 : ∀ b o, H b = some o → b ≠ p1 := fun b o hb => ne_of_none hb h1
    have s1 := Same.new (o := HO.lst [V.str (Str.ofString "first " ++ Txt.join (Str.ofString " ") fs), V.str (Str.ofString "last " ++ Txt.join (Str.ofString " ") ls)]) h1
    have hp1 : upd H p1 (HO.lst [V.str (Str.ofString "first " ++ Txt.join (Str.ofString " ") fs), V.str (Str.ofString "last " ++ Txt.join (Str.ofString " ") ls)]) p1 = some (.lst (([Str.ofString "first " ++ Txt.join (Str.ofString " ") fs, Str.ofString "last " ++ Txt.join (Str.ofString " ") ls] ++ ((sortA m).take 0).map lineA).map V.str)) := upd_same
    replace pa := pa.same s1
    generalize upd H p1 (HO.lst [V.str (Str.ofString "first " ++ Txt.join (Str.ofString " ") fs), V.str (Str.ofString "last " ++ Txt.join (Str.ofString " ") ls)]) = H1 at s1 hp1 pa ⊢
    have npp : p ≠ p1 := fun e => by have := pa.1; rw [e, hp1] at this; cases this
    have npa : a ≠ p1 := fun e => by have := pa.2.2.2; rw [e, hp1] at this; cases this
    walk_at "go"
    refine ⟨_, PlA.gA pa, a, rfl, encA m, .inl pa.2.2.2, tri_enc, fun lp bs hlp pr => ?_⟩
    rw [sort_keys] at pr
    have s2 := Same.new (o := HO.lst (bs.map V.ref)) hlp
    have hlp2 : upd H1 lp (HO.lst (bs.map V.ref)) lp = some (.lst (bs.map V.ref)) := upd_same
    have nlp : lp ≠ p1 := (ne_of_none hp1 hlp).symm
    replace hp1 := s2 _ _ hp1
    replace pa := pa.same s2
    replace s1 := s1.trans s2
    replace pr := paired_mono (fun _ _ e => s2 _ _ e) pr
    generalize upd H1 lp (HO.lst (bs.map V.ref)) = H2 at s1 s2 hp1 pa pr hlp2 ⊢
    have lb : bs.length = m.length := by
      rw [← Paired.length pr, List.length_map]
      show ((sortA m).map _).length = _
      rw [List.length_map, sort_len]
    have nb : ∀ b ∈ bs, b ≠ p1 := fun b hb e => by
      obtain ⟨i, hi, rfl⟩ := List.mem_iff_getElem.mp hb
      have hs : i < (sortA m).length := by rw [sort_len]; omega
      have hk : ((encA (sortA m)).map (·.1))[i]? = some (key3 (sortA m)[i].1) := by rw [List.getElem?_map, enc_at hs]; rfl
      obtain ⟨b', hb', hbt⟩ := paired_get pr hk
      rw [List.getElem?_eq_getElem hi] at hb'
      cases hb'
      rw [e, hp1] at hbt
      cases hbt
    refine ⟨⟨_, SqL.of hlp2⟩, ?_⟩
    obtain ⟨Pv, hP⟩ := inv_bi (fun (i : Nat) (σ : St) (H' : Hp) => ∃ (o2 o3 o4 : Option V), σ = [some (.ref p), some (.ref p1), o2, o3, o4] ∧ (∀ b o, b ≠ p1 → H2 b = some o → H' b = some o) ∧ H' p1 = some (.lst (([Str.ofString "first " ++ Txt.join (Str.ofString " ") fs, Str.ofString "last " ++ Txt.join (Str.ofString " ") ls] ++ ((sortA m).take i).map lineA).map V.str)))
    have ln : (bs.map V.ref).length = m.length := by rw [List.length_map, lb]
    refine loop_it (walk_list (K := K) (a := lp) (xs := bs.map V.ref)) Pv ((hP _ _ _).mpr ⟨_, _, _, rfl, fun _ _ _ h => h, hp1⟩) (fun i σ H' _ h => by obtain ⟨_, _, _, _, h, _⟩ := (hP _ _ _).mp h; exact SqL.of (h _ _ nlp hlp2)) (fun i y σ H4 H5 hi hpv yy => ?_) (fun σ H4 hpv => ?_)
    · obtain ⟨o2, o3, o4, rfl, k4, hp4⟩ := (hP _ _ _).mp hpv
      obtain ⟨rfl, ey⟩ := yy
      have hb : i < bs.length := by omega
      have hs : i < (sortA m).length := by rw [sort_len]; omega
      rw [List.getElem?_map, List.getElem?_eq_getElem hb] at ey
      cases ey
      have hk : ((encA (sortA m)).map (·.1))[i]? = some (key3 (sortA m)[i].1) := by rw [List.getElem?_map, enc_at hs]; rfl
      obtain ⟨b', hb', hbt⟩ := paired_get pr hk
      rw [List.getElem?_eq_getElem hb] at hb'
      cases hb'
      have hb5 := k4 _ _ (nb _ (List.getElem_mem hb)) hbt
      have mem : (sortA m)[i] ∈ m := (sort_perm m).mem_iff.mp (List.getElem_mem hs)
      have va := val_at gm.nd _ mem
      obtain ⟨pl, prc⟩ := gm.an _ mem
      obtain ⟨q1, q2, q3⟩ := place_of pl
      have tk : ((sortA m).take (i + 1)).map lineA = ((sortA m).take i).map lineA ++ [lineA (sortA m)[i]] := by rw [List.take_add_one, List.getElem?_eq_getElem hs, List.map_append]; rfl
      have fin := fun o2 o3 o4 H' (h1 : ∀ b o, b ≠ p1 → H2 b = some o → H' b = some o) (h2 : H' p1 = some (.lst (([Str.ofString "first " ++ Txt.join (Str.ofString " ") fs, Str.ofString "last " ++ Txt.join (Str.ofString " ") ls] ++ (((sortA m).take i).map lineA ++ [lineA (sortA m)[i]])).map V.str))) => (hP (i + 1) [some (.ref p), some (.ref p1), o2, o3, o4] H').mpr ⟨o2, o3, o4, rfl, h1, by rw [tk]; exact h2⟩
      clear hP hpv tk hk
      generalize (sortA m)[i] = b at *
      walk_at "rd"
      refine ⟨_, SqT.of hb5, rfl, _, _, rfl, _, _, rfl, _, _, rfl, rfl, ?_⟩
      walk_at "rd"
      walk_at "go"
      have gA : DGet H5 p (.str kA) (some (.ref a)) := DGet.k (k := Sum.inr kA) (k4 _ _ npp pa.1)
      have ha5 := k4 _ _ npa pa.2.2.2
      obtain ⟨pi0, pi9⟩ := price_in prc
      have lg : b.2.natAbs.log2 < 1920 := Nat.lt_of_lt_of_le (log2_of (k := 10) (by omega) (by decide)) (by decide)
      have tx := price_txt prc
      refine ⟨_, gA, by decide, fun t1 k1 => ⟨a, rfl, ?_⟩⟩
      have s3 := Same.new (o := HO.tup [kV (Sum.inr b.1.1), kV (Sum.inr b.1.2.1), kV (Sum.inr b.1.2.2)]) k1
      have gV : DGet (upd H5 t1 (HO.tup [kV (Sum.inr b.1.1), kV (Sum.inr b.1.2.1), kV (Sum.inr b.1.2.2)])) a (.ref t1) (some (.int b.2)) := by
        rw [← va]
        exact DGet.t (k := key3 b.1) (s3 _ _ ha5) upd_same
      refine ⟨_, gV, _, rfl, lg, by decide, fun t2 k2 => ?_⟩
      have s4 := Same.new (o := HO.lst [V.str (Str.ofString "arc"), kV (Sum.inr b.1.1), kV (Sum.inr b.1.2.1), V.str (Str.ofString (toString b.2)), kV (Sum.inr b.1.2.2)]) k2
      have s5 := s3.trans s4
      refine ⟨[Str.ofString "arc", b.1.1, b.1.2.1, Str.ofString (toString b.2), b.1.2.2], .inl (SqL.of upd_same), ?_, _, s5 _ _ hp4, ?_, ?_⟩
      · have n1 := name_len q1
        have n2 := letter_len q2
        have n3 := name_len q3
        simp only [List.map_cons, List.map_nil, List.sum_cons, List.sum_nil, List.length_cons, List.length_nil, len_arc, len_sp, tx, n2]
        omega
      · rw [List.length_map, List.length_append, List.length_map, List.length_take]
        exact Nat.lt_of_le_of_lt (show 2 + min i (sortA m).length ≤ 4002 by rw [sort_len]; omega) (by decide)
      · rw [line_eq]
        refine fin _ _ _ _ (fun c o nc hc => ?_) ?_
        · rw [upd_ne nc]
          exact s5 _ _ (k4 c o nc hc)
        · rw [upd_same, ← List.append_assoc, List.map_append (l₂ := [lineA b])]
          rfl
    · obtain ⟨o2, o3, o4, rfl, k4, hp4⟩ := (hP _ _ _).mp hpv
      rw [ln, ← sort_len m, List.take_length, lines_eq _ _ _ gm.f0 gm.l0] at hp4
      have qq := q p1 H4 (fun b o hb => k4 b o (np1 b o hb) (s1 _ _ hb)) hp4
      walk_at "gg"
end
section
variable {P : Program} {w : World} {K : PySem.W.Frag} {mg : Str → Option Value} {base : Heap} {Z : Ad}
/-! ### drawn renamings -/
def NEW5 : List Str := [Str.ofString "new", Str.ofString "first", Str.ofString "arc", Str.ofString "z", Str.ofString "later"]
theorem new5_name : ∀ x ∈ NEW5, isName (.str x) = true := by decide +kernel
def spImages : Sp := fun vs H Q _ => ∃ (d t : Addr) (x y z : Int) (ys : List Str), vs = [.ref d, .ref t] ∧ H d = some (.lst [.int x, .int y, .int z]) ∧ H t = some (.tup (ys.map V.str)) ∧ ys.Nodup ∧ (∀ x ∈ ys, isName (.str x) = true) ∧ ys.length ≤ 24 ∧
  ∀ p im H', Dk d H H' → p ≠ d → H p = none → H' p = some (.dK (encN im)) → Rn ys im → Q (.ref p) H'
theorem ok_images (D : Ds K mg Z) (B : Bt mg) (C0 : Cs mg) : FnOk P w K mg base CX0 3 Z.a_images Z.d_images P_images spImages := by
  have G_pick := ok_pick (P := P) (w := w) (base := base) D B
  have G_mixed := ok_mixed (P := P) (w := w) (base := base) D B C0
  obtain ⟨⟨t_LIMIT, c_LIMIT⟩, ⟨t_ALPHABET, c_ALPHABET⟩, ⟨t_MAX_LETTERS, c_MAX_LETTERS⟩, ⟨t_MAX_STATES, c_MAX_STATES⟩, ⟨t_MAX_PRICE, c_MAX_PRICE⟩, ⟨t_FIRST, c_FIRST⟩, ⟨t_LAST, c_LAST⟩, ⟨t_ARC, c_ARC⟩⟩ := C0
  refine D.images.F.ok sc_images (fun vs H Q E h => ?_) (fun cdv A outer s H vs Q E hr h => ?_)
  · obtain ⟨d, t, x, y, z, ys, rfl, _⟩ := h
    rfl
  · obtain ⟨d, t, x, y, z, ys, rfl, hd, ht, nd, nm, few, q⟩ := h
    refine ⟨_, (pss_cons (ps_asg (pe_tup (pa_cons (pe_df D.mixed G_mixed (hr.mono (by decide)) (by rfl) (pa_cons (pv 0) (pa_cons (pe_op op_cat (pe_callTy call_list_of (by rfl) B.list (by decide +kernel) (pa_cons (pv 1) pa_nil)) (pe_lst (pa_cons pe_str (pa_cons pe_str (pa_cons pe_str (pa_cons pe_str (pa_cons pe_str pa_nil))))))) pa_nil))) (pa_cons pe_dnewK pa_nil))) (pg_tupK (K := K) (n := 2) rfl rfl (pgs_cons (pg_name (i := 2) sc_images.nd rfl (Or.inl rfl)) (pgs_cons (pg_name (i := 3) sc_images.nd rfl (Or.inr rfl)) pgs_nil))))
    (pss_cons (ps_for PassesOwn.never rfl (pi_listK (K := K) rfl (pe_df D.mixed G_mixed (hr.mono (by decide)) (by rfl) (pa_cons (pv 0) (pa_cons (pe_callTy call_list_of (by rfl) B.list (by decide +kernel) (pa_cons (pv 1) pa_nil)) pa_nil)))) (pg_name (i := 4) sc_images.nd rfl (Or.inl rfl))
      (pss_cons (ps_setLc (i := 5) (own := [("_law_image_here", 6)]) (g := gName 6) rfl sc_images.nd rfl rfl (sw_true rfl rfl rfl (by decide +kernel)) (pi_listK (K := K) rfl (pv 2)) (blkOk_by (N := N_images) (sc := defScope s_images) (by decide +kernel)) (fun _ _ _ _ _ => (pg_name (i := 6) sc_images.nd rfl (Or.inl rfl))) (fun _ _ _ _ _ => (pts_one (pt_cmpR op_ninL (pv 6) (pe_listVals rfl (pv 3) (by rfl) B.list (by decide +kernel)) (by rfl)))) (fun _ _ _ _ _ => (pv 6)))
    (pss_one (ps_dput (hu_of hr) (pv 3) (pv 4) (pe_df D.pick G_pick (hr.mono (by decide)) (by rfl) (pa_cons (pv 0) (pa_cons (pv 5) pa_nil))) rfl))))
    (pss_one (ps_ret (pv 3))))), ?_⟩
    walk_at "rd"
    refine ⟨_, .inr (SqT.of ht), fun l1 h1 => ⟨by decide, fun p1 k1 => ⟨_, Same.new k1 _ _ upd_same, ?_, fun p2 k2 => ?_⟩⟩⟩
    · rw [List.length_map]
      exact Nat.le_trans (show ys.length + 5 ≤ 29 by omega) (by decide)
    have s1 := ((Same.new (o := HO.lst (ys.map V.str)) h1).trans (Same.new (o := HO.lst (NEW5.map V.str)) k1)).trans (Same.new (o := HO.lst (ys.map V.str ++ NEW5.map V.str)) k2)
    have hp2 : upd (upd (upd H l1 (HO.lst (ys.map V.str))) p1 (HO.lst (NEW5.map V.str))) p2 (HO.lst (ys.map V.str ++ NEW5.map V.str)) p2 = some (.lst ((ys ++ NEW5).map V.str)) := by rw [List.map_append]; exact upd_same
    have np2 : p2 ≠ d := (ne_of_none (Same.new k1 _ _ (Same.new h1 _ _ hd)) k2).symm
    change spMixed _ (upd (upd (upd H l1 (HO.lst (ys.map V.str))) p1 (HO.lst (NEW5.map V.str))) p2 (HO.lst (ys.map V.str ++ NEW5.map V.str))) _ _
    generalize upd (upd (upd H l1 (HO.lst (ys.map V.str))) p1 (HO.lst (NEW5.map V.str))) p2 (HO.lst (ys.map V.str ++ NEW5.map V.str)) = H1 at s1 hp2 ⊢
    refine ⟨d, p2, x, y, z, _, rfl, s1 _ _ hd, np2, hp2, ?_, fun pp zs H2 dk2 npd hpp pm hpz => ?_⟩
    · rw [List.length_map, List.length_append]
      show ys.length + 5 ≤ 1000
      omega
    obtain ⟨pool, rfl, pm2⟩ := perm_strs pm
    have hpp0 : H pp = none := none_of s1 hpp
    replace dk2 := (Dk.of hd s1).trans dk2
    intro pf hpf
    have npf : pf ≠ d := Dk.ne dk2.2.choose_spec.choose_spec.choose_spec hpf
    have hpf0 : H pf = none := dk2.none npf hpf
    have nfp : pp ≠ pf := ne_of_none hpz hpf
    refine ⟨by decide, fun pt hpt => ⟨_, SqT.of upd_same, rfl, _, _, rfl, _, _, rfl, rfl, ?_⟩⟩
    have s3 := (Same.new (o := HO.dK []) hpf).trans (Same.new (o := HO.tup [V.ref pp, V.ref pf]) hpt)
    have hf3 : upd (upd H2 pf (HO.dK [])) pt (HO.tup [V.ref pp, V.ref pf]) pf = some (.dK (encN [])) := Same.new hpt _ _ upd_same
    have dk3 := dk2.same s3
    have hpz3 := s3 _ _ hpz
    generalize upd (upd H2 pf (HO.dK [])) pt (HO.tup [V.ref pp, V.ref pf]) = H3 at s3 hf3 dk3 hpz3 ⊢
    have ntd : t ≠ d := fun e => by rw [e, hd] at ht; cases ht
    have ht3 := dk3.1 _ _ ntd ht
    walk_at "go"
    refine ⟨_, .inr (SqT.of ht3), fun l2 h2 => ?_⟩
    have s4 := Same.new (o := HO.lst (ys.map V.str)) h2
    obtain ⟨x4, y4, z4, hd4⟩ := (dk3.same s4).2
    have nl2 : l2 ≠ d := Dk.ne dk3.2.choose_spec.choose_spec.choose_spec h2
    refine ⟨d, l2, x4, y4, z4, _, rfl, hd4, nl2, upd_same, by rw [List.length_map]; omega, fun pl zs2 H5 dk5 nld hpl pmn hlz => ?_⟩
    obtain ⟨nms, rfl, pmn2⟩ := perm_strs pmn
    have hpl3 : H3 pl = none := none_of s4 hpl
    have nlf : pl ≠ pf := (ne_of_none hf3 hpl3).symm
    have dk6 := (Dk.of dk3.2.choose_spec.choose_spec.choose_spec s4).trans dk5
    have hf5 := dk6.1 _ _ npf hf3
    have hpz5 := dk6.1 _ _ npd hpz3
    replace dk6 := dk3.trans dk6
    clear s1 s3 s4 dk2 dk3 dk5 hd4 h2 hf3 hpz3 ht3 hpt hpz hpf pm pmn h1 k1 k2 hp2
    refine ⟨pl, rfl, ⟨_, SqL.of hlz⟩, ?_⟩
    have ln : (nms.map V.str).length = ys.length := by rw [List.length_map, pmn2.length_eq]
    have pl24 : pool.length ≤ 29 := by
      rw [pm2.length_eq, List.length_append]
      show ys.length + 5 ≤ 29
      omega
    obtain ⟨Pv, hP⟩ := inv_bi (fun (i : Nat) (σ : St) (H' : Hp) => ∃ (o4 o5 : Option V) (im : List (Str × Str)), σ = [some (.ref d), some (.ref t), some (.ref pp), some (.ref pf), o4, o5, none] ∧ Dk d H H' ∧ H' pp = some (.lst (pool.map V.str)) ∧ H' pl = some (.lst (nms.map V.str)) ∧ H' pf = some (.dK (encN im)) ∧ im.map (·.1) = nms.take i ∧ (im.map (·.2)).Nodup ∧ ∀ p ∈ im, p.2 ∈ pool)
    refine loop_it (walk_list (K := K) (a := pl) (xs := nms.map V.str)) Pv ((hP _ _ _).mpr ⟨_, _, [], rfl, dk6, hpz5, hlz, hf5, rfl, .nil, fun p h => by cases h⟩) (fun i σ H' _ h => by obtain ⟨_, _, _, _, _, _, h, _⟩ := (hP _ _ _).mp h; exact SqL.of h) (fun i v σ H6 H7 hi hpv yy => ?_) (fun σ H6 hpv => ?_)
    · obtain ⟨o4, o5, im, rfl, k6, hq6, hl6, hf6, ik, iv, ip⟩ := (hP _ _ _).mp hpv
      obtain ⟨rfl, ev⟩ := yy
      have hi2 : i < nms.length := by rw [← List.length_map (f := V.str)]; exact hi
      rw [List.getElem?_map, List.getElem?_eq_getElem hi2] at ev
      cases ev
      have et : nms.take (i + 1) = nms.take i ++ [nms[i]] := by rw [List.take_add_one, List.getElem?_eq_getElem hi2]; rfl
      have ndn : nms.Nodup := pmn2.nodup_iff.mpr nd
      have new : nms[i] ∉ nms.take i := fun hm => by
        have h := ndn
        rw [← List.take_append_drop i nms, List.nodup_append] at h
        rw [List.drop_eq_getElem_cons hi2] at h
        exact h.2.2 _ hm _ List.mem_cons_self rfl
      have fin := fun o4 o5 im' H' (h1 : Dk d H H') (h2 : H' pp = some (.lst (pool.map V.str))) (h3 : H' pl = some (.lst (nms.map V.str))) (h4 : H' pf = some (.dK (encN im'))) (h5 : im'.map (·.1) = nms.take i ++ [nms[i]]) (h6 : (im'.map (·.2)).Nodup) (h7 : ∀ p ∈ im', p.2 ∈ pool) => (hP (i + 1) [some (.ref d), some (.ref t), some (.ref pp), some (.ref pf), o4, o5, none] H').mpr ⟨o4, o5, im', rfl, h1, h2, h3, h4, by rw [et]; exact h5, h6, h7⟩
      clear hP hpv et
      generalize nms[i] = nam at *
      walk_at "rd"
      walk_at "go"
      refine ⟨⟨_, SqL.of hq6⟩, ?_⟩
      have ev : (encN im).map (fun x => x.2) = (im.map (·.2)).map V.str := by
        unfold encN
        rw [List.map_map, List.map_map]
        rfl
      refine lc_pureW (walk_list (K := K) (a := pp) (xs := pool.map V.str)) (fun H1 e1 => SqL.of (e1 _ _ hq6)) (by rw [List.length_map]; omega) (fun v => !inV v ((im.map (·.2)).map V.str)) id (fun _ => rfl) (fun v hv H1 e1 R hR => ?_) (fun v hv _ H1 e1 R hR => ?_) fun pr H8 hpr e8 hr8 => ?_
      · obtain ⟨c, hc, rfl⟩ := List.mem_map.mp hv
        walk_at "rd"
        refine ⟨_, e1 _ _ hf6, fun l3 h3 => ?_⟩
        rw [ev]
        refine ⟨rfl, flat_strs _, ?_⟩
        exact hR _ (Same.new h3)
      · exact ⟨_, rfl, hR _ (Same.refl _)⟩
      · have efl : ((pool.map V.str).filter (fun v => !inV v ((im.map (·.2)).map V.str))).map id = (pool.filter fun c => !decide (c ∈ im.map (·.2))).map V.str := by
          rw [List.map_id, List.filter_map]
          congr 1
          refine List.filter_congr fun c _ => ?_
          show (!inV (V.str c) _) = _
          rw [inV_strs]
        rw [efl] at hr8
        have dk8 := k6.same e8
        replace hq6 := e8 _ _ hq6
        replace hl6 := e8 _ _ hl6
        replace hf6 := e8 _ _ hf6
        obtain ⟨x8, y8, z8, hd8⟩ := dk8.2
        have nrd : pr ≠ d := Dk.ne k6.2.choose_spec.choose_spec.choose_spec hpr
        have liv : (im.map (·.2)).length = i := by rw [List.length_map, ← List.length_map (f := (·.1)), ik, List.length_take]; omega
        obtain ⟨c0, hc0, hc1⟩ : ∃ c ∈ ys, c ∉ im.map (·.2) := by
          apply Classical.byContradiction
          intro hno
          have := nd_sub_len nd fun c hc => Classical.byContradiction fun h => hno ⟨c, hc, h⟩
          rw [liv] at this
          rw [List.length_map] at ln
          omega
        have mem0 : c0 ∈ pool.filter fun c => !decide (c ∈ im.map (·.2)) := by
          rw [List.mem_filter]
          exact ⟨pm2.mem_iff.mpr (List.mem_append_left _ hc0), by rw [decide_eq_false hc1]; rfl⟩
        have lfl := List.length_filter_le (fun c => !decide (c ∈ im.map (·.2))) pool
        refine later ?_
        walk_at "rd"
        refine ⟨d, x8, y8, z8, _, _, rfl, hd8, .inl ⟨pr, rfl, nrd, hr8⟩, by rw [List.length_map]; exact List.length_pos_of_mem mem0, by rw [List.length_map]; omega, fun v hv x9 y9 z9 => ?_⟩
        obtain ⟨c, hc, rfl⟩ := List.mem_map.mp hv
        rw [List.mem_filter, Bool.not_eq_true', decide_eq_false_iff_not] at hc
        have hf9 : upd H8 d (HO.lst [.int x9, .int y9, .int z9]) pf = some (.dK (encN im)) := by rw [upd_ne npf]; exact hf6
        have lim : (encN im).length < sizeLine := by
          unfold encN
          rw [List.length_map, ← List.length_map (f := (·.2)), liv]
          exact Nat.lt_of_le_of_lt (show i ≤ 29 by omega) (by decide)
        refine ⟨_, DPut.k (k := Sum.inr nam) hf9 lim, ?_⟩
        have pe : putK (encN im) (Sum.inr nam) (V.str c) = encN (im ++ [(nam, c)]) := by
          rw [put_new]
          · unfold encN
            rw [List.map_append]
            rfl
          · intro p hp
            obtain ⟨q, hq, rfl⟩ := List.mem_map.mp hp
            intro e
            have e2 : q.1 = nam := Sum.inr.inj e
            exact new (by rw [← ik, ← e2]; exact List.mem_map.mpr ⟨q, hq, rfl⟩)
        rw [pe]
        refine fin _ _ (im ++ [(nam, c)]) _ ((dk8.trans (Dk.roll x9 y9 z9)).lay hpf0 npf) ?_ ?_ upd_same ?_ ?_ ?_
        · rw [upd_ne nfp, upd_ne npd]
          exact hq6
        · rw [upd_ne nlf, upd_ne nld]
          exact hl6
        · rw [List.map_append, ik]
          rfl
        · rw [List.map_append, List.nodup_append]
          refine ⟨iv, by simp, fun a ha b hb e => ?_⟩
          rw [e, List.mem_singleton.mp hb] at ha
          exact hc.2 ha
        · intro p hp
          rcases List.mem_append.mp hp with h | h
          · exact ip p h
          · rw [List.mem_singleton.mp h]
            exact hc.1
    · obtain ⟨o4, o5, im, rfl, k6, hq6, hl6, hf6, ik, iv, ip⟩ := (hP _ _ _).mp hpv
      rw [ln, ← pmn2.length_eq, List.take_length] at ik
      have rn : Rn ys im := ⟨by rw [ik]; exact pmn2, nd, iv, fun p hp => by
        rcases List.mem_append.mp (pm2.mem_iff.mp (ip p hp)) with h | h
        · exact nm _ h
        · exact new5_name _ h, few⟩
      have qq := q pf im H6 k6 npf hpf0 hf6 rn
      walk_at "gg"
/-! ### plain machines with other names -/
def spImg : Sp := fun vs H Q _ => ∃ (p d : Addr) (fs ls ys : List Str) (m : List (Arc × Int)) (im : List (Str × Str)), vs = [.ref p, .ref d] ∧ PlO H p fs ls m ∧ Gm fs ls m ∧ Sorted ys (fs ++ ls ++ innA m) ∧ H d = some (.dK (encN im)) ∧ Rn ys im ∧
  ∀ p' H', Same H H' → H p' = none → PlO H' p' (sortS (fs.map (apN im))) (sortS (ls.map (apN im))) (rnA (apN im) m) → Q (.ref p') H'
theorem ok_image (D : Ds K mg Z) (B : Bt mg) (C0 : Cs mg) : FnOk P w K mg base CX0 1 Z.a_image Z.d_image P_image spImg := by
  obtain ⟨⟨t_LIMIT, c_LIMIT⟩, ⟨t_ALPHABET, c_ALPHABET⟩, ⟨t_MAX_LETTERS, c_MAX_LETTERS⟩, ⟨t_MAX_STATES, c_MAX_STATES⟩, ⟨t_MAX_PRICE, c_MAX_PRICE⟩, ⟨t_FIRST, c_FIRST⟩, ⟨t_LAST, c_LAST⟩, ⟨t_ARC, c_ARC⟩⟩ := C0
  refine D.image.F.ok sc_image (fun vs H Q E h => ?_) (fun cdv A outer s H vs Q E hr h => ?_)
  · obtain ⟨p, d, fs, ls, ys, m, im, rfl, _⟩ := h
    rfl
  · obtain ⟨p, d, fs, ls, ys, m, im, rfl, ⟨f, l, a, pa⟩, gm, so, hd, rn, q⟩ := h
    refine ⟨_, (pss_cons (ps_set (i := 2) sc_image.nd rfl (Or.inl rfl) pe_dnewT)
    (pss_cons (ps_lock (ps_for PassesOwn.never rfl (pi_keys (pe_dget (hu_of hr) (pv 0) pe_str (fun _ _ => rfl))) (pg_tupK (K := K) (n := 3) rfl rfl (pgs_cons (pg_name (i := 3) sc_image.nd rfl (Or.inl rfl)) (pgs_cons (pg_name (i := 4) sc_image.nd rfl (Or.inl rfl)) (pgs_cons (pg_name (i := 5) sc_image.nd rfl (Or.inl rfl)) pgs_nil))))
      (pss_one (ps_dput (hu_of hr) (pv 2) (pe_tup (pa_cons (pe_dget (hu_of hr) (pv 1) (pv 3) (fun _ _ => rfl)) (pa_cons (pv 4) (pa_cons (pe_dget (hu_of hr) (pv 1) (pv 5) (fun _ _ => rfl)) pa_nil)))) (pe_dget (hu_of hr) (pe_dget (hu_of hr) (pv 0) pe_str (fun _ _ => rfl)) (pe_tup (pa_cons (pv 3) (pa_cons (pv 4) (pa_cons (pv 5) pa_nil)))) (fun _ _ => rfl)) rfl))))
    (pss_cons (ps_par (i := 6) (j := 7) (by rfl) sc_image.nd rfl rfl (by decide) rfl rfl (pa_cons (pe_lc (own := [("_law_state", 3)]) (g := gName 3) rfl sc_image.nd (pi_listK (K := K) rfl (pe_dget (hu_of hr) (pv 0) pe_str (fun _ _ => rfl))) (blkOk_by (N := N_image) (sc := defScope s_image) (by decide +kernel)) (fun _ _ _ _ _ => (pg_name (i := 3) sc_image.nd rfl (Or.inl rfl))) (fun _ _ _ _ _ => pts_nil) (fun _ _ _ _ _ => (pe_dget (hu_of hr) (pv 1) (pv 3) (fun _ _ => rfl)))) (pa_cons (pe_lc (own := [("_law_state", 3)]) (g := gName 3) rfl sc_image.nd (pi_listK (K := K) rfl (pe_dget (hu_of hr) (pv 0) pe_str (fun _ _ => rfl))) (blkOk_by (N := N_image) (sc := defScope s_image) (by decide +kernel)) (fun _ _ _ _ _ => (pg_name (i := 3) sc_image.nd rfl (Or.inl rfl))) (fun _ _ _ _ _ => pts_nil) (fun _ _ _ _ _ => (pe_dget (hu_of hr) (pv 1) (pv 3) (fun _ _ => rfl)))) pa_nil)) (by rfl))
    (pss_one (ps_ret (pe_disp (pps_cons pe_str (pe_callB (cr_sortL (K := K) rfl hr.units) (by rfl) B.sorted (by decide +kernel) (pa_cons (pv 6) pa_nil)) (pps_cons pe_str (pe_callB (cr_sortL (K := K) rfl hr.units) (by rfl) B.sorted (by decide +kernel) (pa_cons (pv 7) pa_nil)) (pps_cons pe_str (pv 2) pps_nil))) (by rfl) (by rfl) (fun z => by cases z) (by decide))))))), ?_⟩
    walk_at "rd"
    intro p1 h1
    have npp : p ≠ p1 := ne_of_none pa.1 h1
    have nfp : f ≠ p1 := ne_of_none pa.2.1 h1
    have nlp : l ≠ p1 := ne_of_none pa.2.2.1 h1
    have nap : a ≠ p1 := ne_of_none pa.2.2.2 h1
    have ndp : d ≠ p1 := ne_of_none hd h1
    have npa : p ≠ a := fun e => by have h := pa.1; rw [e, pa.2.2.2] at h; cases h
    have nfa : f ≠ a := fun e => by have h := pa.2.1; rw [e, pa.2.2.2] at h; cases h
    have nla : l ≠ a := fun e => by have h := pa.2.2.1; rw [e, pa.2.2.2] at h; cases h
    have nda : d ≠ a := fun e => by rw [e, pa.2.2.2] at hd; cases hd
    have hp1 : upd H p1 (HO.dT []) p1 = some (.dT (encA (rnA (apN im) (m.take 0)))) := upd_same
    have s1 := Same.new (o := HO.dT []) h1
    replace pa := pa.same s1
    replace hd := s1 _ _ hd
    generalize upd H p1 (HO.dT []) = H1 at s1 hp1 pa hd ⊢
    walk_at "go"
    refine ⟨a, _, pa.2.2.2, trivial, fun od => ?_⟩
    have hA : upd H1 a (HO.frz od (HO.dT (encA m))) a = some (.frz od (.dT (encA m))) := upd_same
    have k2 : ∀ b o, b ≠ a → b ≠ p1 → H1 b = some o → upd H1 a (HO.frz od (HO.dT (encA m))) b = some o := fun b o h1 _ h => by rw [upd_ne h1]; exact h
    have hp2 : upd H1 a (HO.frz od (HO.dT (encA m))) p1 = some (.dT (encA (rnA (apN im) (m.take 0)))) := by rw [upd_ne nap.symm]; exact hp1
    generalize upd H1 a (HO.frz od (HO.dT (encA m))) = H2 at hA k2 hp2 ⊢
    have inS := so_inSt so
    have gr := gm.rn inS rn.few rn.inj fun x hx => rn.name hx
    have sm := gm.small
    refine ⟨_, DGet.k (k := Sum.inr kA) (k2 _ _ npa npp pa.1), a, rfl, od, .inr ⟨_, hA, ?_⟩⟩
    obtain ⟨Pv, hP⟩ := inv_bi (fun (i : Nat) (σ : St) (H' : Hp) => ∃ (o3 o4 o5 : Option V), σ = [some (.ref p), some (.ref d), some (.ref p1), o3, o4, o5, none, none] ∧ H' a = some (.frz od (.dT (encA m))) ∧ (∀ b o, b ≠ a → b ≠ p1 → H1 b = some o → H' b = some o) ∧ H' p1 = some (.dT (encA (rnA (apN im) (m.take i)))))
    refine loop_it (walk_keysT (d := a) (o := od) (kvs := encA m)) Pv ((hP _ _ _).mpr ⟨_, _, _, rfl, hA, k2, hp2⟩) (fun i σ H' _ h => by obtain ⟨_, _, _, _, h, _⟩ := (hP _ _ _).mp h; exact h) (fun i v σ H3 H4 hi hpv yy => ?_) (fun σ H3 hpv => ?_)
    · obtain ⟨o3, o4, o5, rfl, ha3, k3, hp3⟩ := (hP _ _ _).mp hpv
      obtain ⟨rfl, k, v, r, hkv, rfl, hr3⟩ := yy
      rw [enc_len] at hi
      rw [enc_at hi] at hkv
      cases hkv
      have pu := put_rn hi gr.nd
      have hmem : m[i] ∈ m := List.getElem_mem hi
      have va := val_at gm.nd _ hmem
      have m1 := inS.m _ (inn_mem.mpr ⟨_, hmem, .inl rfl⟩)
      have m2 := inS.m _ (inn_mem.mpr ⟨_, hmem, .inr rfl⟩)
      have fin := fun o3 o4 o5 H' (h1 : H' a = some (.frz od (.dT (encA m)))) (h2 : ∀ b o, b ≠ a → b ≠ p1 → H1 b = some o → H' b = some o) (h3 : H' p1 = some (.dT (encA (rnA (apN im) (m.take (i + 1)))))) => (hP (i + 1) [some (.ref p), some (.ref d), some (.ref p1), o3, o4, o5, none, none] H').mpr ⟨o3, o4, o5, rfl, h1, h2, h3⟩
      have lp : (encA (rnA (apN im) (m.take i))).length < sizeLine := by
        rw [enc_len, rnA_len, List.length_take]
        exact Nat.lt_of_le_of_lt (show min i m.length ≤ 4000 by omega) (by decide)
      have hd5 := k3 _ _ nda ndp hd
      have gp5 := k3 _ _ npa npp pa.1
      clear hP hpv hp2 hA k2
      generalize m[i] = b at *
      walk_at "rd"
      refine ⟨_, SqT.of hr3, rfl, _, _, rfl, _, _, rfl, _, _, rfl, rfl, ?_⟩
      walk_at "rd"
      walk_at "go"
      refine ⟨_, DGet.k (k := Sum.inr kA) gp5, by decide, fun t1 k1 => ⟨a, rfl, ?_⟩⟩
      have s5 := Same.new (o := HO.tup [kV (Sum.inr b.1.1), kV (Sum.inr b.1.2.1), kV (Sum.inr b.1.2.2)]) k1
      have gV : DGet (upd H4 t1 (HO.tup [kV (Sum.inr b.1.1), kV (Sum.inr b.1.2.1), kV (Sum.inr b.1.2.2)])) a (.ref t1) (some (.int b.2)) := by
        rw [← va]
        exact .inr ⟨_, key3 b.1, t1, .inr ⟨od, s5 _ _ ha3⟩, rfl, upd_same, rfl⟩
      have hd6 := s5 _ _ hd5
      refine ⟨_, gV, _, getN hd6 (rn.key m1), _, getN hd6 (rn.key m2), by decide, fun p2 hp2 => ?_⟩
      have s6 := Same.new (o := HO.tup [V.str (apN im b.1.1), kV (Sum.inr b.1.2.1), V.str (apN im b.1.2.2)]) hp2
      have s7 := s5.trans s6
      refine ⟨_, DPut.t (k := key3 (apN im b.1.1, b.1.2.1, apN im b.1.2.2)) (s7 _ _ hp3) upd_same lp, ?_⟩
      rw [pu]
      refine fin _ _ _ _ ?_ (fun c o n1 n2 hc => ?_) upd_same
      · rw [upd_ne nap]
        exact s7 _ _ ha3
      · rw [upd_ne n2]
        exact s7 _ _ (k3 c o n1 n2 hc)
    · obtain ⟨o3, o4, o5, rfl, ha3, k3, hp3⟩ := (hP _ _ _).mp hpv
      refine ⟨ha3, ?_⟩
      rw [enc_len, List.take_length] at hp3
      have sA : Same H (upd H3 a (HO.dT (encA m))) := fun b o hb => by
        have nbp : b ≠ p1 := ne_of_none hb h1
        have hb2 := s1 _ _ hb
        by_cases e : b = a
        · rw [e, upd_same, ← hb2, e, pa.2.2.2]
        · rw [upd_ne e]
          exact k3 b o e nbp hb2
      have ld : ∀ b o, b ≠ a → b ≠ p1 → H1 b = some o → upd H3 a (HO.dT (encA m)) b = some o := fun b o n1 n2 hb => by
        rw [upd_ne n1]
        exact k3 b _ n1 n2 hb
      have gp5 := ld _ _ npa npp pa.1
      have hf5 := ld _ _ nfa nfp pa.2.1
      have hl5 := ld _ _ nla nlp pa.2.2.1
      have hd5 := ld _ _ nda ndp hd
      have hp5 : upd H3 a (HO.dT (encA m)) p1 = some (.dT (encA (rnA (apN im) m))) := by rw [upd_ne nap.symm]; exact hp3
      generalize upd H3 a (HO.dT (encA m)) = H5 at sA gp5 hf5 hl5 hd5 hp5 ⊢
      clear ld hp3 k3 ha3 hP hpv hp2 k2 hA
      walk_at "go"
      refine ⟨_, DGet.k (k := Sum.inr kF) gp5, f, rfl, ⟨_, SqL.of hf5⟩, ?_⟩
      refine ren_lc (walk_list (K := K) (a := f) (xs := fs.map V.str)) (fun H1 e1 => SqL.of (e1 _ _ hf5)) hd5 (fun x hx => rn.key (inS.f x hx)) (by omega) (fun _ => rfl) (fun _ => rfl) (fun _ => rfl) fun p6 H6 hp6 e6 hl6 => ?_
      refine ⟨_, DGet.k (k := Sum.inr kL) (e6 _ _ gp5), l, rfl, ⟨_, SqL.of (e6 _ _ hl5)⟩, ?_⟩
      refine ren_lc (walk_list (K := K) (a := l) (xs := ls.map V.str)) (fun H1 e1 => SqL.of (e1 _ _ (e6 _ _ hl5))) (e6 _ _ hd5) (fun x hx => rn.key (inS.l x hx)) (by omega) (fun _ => rfl) (fun _ => rfl) (fun _ => rfl) fun p7 H7 hp7 e7 hl7 => ?_
      have hf7 := e7 _ _ hl6
      have hp7b := (e6.trans e7) _ _ hp5
      have sB := (sA.trans e6).trans e7
      clear hd5 hp5 hf5 hl5 gp5 e6 e7 hl6 hp6 hp7
      walk_at "go"
      intro p8 hp8
      have s8 := Same.new (o := HO.dK []) hp8
      have hp8s : upd H7 p8 (HO.dK []) p8 = some (.dK []) := upd_same
      have hp80 := none_of sB hp8
      replace hf7 := s8 _ _ hf7
      replace hl7 := s8 _ _ hl7
      replace hp7b := s8 _ _ hp7b
      replace sB := sB.trans s8
      generalize upd H7 p8 (HO.dK []) = H8 at s8 hp8s hf7 hl7 hp7b sB ⊢
      refine sort_strs hf7 fun p9 hp9 => ?_
      have s9 := Same.new (o := HO.lst ((sortS (fs.map (apN im))).map V.str)) hp9
      refine sort_strs (s9 _ _ hl7) fun p10 hp10 => ?_
      have s10 := Same.new (o := HO.lst ((sortS (ls.map (apN im))).map V.str)) hp10
      have sC := s9.trans s10
      have h9 := s10 _ _ (upd_same (H := H8) (a := p9) (o := HO.lst ((sortS (fs.map (apN im))).map V.str)))
      have h10 := upd_same (H := upd H8 p9 (HO.lst ((sortS (fs.map (apN im))).map V.str))) (a := p10) (o := HO.lst ((sortS (ls.map (apN im))).map V.str))
      replace hp8s := sC _ _ hp8s
      replace hp7b := sC _ _ hp7b
      replace sB := sB.trans sC
      generalize upd (upd H8 p9 (HO.lst ((sortS (fs.map (apN im))).map V.str))) p10 (HO.lst ((sortS (ls.map (apN im))).map V.str)) = H10 at hp8s hp7b sB h9 h10 ⊢
      refine ⟨hp8s, [(.inr kF, .ref p9), (.inr kL, .ref p10), (.inr kA, .ref p1)], rfl, Nat.le_of_ble_eq_true rfl, ?_⟩
      rw [merge3]
      refine q p8 _ (Same.lay sB hp80) hp80 ⟨p9, p10, p1, upd_same, ?_, ?_, ?_⟩
      · rw [upd_ne (fun e => by rw [e, hp8s] at h9; cases h9)]
        exact h9
      · rw [upd_ne (fun e => by rw [e, hp8s] at h10; cases h10)]
        exact h10
      · rw [upd_ne (fun e => by rw [e, hp8s] at hp7b; cases hp7b)]
        exact hp7b
end
section
/-! ### least prices, plainly -/
def mn : List Int → Option Int
  | [] => none
  | a :: l => some (match mn l with | none => a | some b => min a b)
def Mn (o : Option Int) (S : Int → Prop) : Prop := match o with
  | none => ∀ u, ¬ S u
  | some v => S v ∧ ∀ u, S u → v ≤ u
theorem Mn.uniq {o o' : Option Int} {S S' : Int → Prop} (h : Mn o S) (h' : Mn o' S') (e : ∀ u, S u ↔ S' u) : o = o' := by
  cases o with
  | none => cases o' with
    | none => rfl
    | some v => exact (h v ((e v).mpr h'.1)).elim
  | some v => cases o' with
    | none => exact (h' v ((e v).mp h.1)).elim
    | some v' => rw [Int.le_antisymm (h.2 v' ((e v').mpr h'.1)) (h'.2 v ((e v).mp h.1))]
theorem Mn.congr {o : Option Int} {S S' : Int → Prop} (h : Mn o S) (e : ∀ u, S u ↔ S' u) : Mn o S' := by
  cases o with
  | none => exact fun u hu => h u ((e u).mpr hu)
  | some v => exact ⟨(e v).mp h.1, fun u hu => h.2 u ((e u).mpr hu)⟩
theorem mn_mn : ∀ l : List Int, Mn (mn l) (fun u => u ∈ l)
  | [] => fun u h => by cases h
  | a :: l => by
    have ih := mn_mn l
    show Mn (some (match mn l with | none => a | some b => min a b)) _
    cases hm : mn l with
    | none =>
      rw [hm] at ih
      refine ⟨List.mem_cons_self, fun u hu => ?_⟩
      rcases List.mem_cons.mp hu with h | h
      · rw [h]
        exact Int.le_refl _
      · exact (ih u h).elim
    | some b =>
      rw [hm] at ih
      obtain ⟨i1, i2⟩ : b ∈ l ∧ ∀ u, u ∈ l → b ≤ u := ih
      refine ⟨?_, fun u hu => ?_⟩
      · show min a b ∈ a :: l
        rcases (show min a b = a ∨ min a b = b by omega) with h | h
        · rw [h]
          exact List.mem_cons_self
        · rw [h]
          exact List.mem_cons_of_mem _ i1
      · show min a b ≤ u
        rcases List.mem_cons.mp hu with h | h
        · omega
        · have := i2 u h
          omega
abbrev Vf := Str → Option Int
def Cd (m : List (Arc × Int)) (l : Str) (V : Vf) (y : Str) (u : Int) : Prop := ∃ a ∈ m, a.1.2.1 = l ∧ a.1.2.2 = y ∧ ∃ c, V a.1.1 = some c ∧ u = c + a.2
def stepV (m : List (Arc × Int)) (l : Str) (V : Vf) : Vf := fun y => mn (m.filterMap fun a => if a.1.2.1 = l ∧ a.1.2.2 = y then (V a.1.1).map (fun c => c + a.2) else none)
theorem step_mn (m : List (Arc × Int)) (l : Str) (V : Vf) (y : Str) : Mn (stepV m l V y) (Cd m l V y) := by
  refine (mn_mn _).congr fun u => ?_
  rw [List.mem_filterMap]
  constructor
  · rintro ⟨a, ha, e⟩
    by_cases h : a.1.2.1 = l ∧ a.1.2.2 = y
    · rw [if_pos h] at e
      obtain ⟨c, hc, e2⟩ := Option.map_eq_some_iff.mp e
      exact ⟨a, ha, h.1, h.2, c, hc, e2.symm⟩
    · rw [if_neg h] at e
      cases e
  · rintro ⟨a, ha, h1, h2, c, hc, e⟩
    refine ⟨a, ha, ?_⟩
    rw [if_pos ⟨h1, h2⟩, hc, e]
    rfl
def val0 (fs : List Str) : Vf := fun y => if y ∈ fs then some 0 else none
def valT (fs : List Str) (m : List (Arc × Int)) (ts : List Str) : Vf := ts.foldl (fun V l => stepV m l V) (val0 fs)
theorem val_snoc (fs : List Str) (m : List (Arc × Int)) {ts : List Str} {i : Nat} (hi : i < ts.length) : valT fs m (ts.take (i + 1)) = stepV m ts[i] (valT fs m (ts.take i)) := by
  unfold valT
  rw [List.take_add_one, List.getElem?_eq_getElem hi, List.foldl_append]
  rfl
/-- the values of V' are those of V, renamed -/
structure Rv (r : Str → Str) (ys : List Str) (V V' : Vf) : Prop where
  at_ : ∀ x ∈ ys, V' (r x) = V x
  out : ∀ y v, V' y = some v → ∃ x ∈ ys, y = r x
theorem mem_rn {r : Str → Str} {m m' : List (Arc × Int)} (p : m'.Perm (rnA r m)) {b : Arc × Int} : b ∈ m' ↔ ∃ a ∈ m, b = ((r a.1.1, a.1.2.1, r a.1.2.2), a.2) := by
  rw [p.mem_iff]
  unfold rnA
  rw [List.mem_map]
  exact ⟨fun ⟨a, ha, e⟩ => ⟨a, ha, e.symm⟩, fun ⟨a, ha, e⟩ => ⟨a, ha, e.symm⟩⟩
theorem Rv.step {r : Str → Str} {ys : List Str} {V V' : Vf} {m m' : List (Arc × Int)} (h : Rv r ys V V') (inj : InjOn r ys) (hm : ∀ x ∈ innA m, x ∈ ys) (p : m'.Perm (rnA r m)) (l : Str) : Rv r ys (stepV m l V) (stepV m' l V') := by
  have inn1 : ∀ {a : Arc × Int}, a ∈ m → a.1.1 ∈ ys := fun {a} ha => hm _ (inn_mem.mpr ⟨a, ha, .inl rfl⟩)
  have inn2 : ∀ {a : Arc × Int}, a ∈ m → a.1.2.2 ∈ ys := fun {a} ha => hm _ (inn_mem.mpr ⟨a, ha, .inr rfl⟩)
  refine ⟨fun x hx => (step_mn m' l V' (r x)).uniq (step_mn m l V x) fun u => ⟨?_, ?_⟩, fun y v e => ?_⟩
  · rintro ⟨b, hb, h1, h2, c, hc, e⟩
    obtain ⟨a, ha, rfl⟩ := (mem_rn p).mp hb
    have hc2 : V' (r a.1.1) = some c := hc
    rw [h.at_ _ (inn1 ha)] at hc2
    exact ⟨a, ha, h1, inj _ (inn2 ha) _ hx h2, c, hc2, e⟩
  · rintro ⟨a, ha, h1, h2, c, hc, e⟩
    exact ⟨_, (mem_rn p).mpr ⟨a, ha, rfl⟩, h1, by rw [h2], c, (h.at_ _ (inn1 ha)).trans hc, e⟩
  · have hmn := step_mn m' l V' y
    rw [e] at hmn
    obtain ⟨b, hb, h1, h2, _⟩ := hmn.1
    obtain ⟨a, ha, rfl⟩ := (mem_rn p).mp hb
    exact ⟨_, inn2 ha, h2.symm⟩
theorem val_rn {r : Str → Str} {ys fs fs' : List Str} {m m' : List (Arc × Int)} (inj : InjOn r ys) (hf : ∀ x ∈ fs, x ∈ ys) (hm : ∀ x ∈ innA m, x ∈ ys) (pf : fs'.Perm (fs.map r)) (p : m'.Perm (rnA r m)) (ts : List Str) : Rv r ys (valT fs m ts) (valT fs' m' ts) := by
  have go : ∀ (ts : List Str) (V V' : Vf), Rv r ys V V' → Rv r ys (ts.foldl (fun V l => stepV m l V) V) (ts.foldl (fun V l => stepV m' l V) V') := by
    intro ts
    induction ts with
    | nil => exact fun _ _ h => h
    | cons l ts ih => exact fun V V' h => ih _ _ (h.step inj hm p l)
  refine go ts _ _ ⟨fun x hx => ?_, fun y v e => ?_⟩
  · unfold val0
    by_cases h : x ∈ fs
    · rw [if_pos h, if_pos (pf.mem_iff.mpr (List.mem_map.mpr ⟨x, h, rfl⟩))]
    · rw [if_neg h, if_neg]
      intro z
      obtain ⟨x', hx', e⟩ := List.mem_map.mp (pf.mem_iff.mp z)
      rw [inj _ (hf _ hx') _ hx e] at hx'
      exact h hx'
  · unfold val0 at e
    by_cases h : y ∈ fs'
    · obtain ⟨x', hx', e⟩ := List.mem_map.mp (pf.mem_iff.mp h)
      exact ⟨x', hf _ hx', e.symm⟩
    · rw [if_neg h] at e
      cases e
/-! dicts of numbers -/
def encI (D : List (Str × Int)) : List (Key × V) := D.map fun p => (.inr p.1, .int p.2)
def lkI (D : List (Str × Int)) (y : Str) : Option Int := (D.find? fun p => decide (p.1 = y)).map (·.2)
theorem find_encI (x : Str) : ∀ D : List (Str × Int), ((encI D).find? fun kv => decide (kv.1 = (.inr x : Key))) = (D.find? fun p => decide (p.1 = x)).map fun p => ((.inr p.1 : Key), V.int p.2)
  | [] => rfl
  | p :: r => by
    show (((.inr p.1 : Key), V.int p.2) :: encI r).find? _ = _
    rw [List.find?_cons, List.find?_cons]
    have e : decide ((.inr p.1 : Key) = .inr x) = decide (p.1 = x) := by
      by_cases h : p.1 = x
      · rw [decide_eq_true h, decide_eq_true (by rw [h])]
      · rw [decide_eq_false h, decide_eq_false (fun z => h (Sum.inr.inj z))]
    show (match decide ((.inr p.1 : Key) = .inr x) with | true => some ((.inr p.1 : Key), V.int p.2) | false => (encI r).find? _) = _
    rw [e]
    cases decide (p.1 = x)
    · exact find_encI x r
    · rfl
theorem val_encI (D : List (Str × Int)) (y : Str) : valV (encI D) (.inr y) = (lkI D y).map V.int := by
  unfold valV lkI
  rw [find_encI]
  cases D.find? (fun p => decide (p.1 = y)) <;> rfl
theorem lk_mem {D : List (Str × Int)} (nd : (D.map (·.1)).Nodup) {y : Str} {v : Int} : lkI D y = some v ↔ (y, v) ∈ D := by
  constructor
  · intro h
    obtain ⟨p, hp, e⟩ := Option.map_eq_some_iff.mp h
    have h1 := List.find?_some hp
    have h2 : p.1 = y := of_decide_eq_true h1
    rw [← h2, ← e]
    exact List.mem_of_find?_eq_some hp
  · intro h
    obtain ⟨p, hp, hm, e⟩ := find_in (im := D) (x := y) (List.mem_map.mpr ⟨_, h, rfl⟩)
    unfold lkI
    rw [hp]
    have : p = (y, v) := by
      clear hp
      induction D with
      | nil => cases h
      | cons a r ih =>
        rw [List.map_cons, List.nodup_cons] at nd
        rcases List.mem_cons.mp h with h1 | h1
        · rcases List.mem_cons.mp hm with h2 | h2
          · rw [h1, h2]
          · exact (nd.1 (List.mem_map.mpr ⟨p, h2, by rw [e, ← h1]⟩)).elim
        · rcases List.mem_cons.mp hm with h2 | h2
          · exact (nd.1 (List.mem_map.mpr ⟨_, h1, by rw [← h2, e]⟩)).elim
          · exact ih nd.2 h1 h2
    rw [this]
    rfl
theorem lk_key {D : List (Str × Int)} {y : Str} : y ∈ D.map (·.1) ↔ ∃ v, lkI D y = some v := by
  constructor
  · intro h
    obtain ⟨p, hp, _, _⟩ := find_in h
    exact ⟨p.2, by unfold lkI; rw [hp]; rfl⟩
  · rintro ⟨v, h⟩
    obtain ⟨p, hp, e⟩ := Option.map_eq_some_iff.mp h
    have h1 := List.find?_some hp
    have h2 : p.1 = y := of_decide_eq_true h1
    exact List.mem_map.mpr ⟨p, List.mem_of_find?_eq_some hp, h2⟩
def rnI (r : Str → Str) (D : List (Str × Int)) : List (Str × Int) := D.map fun p => (r p.1, p.2)
theorem rnI_keys (r : Str → Str) (D : List (Str × Int)) : (rnI r D).map (·.1) = (D.map (·.1)).map r := by
  unfold rnI
  rw [List.map_map, List.map_map]
  rfl
theorem told_rn {r : Str → Str} {ys : List Str} {V V' : Vf} {D D' : List (Str × Int)} (h : Rv r ys V V') (inj : InjOn r ys) (hy : ∀ x v, V x = some v → x ∈ ys) (nd : (D.map (·.1)).Nodup) (nd' : (D'.map (·.1)).Nodup) (e : ∀ y, lkI D y = V y) (e' : ∀ y, lkI D' y = V' y) :
    ((rnI r D).map (·.1)).Nodup ∧ D'.length = (rnI r D).length ∧ ∀ p ∈ D', lkI (rnI r D) p.1 = some p.2 := by
  have ky : ∀ x ∈ D.map (·.1), x ∈ ys := fun x hx => by
    obtain ⟨v, hv⟩ := lk_key.mp hx
    exact hy x v ((e x).symm.trans hv)
  have ndr : ((rnI r D).map (·.1)).Nodup := by
    rw [rnI_keys]
    exact nd_map inj ky nd
  refine ⟨ndr, ?_, fun p hp => ?_⟩
  · have pm : (D'.map (·.1)).Perm ((rnI r D).map (·.1)) := (List.perm_ext_iff_of_nodup nd' ndr).mpr fun y => by
      rw [rnI_keys, lk_key, List.mem_map]
      constructor
      · rintro ⟨v, hv⟩
        rw [e' y] at hv
        obtain ⟨x, hx, rfl⟩ := h.out y v hv
        rw [h.at_ x hx, ← e x] at hv
        exact ⟨x, lk_key.mpr ⟨v, hv⟩, rfl⟩
      · rintro ⟨x, hx, rfl⟩
        obtain ⟨v, hv⟩ := lk_key.mp hx
        exact ⟨v, by rw [e', h.at_ x (ky x hx), ← e x]; exact hv⟩
    have := pm.length_eq
    rw [List.length_map, List.length_map] at this
    exact this
  · have h1 : lkI D' p.1 = some p.2 := (lk_mem nd').mpr hp
    rw [e' p.1] at h1
    obtain ⟨x, hx, ex⟩ := h.out _ _ h1
    rw [ex, h.at_ x hx, ← e x] at h1
    rw [ex]
    exact (lk_mem ndr).mpr (List.mem_map.mpr ⟨_, (lk_mem nd).mp h1, rfl⟩)
theorem val_in {fs ys : List Str} {m : List (Arc × Int)} (hf : ∀ x ∈ fs, x ∈ ys) (hm : ∀ x ∈ innA m, x ∈ ys) (ts : List Str) : ∀ x v, valT fs m ts x = some v → x ∈ ys := by
  have go : ∀ (ts : List Str) (V : Vf), (∀ x v, V x = some v → x ∈ ys) → ∀ x v, ts.foldl (fun V l => stepV m l V) V x = some v → x ∈ ys := by
    intro ts
    induction ts with
    | nil => exact fun _ h => h
    | cons l ts ih =>
      refine fun V h => ih _ fun x v e => ?_
      have hmn := step_mn m l V x
      rw [show stepV m l V x = some v from e] at hmn
      obtain ⟨b, hb, h1, h2, _⟩ := hmn.1
      exact hm _ (inn_mem.mpr ⟨b, hb, .inr h2.symm⟩)
  refine go ts _ fun x v e => ?_
  unfold val0 at e
  by_cases h : x ∈ fs
  · exact hf x h
  · rw [if_neg h] at e
    cases e
/-! ### steps, renamed and sorted -/
def dP (p : Str × Int) : PyData := .tuple [.str p.1, .int p.2]
def leP (a b : Str × Int) : Bool := PySem.W.dataLe false dP a b
def sortP (ps : List (Str × Int)) : List (Str × Int) := ps.mergeSort leP
theorem leP_total : PySem.W.TotalLe leP := PySem.W.sortLe_total (PyProof.Rows.listOrd PyProof.Rows.itemOrd) false (fun a : Str × Int => PySem.W.keyToks (dP a))
theorem mem_steps {N : List (Arc × Int)} {s l : Str} {p : Str × Int} : p ∈ stepsL N s l ↔ ((s, l, p.1), p.2) ∈ N := by
  unfold stepsL
  rw [List.mem_map]
  constructor
  · rintro ⟨a, ha, rfl⟩
    rw [List.mem_filter, Bool.and_eq_true, decide_eq_true_eq, decide_eq_true_eq] at ha
    obtain ⟨h, rfl, rfl⟩ := ha
    exact h
  · intro h
    exact ⟨_, List.mem_filter.mpr ⟨h, by rw [decide_eq_true rfl, decide_eq_true rfl]; rfl⟩, rfl⟩
theorem lex_tail {x : Int ⊕ List Nat} {r t : List (Int ⊕ List Nat)} (h : PyProof.Rows.lexLt PyProof.Rows.itemOrd (x :: r) (x :: t) = false) : PyProof.Rows.lexLt PyProof.Rows.itemOrd r t = false :=
  (PyProof.Rows.lex_false.mp h).2.resolve_left (by rw [PyProof.Rows.itemOrd.irrefl]; exact Bool.false_ne_true)
theorem lex_head {a b : Str} {r t : List (Int ⊕ List Nat)} (h : PyProof.Rows.lexLt PyProof.Rows.itemOrd (.inr b.cps.toList :: r) (.inr a.cps.toList :: t) = false) : leS a b = true := by
  have h1 := (PyProof.Rows.lex_false.mp h).1
  have h2 : PyProof.Rows.lexLt PyProof.Rows.itemOrd [.inr b.cps.toList] [.inr a.cps.toList] = false := PyProof.Rows.lex_false.mpr ⟨h1, .inr rfl⟩
  rw [← leS_eq]
  show (!PyProof.Rows.lexLt PyProof.Rows.itemOrd (PySem.W.keyToks (.str b)) (PySem.W.keyToks (.str a))) = true
  simp only [PySem.W.keyToks]
  rw [h2]
  rfl
theorem leP_name {p q : Str × Int} (h : leP p q = true) : leS p.1 q.1 = true := by
  have h' : (!PyProof.Rows.lexLt PyProof.Rows.itemOrd (PySem.W.keyToks (dP q)) (PySem.W.keyToks (dP p))) = true := h
  rw [Bool.not_eq_true'] at h'
  simp only [dP, PySem.W.keyToks, PySem.W.keyToksAll, List.cons_append, List.nil_append] at h'
  exact lex_head (lex_tail h')
theorem leA_name {a b : Arc × Int} (h : leA a b = true) (e1 : a.1.1 = b.1.1) (e2 : a.1.2.1 = b.1.2.1) : leS a.1.2.2 b.1.2.2 = true := by
  have h' : (!PyProof.Rows.lexLt PyProof.Rows.itemOrd (PySem.W.keyToks (.tuple ((key3 b.1).map keyD))) (PySem.W.keyToks (.tuple ((key3 a.1).map keyD)))) = true := h
  rw [Bool.not_eq_true'] at h'
  simp only [key3, List.map_cons, List.map_nil, keyD, PySem.W.keyToks, PySem.W.keyToksAll, List.cons_append, List.nil_append, e1, e2] at h'
  exact lex_head (lex_tail (lex_tail (lex_tail (lex_tail (lex_tail h')))))
theorem steps_perm {M N : List (Arc × Int)} (p : M.Perm N) (s l : Str) : (stepsL M s l).Perm (stepsL N s l) := (p.filter _).map _
theorem steps_rn {r : Str → Str} {ys : List Str} (inj : InjOn r ys) {s l : Str} (hs : s ∈ ys) : ∀ {m : List (Arc × Int)}, (∀ x ∈ innA m, x ∈ ys) → stepsL (rnA r m) (r s) l = (stepsL m s l).map fun p => (r p.1, p.2)
  | [], _ => rfl
  | a :: m, h => by
    have hm : ∀ x ∈ innA m, x ∈ ys := fun x hx => h x (by rw [innA, List.flatMap_cons]; exact List.mem_append_right _ hx)
    have ha : a.1.1 ∈ ys := h _ (inn_mem.mpr ⟨a, List.mem_cons_self, .inl rfl⟩)
    have ih := steps_rn inj hs (l := l) hm
    have e : decide (r a.1.1 = r s) = decide (a.1.1 = s) := by
      by_cases z : a.1.1 = s
      · rw [decide_eq_true z, z, decide_eq_true rfl]
      · rw [decide_eq_false z, decide_eq_false fun w => z (inj _ ha _ hs w)]
    unfold stepsL rnA at ih ⊢
    rw [List.map_cons, List.filter_cons, List.filter_cons]
    simp only [e]
    by_cases z : (decide (a.1.1 = s) && decide (a.1.2.1 = l)) = true
    · rw [if_pos z, if_pos z, List.map_cons, List.map_cons, List.map_cons, ih]
    · rw [if_neg z, if_neg z, ih]
theorem steps_due {r : Str → Str} {ys : List Str} {m : List (Arc × Int)} (inj : InjOn r ys) (hm : ∀ x ∈ innA m, x ∈ ys) (nd : (m.map (·.1)).Nodup) {s l : Str} (hs : s ∈ ys) :
    sortP ((stepsL (sortA m) s l).map fun p => (r p.1, p.2)) = stepsL (sortA (rnA r m)) (r s) l := by
  have ndr := sort_nd (rnA_nd inj hm nd)
  have pm : (sortP ((stepsL (sortA m) s l).map fun p => (r p.1, p.2))).Perm (stepsL (sortA (rnA r m)) (r s) l) := by
    refine (List.mergeSort_perm _ _).trans ?_
    refine List.Perm.trans ?_ (steps_perm (sort_perm _).symm _ _)
    rw [steps_rn inj hs hm]
    exact (steps_perm (sort_perm m) s l).map _
  refine pw_one (r := fun a b => leS a.1 b.1 = true ∧ a ∈ stepsL (sortA (rnA r m)) (r s) l ∧ b ∈ stepsL (sortA (rnA r m)) (r s) l) (fun a b x y => ?_) ?_ ?_ pm
  · have e := leS_anti x.1 y.1
    have h := nd_inj ndr (mem_steps.mp x.2.1) (mem_steps.mp x.2.2) (by show (r s, l, a.1) = (r s, l, b.1); rw [e])
    exact Prod.ext e (Prod.mk.inj h).2
  · exact (PySem.W.sort_pairwise leP_total _).imp_of_mem fun ha hb h => ⟨leP_name h, pm.mem_iff.mp ha, pm.mem_iff.mp hb⟩
  · refine List.Pairwise.imp_of_mem (R := fun a b => leS a.1 b.1 = true) (fun ha hb h => ⟨h, ha, hb⟩) ?_
    unfold stepsL
    rw [List.pairwise_map]
    refine ((PySem.W.sort_pairwise leA_total (rnA r m)).filter _).imp_of_mem fun ha hb h => ?_
    rw [List.mem_filter, Bool.and_eq_true, decide_eq_true_eq, decide_eq_true_eq] at ha hb
    exact leA_name h (ha.2.1.trans hb.2.1.symm) (ha.2.2.trans hb.2.2.symm)
end
section
/-! ### dicts of numbers, written -/
def putI (D : List (Str × Int)) (k : Str) (i : Int) : List (Str × Int) := if (D.any fun a => decide (a.1 = k)) = true then D.map (fun a => if a.1 = k then (a.1, i) else a) else D ++ [(k, i)]
theorem putI_enc (D : List (Str × Int)) (k : Str) (i : Int) : putK (encI D) (.inr k) (.int i) = encI (putI D k i) := by
  have e : ((encI D).any fun kv => decide (kv.1 = (.inr k : Key))) = D.any fun a => decide (a.1 = k) := by
    unfold encI
    rw [List.any_map]
    congr 1
    funext a
    show decide ((.inr a.1 : Key) = .inr k) = decide (a.1 = k)
    by_cases h : a.1 = k
    · rw [h]; simp
    · rw [decide_eq_false h, decide_eq_false fun e => h (Sum.inr.inj e)]
  unfold putK putI
  rw [e]
  split
  · unfold encI
    rw [List.map_map, List.map_map]
    refine List.map_congr_left fun a _ => ?_
    show (if (.inr a.1 : Key) = .inr k then ((.inr a.1 : Key), V.int i) else ((.inr a.1 : Key), V.int a.2)) = ((.inr (if a.1 = k then (a.1, i) else a).1 : Key), V.int (if a.1 = k then (a.1, i) else a).2)
    by_cases h : a.1 = k
    · rw [if_pos (by rw [h]), if_pos h]
    · rw [if_neg fun e => h (Sum.inr.inj e), if_neg h]
  · unfold encI
    rw [List.map_append]
    rfl
theorem lk_nil (y : Str) : lkI [] y = none := rfl
theorem lk_cons (a : Str × Int) (D : List (Str × Int)) (y : Str) : lkI (a :: D) y = if a.1 = y then some a.2 else lkI D y := by
  unfold lkI
  rw [List.find?_cons]
  by_cases h : a.1 = y
  · rw [decide_eq_true h, if_pos h]
    rfl
  · rw [decide_eq_false h, if_neg h]
theorem lk_app (D : List (Str × Int)) (k : Str) (i : Int) (y : Str) : lkI (D ++ [(k, i)]) y = match lkI D y with
    | some v => some v
    | none => if k = y then some i else none := by
  induction D with
  | nil =>
    rw [List.nil_append, lk_cons, lk_nil]
  | cons a D ih =>
    rw [List.cons_append, lk_cons, lk_cons, ih]
    by_cases h : a.1 = y
    · rw [if_pos h, if_pos h]
    · rw [if_neg h, if_neg h]
theorem lk_upd (D : List (Str × Int)) (k : Str) (i : Int) (y : Str) : lkI (D.map (fun a => if a.1 = k then (a.1, i) else a)) y = if k = y then (lkI D y).map (fun _ => i) else lkI D y := by
  induction D with
  | nil =>
    rw [List.map_nil, lk_nil]
    split <;> rfl
  | cons a D ih =>
    rw [List.map_cons, lk_cons, lk_cons, ih]
    by_cases h : k = y
    · subst h
      rw [if_pos rfl, if_pos rfl]
      by_cases h2 : a.1 = k
      · rw [if_pos h2, if_pos h2, if_pos (show (a.1, i).1 = k from h2)]
        rfl
      · rw [if_neg h2, if_neg h2, if_neg h2]
    · rw [if_neg h, if_neg h]
      by_cases h2 : a.1 = k
      · rw [if_pos h2, if_neg (show ¬ (a.1, i).1 = y from fun e => h (h2.symm.trans e)), if_neg (fun e => h (h2.symm.trans e))]
      · rw [if_neg h2]
theorem any_key {D : List (Str × Int)} {k : Str} : (D.any fun a => decide (a.1 = k)) = true ↔ k ∈ D.map (·.1) := by
  rw [List.any_eq_true, List.mem_map]
  exact ⟨fun ⟨a, h, e⟩ => ⟨a, h, of_decide_eq_true e⟩, fun ⟨a, h, e⟩ => ⟨a, h, decide_eq_true e⟩⟩
theorem lk_put (D : List (Str × Int)) (k : Str) (i : Int) (y : Str) : lkI (putI D k i) y = if k = y then some i else lkI D y := by
  unfold putI
  by_cases h : (D.any fun a => decide (a.1 = k)) = true
  · rw [if_pos h, lk_upd]
    by_cases e : k = y
    · subst e
      rw [if_pos rfl, if_pos rfl]
      obtain ⟨v, hv⟩ := lk_key.mp (any_key.mp h)
      rw [hv]
      rfl
    · rw [if_neg e, if_neg e]
  · rw [if_neg h, lk_app]
    by_cases e : k = y
    · subst e
      rw [if_pos rfl]
      cases hv : lkI D k with
      | none => simp
      | some v => exact (h (any_key.mpr (lk_key.mpr ⟨v, hv⟩))).elim
    · rw [if_neg e, if_neg e]
      cases lkI D y <;> rfl
theorem put_nd {D : List (Str × Int)} {k : Str} {i : Int} (nd : (D.map (·.1)).Nodup) : ((putI D k i).map (·.1)).Nodup := by
  unfold putI
  by_cases h : (D.any fun a => decide (a.1 = k)) = true
  · rw [if_pos h, List.map_map]
    have e : ((fun x : Str × Int => x.1) ∘ fun a : Str × Int => if a.1 = k then (a.1, i) else a) = fun a => a.1 := funext fun a => by
      show (if a.1 = k then (a.1, i) else a).1 = a.1
      split <;> rfl
    rw [e]
    exact nd
  · rw [if_neg h, List.map_append]
    exact List.nodup_append.mpr ⟨nd, by simp, fun a ha b hb e => by rw [e, List.mem_singleton.mp hb] at ha; exact h (any_key.mpr ha)⟩
theorem put_len (D : List (Str × Int)) (k : Str) (i : Int) : (putI D k i).length ≤ D.length + 1 := by
  unfold putI
  split
  · rw [List.length_map]
    omega
  · rw [List.length_append]
    exact Nat.le_refl _
/-- the least of what there is and a new one, at most c -/
theorem Mn.put {E L : List (Str × Int)} {o : Str} {u c : Int} (h : ∀ y, Mn (lkI E y) (fun v => (y, v) ∈ L)) (hu : u ≤ c) (y : Str) : Mn (lkI (putI E o (if (lkI E o).getD c < u then (lkI E o).getD c else u)) y) (fun v => (y, v) ∈ L ++ [(o, u)]) := by
  rw [lk_put]
  by_cases e : o = y
  · subst e
    rw [if_pos rfl]
    have h' := h o
    have lt : ∀ v, (o, v) ∈ L ++ [(o, u)] ↔ (o, v) ∈ L ∨ v = u := fun v => by
      rw [List.mem_append, List.mem_singleton]
      exact or_congr Iff.rfl ⟨fun z => congrArg Prod.snd z, fun z => by rw [z]⟩
    cases hk : lkI E o with
    | none =>
      rw [hk] at h'
      show Mn (some (if c < u then c else u)) _
      rw [if_neg (by omega)]
      exact ⟨(lt u).mpr (.inr rfl), fun v hv => ((lt v).mp hv).elim (fun z => (h' v z).elim) fun z => by omega⟩
    | some v0 =>
      rw [hk] at h'
      obtain ⟨a1, a2⟩ : (o, v0) ∈ L ∧ ∀ v, (o, v) ∈ L → v0 ≤ v := h'
      show Mn (some (if v0 < u then v0 else u)) _
      by_cases z : v0 < u
      · rw [if_pos z]
        exact ⟨(lt v0).mpr (.inl a1), fun v hv => ((lt v).mp hv).elim (a2 v) fun z => by omega⟩
      · rw [if_neg z]
        exact ⟨(lt u).mpr (.inr rfl), fun v hv => ((lt v).mp hv).elim (fun k => by have := a2 v k; omega) fun z => by omega⟩
  · rw [if_neg e]
    refine (h y).congr fun v => ?_
    rw [List.mem_append, List.mem_singleton]
    exact ⟨.inl, fun z => z.elim id fun z => (e (congrArg Prod.fst z).symm).elim⟩
/-- what is there behind a letter, pair by pair -/
def contr (m : List (Arc × Int)) (l : Str) (p : Str × Int) : List (Str × Int) := (stepsL m p.1 l).map fun q => (q.1, p.2 + q.2)
theorem contr_cd {m : List (Arc × Int)} {l : Str} {D : List (Str × Int)} (nd : (D.map (·.1)).Nodup) (y : Str) (u : Int) : (y, u) ∈ D.flatMap (contr m l) ↔ Cd m l (lkI D) y u := by
  rw [List.mem_flatMap]
  constructor
  · rintro ⟨p, hp, h⟩
    obtain ⟨q, hq, e⟩ := List.mem_map.mp h
    cases e
    exact ⟨_, mem_steps.mp hq, rfl, rfl, p.2, (lk_mem nd).mpr hp, rfl⟩
  · rintro ⟨a, ha, h1, h2, c, hc, e⟩
    refine ⟨(a.1.1, c), (lk_mem nd).mp hc, List.mem_map.mpr ⟨(a.1.2.2, a.2), mem_steps.mpr ?_, ?_⟩⟩
    · rw [← h1]
      exact ha
    · rw [h2, e]
theorem contr_take (m : List (Arc × Int)) (l : Str) {D : List (Str × Int)} {i : Nat} (hi : i < D.length) : (D.take (i + 1)).flatMap (contr m l) = (D.take i).flatMap (contr m l) ++ contr m l D[i] := by
  rw [List.take_add_one, List.getElem?_eq_getElem hi, List.flatMap_append]
  simp
theorem steps_priced {fs ls : List Str} {m : List (Arc × Int)} (g : Gm fs ls m) {s l : Str} {q : Str × Int} (h : q ∈ stepsL m s l) : 0 ≤ q.2 ∧ q.2 ≤ 9 := price_in (g.an _ (mem_steps.mp h)).2
def Bd (L : List (Str × Int)) (c : Int) : Prop := ∀ p ∈ L, 0 ≤ p.2 ∧ p.2 ≤ c
theorem Bd.put {E L : List (Str × Int)} {c : Int} (h : ∀ y, Mn (lkI E y) (fun v => (y, v) ∈ L)) (nd : (E.map (·.1)).Nodup) (b : Bd L c) : Bd E c := fun p hp => by
  have h1 := h p.1
  rw [(lk_mem nd).mpr (show (p.1, p.2) ∈ E from hp)] at h1
  exact b _ h1.1
theorem ys_name {fs ls ys : List Str} {m : List (Arc × Int)} (g : Gm fs ls m) (so : Sorted ys (fs ++ ls ++ innA m)) {x : Str} (hx : x ∈ ys) : isName (.str x) = true := by
  rcases List.mem_append.mp ((so.mem x).mp hx) with h | h
  · rcases List.mem_append.mp h with h | h
    · exact names_all g.fn x h
    · exact names_all g.ln x h
  · obtain ⟨a, ha, e⟩ := inn_mem.mp h
    obtain ⟨p1, p2, p3⟩ := place_of (g.an a ha).1
    rcases e with rfl | rfl
    · exact p1
    · exact p3
/-- the signs of a text -/
def tsOf (t : Str) : List Str := t.cps.toList.map fun c => (⟨#[c]⟩ : Str)
theorem ts_len (t : Str) : (tsOf t).length = t.cps.size := by
  unfold tsOf
  rw [List.length_map, Array.length_toList]
theorem ts_at {t : Str} {i c : Nat} (h : t.cps[i]? = some c) : (tsOf t)[i]? = some ⟨#[c]⟩ := by
  unfold tsOf
  rw [List.getElem?_map, Array.getElem?_toList, h]
  rfl
theorem merge_id {kvs : List (Key × V)} (nd : (kvs.map (·.1)).Nodup) : mergeK [] kvs = kvs := by
  have go : ∀ (kvs acc : List (Key × V)), ((acc ++ kvs).map (·.1)).Nodup → mergeK acc kvs = acc ++ kvs := by
    intro kvs
    induction kvs with
    | nil => intro acc _; rw [List.append_nil]; rfl
    | cons p kvs ih =>
      intro acc nd
      have e : putK acc p.1 p.2 = acc ++ [p] := put_new fun q hq e => by
        rw [List.map_append, List.nodup_append] at nd
        exact nd.2.2 _ (List.mem_map.mpr ⟨q, hq, rfl⟩) p.1 (by rw [List.map_cons]; exact List.mem_cons_self) e
      show mergeK (putK acc p.1 p.2) kvs = _
      rw [e, ih _ (by rw [List.append_assoc]; exact nd), List.append_assoc]
      rfl
  exact go kvs [] nd
theorem encI_nd {D : List (Str × Int)} (nd : (D.map (·.1)).Nodup) : ((encI D).map (·.1)).Nodup := by
  have e : (encI D).map (·.1) = (D.map (·.1)).map Sum.inr := by
    unfold encI
    rw [List.map_map, List.map_map]
    rfl
  rw [e]
  exact List.Pairwise.map Sum.inr (fun a b h e => h (Sum.inr.inj e)) nd
theorem refs_of {F : Nat → Addr → Prop} : ∀ {ys : List V} {k : Nat}, (∀ (i : Nat) y, ys[i]? = some y → ∃ t, y = .ref t ∧ F (k + i) t) → ∃ ps : List Addr, ys = ps.map V.ref ∧ ∀ (i : Nat) t, ps[i]? = some t → F (k + i) t
  | [], _, _ => ⟨[], rfl, fun i t h => by simp at h⟩
  | y :: ys, k, h => by
    obtain ⟨t, rfl, ht⟩ := h 0 y rfl
    obtain ⟨ps, rfl, hp⟩ := refs_of (F := F) (ys := ys) (k := k + 1) fun i y hy => by
      have := h (i + 1) y (by rw [List.getElem?_cons_succ]; exact hy)
      rwa [Nat.add_assoc, Nat.add_comm 1 i]
    refine ⟨t :: ps, rfl, fun i t' hi => ?_⟩
    cases i with
    | zero => cases hi; exact ht
    | succ i =>
      have := hp i t' (by rw [List.getElem?_cons_succ] at hi; exact hi)
      rwa [Nat.add_assoc, Nat.add_comm 1 i] at this
theorem paired_ix {α β : Type} {F : α → β → Prop} : ∀ {xs : List α} {ys : List β}, xs.length = ys.length → (∀ (i : Nat) x y, xs[i]? = some x → ys[i]? = some y → F x y) → Paired F xs ys
  | [], [], _, _ => .nil
  | x :: xs, y :: ys, hl, h => .cons (h 0 x y rfl rfl) (paired_ix (Nat.succ.inj hl) fun i a b ha hb => h (i + 1) a b (by rw [List.getElem?_cons_succ]; exact ha) (by rw [List.getElem?_cons_succ]; exact hb))
/-- the pairs of a comprehension -/
theorem lc_pairs {J : It} {n : Nat} {G : Hp → Prop} {Y : Nat → Hp → V → Hp → Prop} (W : Walk J n G Y) {g : TG} {te : TE} {vs : List Nat} {σ : St} {H : Hp} {Q : VK} (f g2 : Nat → V)
    (hG : ∀ H1, Same H H1 → G H1) (hn : n ≤ 1000000)
    (he : ∀ i x H1 H2, i < n → Same H H1 → Y i H1 x H2 → ∀ R : VK, (∀ t H3, Same H1 H3 → H3 t = some (.tup [f i, g2 i]) → R (.ref t) H3) → g x (wipe σ vs) H2 fun σ2 H3 => wipe σ2 vs = wipe σ vs ∧ te σ2 H3 R)
    (q : ∀ p (ps : List Addr) H2, H p = none → Same H H2 → H2 p = some (.lst (ps.map V.ref)) → ps.length = n → (∀ i t, ps[i]? = some t → H2 t = some (.tup [f i, g2 i])) → Q (.ref p) H2) : LcLoop J g tYes te vs σ H Q := by
  refine lc_rel W (fun i y H' => ∃ t, y = .ref t ∧ H' t = some (.tup [f i, g2 i])) (fun i y H1 H2 nl ⟨t, e, h⟩ => ⟨t, e, nl _ _ (fun xs z => nomatch z) h⟩) hG hn (fun i x H1 H2 hi sm hy R hR => he i x H1 H2 hi sm hy R fun t H3 s3 h3 => hR _ _ s3 ⟨t, rfl, h3⟩) fun p ys H2 hp sm hl hlen hr => ?_
  obtain ⟨ps, rfl, hps⟩ := refs_of (F := fun i t => H2 t = some (.tup [f i, g2 i])) (k := 0) fun i y hy => by rw [Nat.zero_add]; exact hr i y hy
  exact q p ps H2 hp sm hl (by rw [← hlen, List.length_map]) fun i t ht => by have := hps i t ht; rwa [Nat.zero_add] at this
end
theorem contr_in {ys : List Str} {m : List (Arc × Int)} {l : Str} {d p : Str × Int} (hm : ∀ x ∈ innA m, x ∈ ys) (h : p ∈ contr m l d) : p.1 ∈ ys := by
  obtain ⟨q, hq, rfl⟩ := List.mem_map.mp h
  exact hm _ (inn_mem.mpr ⟨_, mem_steps.mp hq, .inr rfl⟩)
theorem E_few {E L : List (Str × Int)} {ys : List Str} (h : ∀ y, Mn (lkI E y) (fun v => (y, v) ∈ L)) (nd : (E.map (·.1)).Nodup) (hl : ∀ p ∈ L, p.1 ∈ ys) : E.length ≤ ys.length := by
  have k := nd_sub_len nd fun y hy => by
    obtain ⟨v, hv⟩ := lk_key.mp hy
    have h1 := h y
    rw [hv] at h1
    exact hl _ h1.1
  rw [List.length_map] at k
  exact k
theorem getD_int (o : Option Int) (c : Int) : (o.map V.int).getD (.int c) = .int (o.getD c) := by cases o <;> rfl
def zeros (fs : List Str) : List (Str × Int) := fs.map fun y => (y, 0)
theorem zeros_keys (fs : List Str) : (zeros fs).map (·.1) = fs := by
  unfold zeros
  rw [List.map_map]
  exact (List.map_congr_left fun _ _ => rfl).trans (List.map_id fs)
theorem lk_zeros (fs : List Str) (y : Str) : lkI (zeros fs) y = val0 fs y := by
  unfold val0 zeros
  induction fs with
  | nil => rfl
  | cons a fs ih =>
    rw [List.map_cons, lk_cons, ih]
    by_cases h : a = y
    · rw [if_pos h, if_pos (by rw [h]; exact List.mem_cons_self)]
    · rw [if_neg h]
      by_cases h2 : y ∈ fs
      · rw [if_pos h2, if_pos (List.mem_cons_of_mem _ h2)]
      · rw [if_neg h2, if_neg fun z => (List.mem_cons.mp z).elim (fun e => h e.symm) h2]
section
variable {P : Program} {w : World} {K : PySem.W.Frag} {mg : Str → Option Value} {base : Heap} {Z : Ad}
def spSpread (C : Addr) : Sp := fun vs H Q _ => ∃ (x : Addr) (t : Str) (fs ls : List Str) (m : List (Arc × Int)), vs = [.ref x, .str t] ∧ MacO C H x fs ls m ∧ (∀ c ∈ tsOf t, isLetter (.str c) = true) ∧ t.cps.size ≤ 1000 ∧
  ∀ p D H', Same H H' → H p = none → H' p = some (.dK (encI D)) → (D.map (·.1)).Nodup → (∀ y, lkI D y = valT fs m (tsOf t) y) → Q (.ref p) H'
theorem ok_spread (D : Ds K mg Z) (B : Bt mg) (C0 : Cs mg) : FnOk P w K mg base CX0 4 Z.a_spread Z.d_spread P_spread (spSpread Z.c_Machine) := by
  have G_Machine_firsts := ok_Machine_firsts (P := P) (w := w) (base := base) D B C0
  have G_Machine_steps := ok_Machine_steps (P := P) (w := w) (base := base) D B C0
  obtain ⟨⟨t_LIMIT, c_LIMIT⟩, ⟨t_ALPHABET, c_ALPHABET⟩, ⟨t_MAX_LETTERS, c_MAX_LETTERS⟩, ⟨t_MAX_STATES, c_MAX_STATES⟩, ⟨t_MAX_PRICE, c_MAX_PRICE⟩, ⟨t_FIRST, c_FIRST⟩, ⟨t_LAST, c_LAST⟩, ⟨t_ARC, c_ARC⟩⟩ := C0
  refine D.spread.F.ok sc_spread (fun vs H Q E h => ?_) (fun cdv A outer s H vs Q E hr h => ?_)
  · obtain ⟨x, t, fs, ls, m, rfl, _⟩ := h
    rfl
  · obtain ⟨x, t, fs, ls, m, rfl, mo, hc, ht, q⟩ := h
    refine ⟨_, (pss_cons (ps_set (i := 2) sc_spread.nd rfl (Or.inl rfl) (pe_callTy (call_dictP rfl) (by rfl) B.dict (by decide +kernel) (pa_cons (pe_lc (own := [("_law_state", 3)]) (g := gName 3) rfl sc_spread.nd (pi_tupK (K := K) rfl (pe_pr D.Machine D.Machine_firsts G_Machine_firsts (hr.mono (by decide)) (pv 0))) (blkOk_by (N := N_spread) (sc := defScope s_spread) (by decide +kernel)) (fun _ _ _ _ _ => (pg_name (i := 3) sc_spread.nd rfl (Or.inl rfl))) (fun _ _ _ _ _ => pts_nil) (fun _ _ _ _ _ => (pe_tup (pa_cons (pv 3) (pa_cons pe_int pa_nil))))) pa_nil)))
    (pss_cons (ps_for PassesOwn.never rfl (pi_str (pv 1)) (pg_name (i := 4) sc_spread.nd rfl (Or.inl rfl))
      (pss_cons (ps_set (i := 5) sc_spread.nd rfl (Or.inl rfl) pe_dnewK)
    (pss_cons (ps_lock (ps_for PassesOwn.never rfl (pi_keys (pv 2)) (pg_name (i := 3) sc_spread.nd rfl (Or.inl rfl))
      (pss_one (ps_for PassesOwn.never rfl (pi_tupK (K := K) rfl (pe_mt D.Machine D.Machine_steps G_Machine_steps (hr.mono (by decide)) (pv 0) (pa_cons (pv 3) (pa_cons (pv 4) pa_nil)))) (pg_tupK (K := K) (n := 2) rfl rfl (pgs_cons (pg_name (i := 6) sc_spread.nd rfl (Or.inl rfl)) (pgs_cons (pg_name (i := 7) sc_spread.nd rfl (Or.inl rfl)) pgs_nil)))
      (pss_one (ps_dput (hu_of hr) (pv 5) (pv 6) (pe_callB (call_min2 rfl) (by rfl) B.min (by decide +kernel) (pa_cons (pe_op op_add (pe_dget (hu_of hr) (pv 2) (pv 3) (fun _ _ => rfl)) (pv 7)) (pa_cons (pe_dget2 (hu_of hr) (pv 5) (pv 6) (pe_op op_pow pe_int pe_int) ⟨rfl, rfl, rfl, rfl⟩) pa_nil))) rfl))))))
    (pss_one (ps_set (i := 2) sc_spread.nd rfl (Or.inl rfl) (pe_dictItems rfl (pv 5) (by rfl) B.dict (by decide +kernel)))))))
    (pss_one (ps_ret (pv 2))))), ?_⟩
    obtain ⟨dx, da, f, lk, ln, st, sp, ys, ws, h1, h2, h3, h4, h5, h6, h7, h8, h9, h10⟩ := id mo
    walk_at "rd"
    refine ⟨dx, _, h1, x, fs, ls, m, rfl, mo, fun f' hf' => ⟨f', rfl, ⟨_, SqT.of hf'⟩, ?_⟩⟩
    have ndf := asc_nd (names_asc h10.fn)
    have sm := h10.small
    have lf : (fs.map V.str).length = fs.length := List.length_map ..
    refine lc_pairs (walk_tup (K := K) (a := f') (xs := fs.map V.str)) (fun i => ((fs.map V.str)[i]?).getD .non) (fun _ => .int 0) (fun H1 e1 => SqT.of (e1 _ _ hf')) (by omega) (fun i v H1 H2 hi e1 y R hR => ?_) fun pl ps H1 hpl e1 hl1 hlen hps => ?_
    · obtain ⟨rfl, hv⟩ := y
      simp only [hv, Option.getD_some] at hR
      walk_at "rd"
      exact ⟨by decide, fun t1 k1 => hR _ _ (Same.new k1) upd_same⟩
    · have pr : Paired (fun p kv => SqT K H1 p [kV kv.1, kv.2]) ps (encI (zeros fs)) := by
        refine paired_ix (by unfold encI zeros; rw [hlen, List.length_map, List.length_map, List.length_map]) fun i p kv hp hk => ?_
        have h := hps i p hp
        unfold encI zeros at hk
        rw [List.map_map, List.getElem?_map] at hk
        obtain ⟨y, hy, rfl⟩ := Option.map_eq_some_iff.mp hk
        rw [List.getElem?_map, hy] at h
        exact SqT.of h
      refine ⟨pl, rfl, ps, SqL.of hl1, _, pr, fun p hp => ?_⟩
      have nd0 : ((zeros fs).map (·.1)).Nodup := by rw [zeros_keys]; exact ndf
      rw [merge_id (encI_nd nd0)]
      have hp0 := none_of e1 hp
      have s1 := e1.trans (Same.new (o := HO.dK (encI (zeros fs))) hp)
      have hp1 : upd H1 p (HO.dK (encI (zeros fs))) p = some (.dK (encI (zeros fs))) := upd_same
      generalize upd H1 p (HO.dK (encI (zeros fs))) = H2 at s1 hp1 ⊢
      clear pr hps hl1 e1 hp hlen hpl hf'
      have tl := ts_len t
      walk_at "go"
      obtain ⟨Pv, hP⟩ := inv_bi (fun (i : Nat) (σ : St) (H' : Hp) => ∃ (o3 o4 o5 o6 o7 : Option V) (p : Addr) (D : List (Str × Int)), σ = [some (.ref x), some (.str t), some (.ref p), o3, o4, o5, o6, o7] ∧ Same H H' ∧ H p = none ∧ H' p = some (.dK (encI D)) ∧ (D.map (·.1)).Nodup ∧ (∀ y, lkI D y = valT fs m ((tsOf t).take i) y) ∧ Bd D (9 * (i : Int)))
      refine loop_it (walk_str (z := t)) Pv ((hP _ _ _).mpr ⟨_, _, _, _, _, p, _, rfl, s1, hp0, hp1, nd0, fun y => ?_, fun q hq => ?_⟩) (fun i σ H' _ h => trivial) (fun i v σ H3 H4 hi hpv yy => ?_) (fun σ H3 hpv => ?_)
      · rw [List.take_zero, lk_zeros]
        rfl
      · obtain ⟨y, _, rfl⟩ := List.mem_map.mp hq
        exact ⟨Int.le_refl _, Int.le_refl _⟩
      · obtain ⟨o3, o4, o5, o6, o7, p, D, rfl, s3, hp0, hp3, ndd, lkd, bd⟩ := (hP _ _ _).mp hpv
        obtain ⟨rfl, c, hcz, rfl⟩ := yy
        have htc := ts_at hcz
        have nl := hc _ (List.mem_of_getElem? htc)
        have fin := fun o3 o4 o5 o6 o7 p D H' (h1 : Same H H') (h2 : H p = none) (h3 : H' p = some (.dK (encI D))) (h4 : (D.map (·.1)).Nodup) (h5 : ∀ y, lkI D y = valT fs m ((tsOf t).take (i + 1)) y) (h6 : Bd D (9 * ((i + 1 : Nat) : Int))) => (hP (i + 1) [some (.ref x), some (.str t), some (.ref p), o3, o4, o5, o6, o7] H').mpr ⟨o3, o4, o5, o6, o7, p, D, rfl, h1, h2, h3, h4, h5, h6⟩
        clear hP hpv
        walk_at "rd"
        walk_at "go"
        intro pe hpe
        have pe0 := none_of s3 hpe
        have nep : pe ≠ p := fun e => by rw [e, hp3] at hpe; cases hpe
        have s4 := s3.trans (Same.new (o := HO.dK []) hpe)
        have hpe4 : upd H4 pe (HO.dK []) pe = some (.dK (encI [])) := upd_same
        replace hp3 := Same.new (o := HO.dK []) hpe _ _ hp3
        generalize upd H4 pe (HO.dK []) = H5 at s4 hpe4 hp3 ⊢
        clear s3 hpe
        walk_at "go"
        refine ⟨p, _, hp3, trivial, fun od => ?_⟩
        have s5 : Same H (upd H5 p (HO.frz od (HO.dK (encI D)))) := Same.lay s4 hp0
        have hA : upd H5 p (HO.frz od (HO.dK (encI D))) p = some (.frz od (.dK (encI D))) := upd_same
        have hpe5 : upd H5 p (HO.frz od (HO.dK (encI D))) pe = some (.dK (encI [])) := by rw [upd_ne nep]; exact hpe4
        generalize upd H5 p (HO.frz od (HO.dK (encI D))) = H6 at s5 hA hpe5 ⊢
        walk_at "rd"
        refine ⟨od, .inl ⟨_, rfl, ?_⟩⟩
        obtain ⟨Pu, hU⟩ := inv_bi (fun (j : Nat) (σ : St) (H' : Hp) => ∃ (o3 o6 o7 : Option V) (E : List (Str × Int)), σ = [some (.ref x), some (.str t), some (.ref p), o3, some (.str ⟨#[c]⟩), some (.ref pe), o6, o7] ∧ Same H H' ∧ H' p = some (.frz od (.dK (encI D))) ∧ H' pe = some (.dK (encI E)) ∧ (E.map (·.1)).Nodup ∧ ∀ y, Mn (lkI E y) (fun v => (y, v) ∈ (D.take j).flatMap (contr m ⟨#[c]⟩)))
        refine loop_it (walk_keys (d := p) (o := od) (kvs := encI D)) Pu ((hU _ _ _).mpr ⟨_, _, _, [], rfl, s5, hA, hpe5, .nil, fun y v hv => by cases hv⟩) (fun j σ H' _ h => by obtain ⟨_, _, _, _, _, _, h, _⟩ := (hU _ _ _).mp h; exact h) (fun j v σ H7 H8 hj hpu yy => ?_) (fun σ H7 hpu => ?_)
        · obtain ⟨o3, o6, o7, E, rfl, s7, hp7, he7, nde, mne⟩ := (hU _ _ _).mp hpu
          obtain ⟨rfl, k, v, hkv, rfl⟩ := yy
          unfold encI at hkv
          rw [List.getElem?_map] at hkv
          obtain ⟨⟨s, c0⟩, hD, e⟩ := Option.map_eq_some_iff.mp hkv
          cases e
          have hj2 : j < D.length := (List.getElem?_eq_some_iff.mp hD).1
          have eD : D[j] = (s, c0) := (List.getElem?_eq_some_iff.mp hD).2
          have ct := contr_take m ⟨#[c]⟩ hj2
          rw [eD] at ct
          have hs0 : lkI D s = some c0 := (lk_mem ndd).mpr (List.mem_of_getElem? hD)
          have hsy : s ∈ ys := val_in (so_inSt h7).f (so_inSt h7).m _ s c0 ((lkd s).symm.trans hs0)
          have ns := ys_name h10 h7 hsy
          have up := fun o3 o6 o7 E H' (h1 : Same H H') (h2 : H' p = some (.frz od (.dK (encI D)))) (h3 : H' pe = some (.dK (encI E))) (h4 : (E.map (·.1)).Nodup) (h5 : ∀ y, Mn (lkI E y) (fun v => (y, v) ∈ (D.take j).flatMap (contr m ⟨#[c]⟩) ++ contr m ⟨#[c]⟩ (s, c0))) => (hU (j + 1) [some (.ref x), some (.str t), some (.ref p), o3, some (.str ⟨#[c]⟩), some (.ref pe), o6, o7] H').mpr ⟨o3, o6, o7, E, rfl, h1, h2, h3, h4, by rw [ct]; exact h5⟩
          clear hU hpu hkv
          walk_at "rd"
          walk_at "go"
          refine ⟨dx, _, Same.slt s7 h1, x, s, ⟨#[c]⟩, fs, ls, ys, m, rfl, mo.same s7, h7, hsy, ns, nl, fun tt rs H9 e9 ht9 pr9 => ⟨tt, rfl, ⟨_, SqT.of ht9⟩, ?_⟩⟩
          have s9 := s7.trans e9
          replace hp7 := e9 _ _ hp7
          replace he7 := e9 _ _ he7
          have nte : tt ≠ pe := fun e => by rw [e, he7] at ht9; cases ht9
          have lr : (rs.map V.ref).length = (stepsL m s ⟨#[c]⟩).length := by rw [List.length_map, ← Paired.length pr9]
          have inm := (so_inSt h7).m
          have h0 : ∀ p ∈ (D.take j).flatMap (contr m ⟨#[c]⟩), p.1 ∈ ys := fun p hp => by
            obtain ⟨d, _, h⟩ := List.mem_flatMap.mp hp
            exact contr_in inm h
          generalize (D.take j).flatMap (contr m ⟨#[c]⟩) = L0 at mne up ct h0
          have b0 := bd _ (List.mem_of_getElem? hD)
          have few := h10.few _ h7
          obtain ⟨Pw, hW⟩ := inv_bi (fun (k : Nat) (σ : St) (H' : Hp) => ∃ (o6 o7 : Option V) (E : List (Str × Int)), σ = [some (.ref x), some (.str t), some (.ref p), some (kV (Sum.inr s)), some (.str ⟨#[c]⟩), some (.ref pe), o6, o7] ∧ Same H H' ∧ (∀ b o, b ≠ pe → H9 b = some o → H' b = some o) ∧ H' pe = some (.dK (encI E)) ∧ (E.map (·.1)).Nodup ∧ ∀ y, Mn (lkI E y) (fun v => (y, v) ∈ L0 ++ ((stepsL m s ⟨#[c]⟩).take k).map fun q => (q.1, c0 + q.2)))
          refine loop_it (walk_tup (K := K) (a := tt) (xs := rs.map V.ref)) Pw ((hW _ _ _).mpr ⟨_, _, E, rfl, s9, fun _ _ _ h => h, he7, nde, fun y => (mne y).congr fun v => by rw [List.take_zero, List.map_nil, List.append_nil]⟩) (fun k σ H' _ h => by obtain ⟨_, _, _, _, _, h, _⟩ := (hW _ _ _).mp h; exact SqT.of (h _ _ nte ht9)) (fun k v σ H10 H11 hk hpw yy => ?_) (fun σ H10 hpw => ?_)
          · obtain ⟨o6, o7, E, rfl, s10, k10, he10, nde, mne⟩ := (hW _ _ _).mp hpw
            obtain ⟨rfl, ev⟩ := yy
            rw [lr] at hk
            obtain ⟨r, hr, hrt⟩ := paired_get pr9 (List.getElem?_eq_getElem hk)
            rw [List.getElem?_map, hr] at ev
            cases ev
            have nre : r ≠ pe := fun e => by rw [e, he7] at hrt; cases hrt
            have hr10 := k10 _ _ nre hrt
            have hp10 := k10 _ _ nep.symm hp7
            have tk : ((stepsL m s ⟨#[c]⟩).take (k + 1)).map (fun q => (q.1, c0 + q.2)) = ((stepsL m s ⟨#[c]⟩).take k).map (fun q => (q.1, c0 + q.2)) ++ [((stepsL m s ⟨#[c]⟩)[k].1, c0 + (stepsL m s ⟨#[c]⟩)[k].2)] := by
              rw [List.take_add_one, List.getElem?_eq_getElem hk, List.map_append]
              rfl
            have hst : (stepsL m s ⟨#[c]⟩)[k] ∈ stepsL m s ⟨#[c]⟩ := List.getElem_mem hk
            have pr := steps_priced h10 hst
            have elen : E.length ≤ 24 := Nat.le_trans (E_few mne nde fun p hp => by
              rcases List.mem_append.mp hp with h | h
              · exact h0 p h
              · obtain ⟨q, hq, rfl⟩ := List.mem_map.mp h
                exact inm _ (inn_mem.mpr ⟨_, mem_steps.mp (List.mem_of_mem_take hq), .inr rfl⟩)) few
            have wp := fun o6 o7 E H' (h1 : Same H H') (h2 : ∀ b o, b ≠ pe → H9 b = some o → H' b = some o) (h3 : H' pe = some (.dK (encI E))) (h4 : (E.map (·.1)).Nodup) (h5 : ∀ y, Mn (lkI E y) (fun v => (y, v) ∈ L0 ++ ((stepsL m s ⟨#[c]⟩).take k).map (fun q => (q.1, c0 + q.2)) ++ [((stepsL m s ⟨#[c]⟩)[k].1, c0 + (stepsL m s ⟨#[c]⟩)[k].2)])) => (hW (k + 1) [some (.ref x), some (.str t), some (.ref p), some (kV (Sum.inr s)), some (.str ⟨#[c]⟩), some (.ref pe), o6, o7] H').mpr ⟨o6, o7, E, rfl, h1, h2, h3, h4, by rw [tk, ← List.append_assoc]; exact h5⟩
            clear hW hpw tk
            generalize (stepsL m s ⟨#[c]⟩)[k] = q1 at *
            generalize ((stepsL m s ⟨#[c]⟩).take k).map (fun q => (q.1, c0 + q.2)) = L1 at *
            walk_at "rd"
            refine ⟨_, SqT.of hr10, rfl, _, _, rfl, _, _, rfl, rfl, ?_⟩
            walk_at "go"
            have gD : DGet H11 p (kV (.inr s)) (some (.int c0)) := .inl ⟨_, _, .inr ⟨od, hp10⟩, rfl, by rw [val_encI, hs0]; rfl⟩
            have gE : DGet H11 pe (.str q1.1) ((lkI E q1.1).map V.int) := by rw [← val_encI]; exact DGet.k (k := Sum.inr q1.1) he10
            refine ⟨_, gD, c0, rfl, .inl ⟨_, .inl he10⟩, ⟨by decide, by decide⟩, _, gE, (lkI E q1.1).getD (10 ^ 9), getD_int _ _, ?_⟩
            have le : (encI E).length < sizeLine := by unfold encI; rw [List.length_map]; exact Nat.lt_of_le_of_lt elen (by decide)
            refine ⟨_, DPut.k (k := Sum.inr q1.1) he10 le, ?_⟩
            rw [putI_enc]
            refine wp _ _ (putI E q1.1 (if (lkI E q1.1).getD (10 ^ 9) < c0 + q1.2 then (lkI E q1.1).getD (10 ^ 9) else c0 + q1.2)) _ (Same.lay s10 pe0) (fun b o nb hb => by rw [upd_ne nb]; exact k10 b o nb hb) upd_same (put_nd nde) (Mn.put mne ?_)
            have z1 := b0.2
            have z2 := pr.2
            show c0 + q1.2 ≤ 1000000000
            have z3 : c0 ≤ 9 * (i : Int) := z1
            omega
          · obtain ⟨o6, o7, E, rfl, s10, k10, he10, nde, mne⟩ := (hW _ _ _).mp hpw
            rw [lr, List.take_length] at mne
            exact up _ _ _ E _ s10 (k10 _ _ nep.symm hp7) he10 nde mne
        · obtain ⟨o3, o6, o7, E, rfl, s7, hp7, he7, nde, mne⟩ := (hU _ _ _).mp hpu
          show _ ∧ _
          refine ⟨hp7, ?_⟩
          walk_at "go"
          have le : (encI D).length = D.length := List.length_map ..
          rw [le, List.take_length] at mne
          have s8 := Same.lay (o := HO.dK (encI D)) s7 hp0
          refine ⟨encI E, by rw [upd_ne nep]; exact he7, fun l hl => ?_⟩
          rw [merge_id (encI_nd nde)]
          have hl0 := none_of s8 hl
          refine fin _ _ _ _ _ l E _ (Same.lay s8 hl0) hl0 upd_same nde (fun y => ?_) ?_
          · have e := val_snoc fs m (show i < (tsOf t).length by rw [tl]; exact hi)
            have eg : (tsOf t)[i]'(by rw [tl]; exact hi) = ⟨#[c]⟩ := (List.getElem?_eq_some_iff.mp htc).2
            rw [e, eg]
            refine (mne y).uniq (step_mn m ⟨#[c]⟩ _ y) fun u => (contr_cd ndd y u).trans ?_
            have ef : lkI D = valT fs m ((tsOf t).take i) := funext lkd
            rw [ef]
          · refine Bd.put mne nde fun p hp => ?_
            obtain ⟨d, hd, h⟩ := List.mem_flatMap.mp hp
            obtain ⟨q, hq, rfl⟩ := List.mem_map.mp h
            have z1 := bd d hd
            have z2 := steps_priced h10 hq
            show 0 ≤ d.2 + q.2 ∧ d.2 + q.2 ≤ _
            push_cast
            omega
      · obtain ⟨o3, o4, o5, o6, o7, p, D, rfl, s3, hp0, hp3, ndd, lkd, bd⟩ := (hP _ _ _).mp hpv
        rw [← tl, List.take_length] at lkd
        have qq := q p D H3 s3 hp0 hp3 ndd lkd
        walk_at "gg"
end
section
variable {K : PySem.W.Frag}
/-! ### lists of pairs, sorted -/
def PrT (H : Hp) (t : Addr) (d : Str × Int) : Prop := H t = some (.tup [.str d.1, .int d.2])
theorem dp_pr {H : Hp} {t : Addr} {d : Str × Int} (h : PrT H t d) : Dp K H (.ref t) (dP d) := .tup (SqT.of h) (.cons (.str _) (.cons (.int _) .nil))
theorem dps_pr {H : Hp} : ∀ {ts : List Addr} {ds : List (Str × Int)}, Paired (PrT H) ts ds → DpAll K H (ts.map V.ref) (ds.map dP)
  | _, _, .nil => .nil
  | _, _, .cons h t => .cons (dp_pr h) (dps_pr t)
theorem lay_pr : ∀ {ds : List (Str × Int)}, (∀ d ∈ ds, PyData.strOk d.1 = true) → PyData.canLayAll0 (ds.map dP) = true
  | [], _ => rfl
  | d :: ds, h => by
    rw [List.map_cons, PyData.canLayAll0, lay_pr fun x hx => h x (List.mem_cons_of_mem _ hx)]
    have e : PyData.canLay0 (dP d) = true := by
      simp only [dP, PyData.canLay0, PyData.canLayAll0, Bool.and_true]
      exact h d List.mem_cons_self
    rw [e]
    rfl
theorem dep_pr : ∀ ds : List (Str × Int), PyData.depthAll (ds.map dP) ≤ 1
  | [] => Nat.zero_le _
  | d :: ds => by
    rw [List.map_cons, PyData.depthAll]
    have e : PyData.depth (dP d) = 1 := rfl
    have := dep_pr ds
    rw [e]
    omega
theorem shaped_pr {ds : List (Str × Int)} (h : ∀ d ∈ ds, PyData.strOk d.1 = true) : SeqAt.shaped (.tuple (ds.map dP)) = true := by
  unfold SeqAt.shaped
  rw [PyData.canLay0, lay_pr h, PyData.depth]
  have := dep_pr ds
  rw [Bool.true_and, decide_eq_true_eq]
  omega
def encT (H : Hp) : V → PyData
  | .ref t => (match H t with
    | some (.tup [.str a, .int b]) => dP (a, b)
    | _ => .none)
  | _ => .none
theorem encT_at {H : Hp} {t : Addr} {d : Str × Int} (h : PrT H t d) : encT H (.ref t) = dP d := by
  simp only [encT, show H t = some (.tup [.str d.1, .int d.2]) from h]
theorem paired_zip {α β : Type} {F : α → β → Prop} : ∀ {xs : List α} {ys : List β}, Paired F xs ys → (∀ q ∈ xs.zip ys, F q.1 q.2) ∧ (xs.zip ys).map (·.1) = xs ∧ (xs.zip ys).map (·.2) = ys
  | _, _, .nil => ⟨(fun q h => by cases h), rfl, rfl⟩
  | _, _, .cons h t => by
    obtain ⟨a, b, c⟩ := paired_zip t
    refine ⟨fun q hq => ?_, ?_, ?_⟩
    · rcases List.mem_cons.mp hq with rfl | hq
      · exact h
      · exact a q hq
    · rw [List.zip_cons_cons, List.map_cons, b]
    · rw [List.zip_cons_cons, List.map_cons, c]
theorem paired_of {α β : Type} {F : α → β → Prop} : ∀ {qs : List (α × β)}, (∀ q ∈ qs, F q.1 q.2) → Paired F (qs.map (·.1)) (qs.map (·.2))
  | [], _ => .nil
  | q :: qs, h => .cons (h q List.mem_cons_self) (paired_of fun x hx => h x (List.mem_cons_of_mem _ hx))
theorem paired_flip {α β : Type} {F : α → β → Prop} : ∀ {xs : List α} {ys : List β}, Paired F xs ys → Paired (fun y x => F x y) ys xs
  | _, _, .nil => .nil
  | _, _, .cons h t => .cons h (paired_flip t)
theorem sort_prs {H : Hp} {p : Addr} {ts : List Addr} {ds : List (Str × Int)} {R : VK} (hp : H p = some (.lst (ts.map V.ref))) (pr : Paired (PrT H) ts ds)
    (q : ∀ l (rs : List Addr), H l = none → Paired (PrT H) rs (sortP ds) → R (.ref l) (upd H l (.lst (rs.map V.ref)))) : rSortL K [.ref p] H R := by
  obtain ⟨all, e1, e2⟩ := paired_zip pr
  generalize ts.zip ds = qs at all e1 e2
  subst e1 e2
  have s1 : ((qs.map (·.1)).map V.ref).mergeSort (PySem.W.dataLe false (encT H)) = ((qs.mergeSort fun a b => leP a.2 b.2).map (·.1)).map V.ref := by
    rw [List.map_map, List.map_map]
    refine (List.map_mergeSort fun a ha b hb => ?_).symm
    show PySem.W.dataLe false dP a.2 b.2 = PySem.W.dataLe false (encT H) (V.ref a.1) (V.ref b.1)
    unfold PySem.W.dataLe PySem.W.sortLe
    simp only [encT_at (all a ha), encT_at (all b hb)]
  have s2 : sortP (qs.map (·.2)) = (qs.mergeSort fun a b : Addr × Str × Int => leP a.2 b.2).map (·.2) := by
    unfold sortP
    exact (List.map_mergeSort (f := fun x : Addr × Str × Int => x.2) (r := fun a b : Addr × Str × Int => leP a.2 b.2) (s := leP) (l := qs) fun a ha b hb => rfl).symm
  refine ⟨p, _, encT H, rfl, hp, fun v hv => ?_, fun d hd d' hd' => ?_, .inl fun d hd => ?_, fun v hv => ?_, fun l hl => ?_⟩
  · rw [List.map_map] at hv
    obtain ⟨x, hx, rfl⟩ := List.mem_map.mp hv
    show Dp K H (V.ref x.1) (encT H (V.ref x.1))
    rw [encT_at (all x hx)]
    exact dp_pr (all x hx)
  · rw [List.map_map, List.map_map] at hd hd'
    obtain ⟨x, hx, rfl⟩ := List.mem_map.mp hd
    obtain ⟨y, hy, rfl⟩ := List.mem_map.mp hd'
    show PySem.W.alike (encT H (V.ref x.1)) (encT H (V.ref y.1)) = true
    rw [encT_at (all x hx), encT_at (all y hy)]
    simp [dP, PySem.W.alike, PySem.W.alikeAll]
  · rw [List.map_map, List.map_map] at hd
    obtain ⟨x, hx, rfl⟩ := List.mem_map.mp hd
    exact ⟨_, _, encT_at (all x hx)⟩
  · rw [List.map_map] at hv
    obtain ⟨x, hx, rfl⟩ := List.mem_map.mp hv
    show (encT H (V.ref x.1)).depth ≤ 4
    rw [encT_at (all x hx)]
    exact Nat.le_of_ble_eq_true rfl
  · rw [s1]
    refine q l _ hl ?_
    rw [s2]
    exact paired_of fun x hx => all x (List.mem_mergeSort.mp hx)
end
theorem MacO.nl {C : Addr} {H H' : Hp} {x : Addr} {fs ls : List Str} {m : List (Arc × Int)} (e : NL H H') (h : MacO C H x fs ls m) : MacO C H' x fs ls m := by
  obtain ⟨dx, da, f, l, ln, st, sp, ys, ws, h1, h2, h3, h4, h5, h6, h7, h8, h9, h10⟩ := h
  obtain ⟨a1, a2⟩ := slt_at h1
  exact ⟨dx, da, f, l, ln, st, sp, ys, ws, .inr ⟨e _ _ (fun _ z => nomatch z) a1, e _ _ (fun _ z => nomatch z) a2⟩, e _ _ (fun _ z => nomatch z) h2, e _ _ (fun _ z => nomatch z) h3, e _ _ (fun _ z => nomatch z) h4, e _ _ (fun _ z => nomatch z) h5, e _ _ (fun _ z => nomatch z) h6, h7,
    e _ _ (fun _ z => nomatch z) h8, h9.mono (fun b ys hb => e _ _ (fun _ z => nomatch z) hb), h10⟩
theorem Dk.nl {d : Addr} {H H' : Hp} {x y z : Int} (hd : H d = some (.lst [.int x, .int y, .int z])) (k : Dk d H H') : NL H H' := fun b o n hb => k.1 b o (fun e => by rw [e, hd] at hb; cases hb; exact n _ rfl) hb
/-! texts of one sign each, put together -/
theorem ts_push {acc sep : Array Nat} {p : Str} (hs : sep = #[]) (hp : p.cps.size = 1) : tsOf ⟨acc ++ sep ++ p.cps⟩ = tsOf ⟨acc⟩ ++ [p] := by
  obtain ⟨c, hc⟩ : ∃ c, p.cps = #[c] := Array.size_eq_one_iff.mp hp
  unfold tsOf
  rw [hs, Array.append_empty, Array.toList_append, List.map_append, hc]
  show _ ++ [(⟨#[c]⟩ : Str)] = _ ++ [p]
  rw [← hc]
theorem ts_fold {sep : Str} (hs : sep.cps = #[]) : ∀ (l : List Str) (acc : Array Nat), (∀ z ∈ l, z.cps.size = 1) → tsOf ⟨l.foldl (fun acc p => acc ++ sep.cps ++ p.cps) acc⟩ = tsOf ⟨acc⟩ ++ l
  | [], acc, _ => (List.append_nil _).symm
  | p :: l, acc, h => by
    rw [List.foldl_cons, ts_fold hs l _ fun z hz => h z (List.mem_cons_of_mem _ hz), ts_push hs (h p List.mem_cons_self), List.append_assoc]
    rfl
theorem ts_join {sep : Str} (hs : sep.cps = #[]) {zs : List Str} (h : ∀ z ∈ zs, z.cps.size = 1) : tsOf (Txt.join sep zs) = zs := by
  cases zs with
  | nil => rfl
  | cons p l =>
    show tsOf ⟨l.foldl (fun acc p => acc ++ sep.cps ++ p.cps) p.cps⟩ = p :: l
    rw [ts_fold hs l _ fun z hz => h z (List.mem_cons_of_mem _ hz)]
    have e := ts_push (acc := #[]) (sep := #[]) (p := p) rfl (h p List.mem_cons_self)
    have e2 : (#[] ++ #[] ++ p.cps : Array Nat) = p.cps := by rw [Array.append_empty, Array.empty_append]
    rw [e2] at e
    rw [e]
    rfl
def AAB : List Str := [Str.ofString "a", Str.ofString "a", Str.ofString "b"]
theorem aab_eq : ((Str.ofString "aab").cps.toList.map fun c => V.str ⟨#[c]⟩) = AAB.map V.str := by decide +kernel
theorem aab_ok : ∀ z ∈ AAB, isLetter (.str z) = true ∧ z.cps.size = 1 := by decide +kernel
section
variable {P : Program} {w : World} {K : PySem.W.Frag} {mg : Str → Option Value} {base : Heap} {Z : Ad}
def spPair (C : Addr) : Sp := fun vs H Q _ => ∃ (d x x2 e : Addr) (a b c : Int) (fs ls ys : List Str) (m : List (Arc × Int)) (im : List (Str × Str)), vs = [.ref d, .ref x, .ref x2, .ref e] ∧ H d = some (.lst [.int a, .int b, .int c]) ∧ MacO C H x fs ls (sortA m) ∧
  MacO C H x2 (sortS (fs.map (apN im))) (sortS (ls.map (apN im))) (sortA (rnA (apN im) m)) ∧ Gm fs ls m ∧ Sorted ys (fs ++ ls ++ innA m) ∧ H e = some (.dK (encN im)) ∧ Rn ys im ∧ ∀ H', Dk d H H' → Q (.bl true) H'
theorem ok_pair_right (D : Ds K mg Z) (B : Bt mg) (C0 : Cs mg) : FnOk P w K mg base CX0 5 Z.a_pair_right Z.d_pair_right P_pair_right (spPair Z.c_Machine) := by
  have G_Machine_states := ok_Machine_states (P := P) (w := w) (base := base) D B C0
  have G_Machine_letters := ok_Machine_letters (P := P) (w := w) (base := base) D B C0
  have G_Machine_steps := ok_Machine_steps (P := P) (w := w) (base := base) D B C0
  have G_roll := ok_roll (P := P) (w := w) (base := base) D B
  have G_pick := ok_pick (P := P) (w := w) (base := base) D B
  have G_spread := ok_spread (P := P) (w := w) (base := base) D B C0
  obtain ⟨⟨t_LIMIT, c_LIMIT⟩, ⟨t_ALPHABET, c_ALPHABET⟩, ⟨t_MAX_LETTERS, c_MAX_LETTERS⟩, ⟨t_MAX_STATES, c_MAX_STATES⟩, ⟨t_MAX_PRICE, c_MAX_PRICE⟩, ⟨t_FIRST, c_FIRST⟩, ⟨t_LAST, c_LAST⟩, ⟨t_ARC, c_ARC⟩⟩ := C0
  refine D.pair_right.F.ok sc_pair_right (fun vs H Q E h => ?_) (fun cdv A outer s H vs Q E hr h => ?_)
  · obtain ⟨d, x, x2, e, a, b, c, fs, ls, ys, m, im, rfl, _⟩ := h
    rfl
  · obtain ⟨d, x, x2, e, a, b, c, fs, ls, ys, m, im, rfl, hd, mo, mp, gm, so, he, rn, q⟩ := h
    refine ⟨_, (pss_cons (ps_for PassesOwn.never rfl (pi_tupK (K := K) rfl (pe_pr D.Machine D.Machine_states G_Machine_states (hr.mono (by decide)) (pv 1))) (pg_name (i := 4) sc_pair_right.nd rfl (Or.inl rfl))
      (pss_one (ps_for PassesOwn.never rfl (pi_tupK (K := K) rfl (pe_op op_catA (pe_pr D.Machine D.Machine_letters G_Machine_letters (hr.mono (by decide)) (pv 1)) (pe_tup (pa_cons pe_str pa_nil)))) (pg_name (i := 5) sc_pair_right.nd rfl (Or.inl rfl))
      (pss_cons (ps_set (i := 6) sc_pair_right.nd rfl (Or.inl rfl) (pe_callB (cr_sortL (K := K) rfl hr.units) (by rfl) B.sorted (by decide +kernel) (pa_cons (pe_lc (own := [("_law_other", 7), ("_law_price", 8)]) rfl sc_pair_right.nd (pi_tupK (K := K) rfl (pe_mt D.Machine D.Machine_steps G_Machine_steps (hr.mono (by decide)) (pv 1) (pa_cons (pv 4) (pa_cons (pv 5) pa_nil)))) (blkOk_by (N := N_pair_right) (sc := defScope s_pair_right) (by decide +kernel)) (fun _ _ _ _ _ => (pg_tupK (K := K) (n := 2) rfl rfl (pgs_cons (pg_name (i := 7) sc_pair_right.nd rfl (Or.inl rfl)) (pgs_cons (pg_name (i := 8) sc_pair_right.nd rfl (Or.inl rfl)) pgs_nil)))) (fun _ _ _ _ _ => pts_nil) (fun _ _ _ _ _ => (pe_tup (pa_cons (pe_dget (hu_of hr) (pv 3) (pv 7) (fun _ _ => rfl)) (pa_cons (pv 8) pa_nil))))) pa_nil)))
    (pss_one (ps_if (pt_cmpR (op_neK (K := K) rfl hr.units) (pe_mt D.Machine D.Machine_steps G_Machine_steps (hr.mono (by decide)) (pv 2) (pa_cons (pe_dget (hu_of hr) (pv 3) (pv 4) (fun _ _ => rfl)) (pa_cons (pv 5) pa_nil))) (pe_callTy call_tupM (by rfl) B.tuple (by decide +kernel) (pa_cons (pv 6) pa_nil)) (nomark _)) (pss_one (ps_ret pe_bl)) pss_nil))))))
    (pss_cons (ps_for PassesOwn.never rfl (pi_range1 (by rfl) B.range (pa_cons pe_int pa_nil)) (pg_name (i := 9) sc_pair_right.nd rfl (Or.inl rfl))
      (pss_cons (ps_set (i := 10) sc_pair_right.nd rfl (Or.inl rfl) (pe_sm PySem.F.plainAttrs_str PySem.F.slot_str_join PySem.F.type_str_join (mt_joinK (K := K) rfl) pe_str (pa_cons (pe_lc (own := [("_law_step", 11)]) (g := gName 11) rfl sc_pair_right.nd (pi_range1 (by rfl) B.range (pa_cons (pe_df D.roll G_roll (hr.mono (by decide)) (by rfl) (pa_cons (pv 0) (pa_cons pe_int pa_nil))) pa_nil)) (blkOk_by (N := N_pair_right) (sc := defScope s_pair_right) (by decide +kernel)) (fun _ _ _ _ _ => (pg_name (i := 11) sc_pair_right.nd rfl (Or.inl rfl))) (fun _ _ _ _ _ => pts_nil) (fun _ _ _ _ _ => (pe_df D.pick G_pick (hr.mono (by decide)) (by rfl) (pa_cons (pv 0) (pa_cons pe_str pa_nil))))) pa_nil)))
    (pss_cons (ps_set (i := 12) sc_pair_right.nd rfl (Or.inr rfl) (pe_df D.spread G_spread (hr.mono (by decide)) (by rfl) (pa_cons (pv 1) (pa_cons (pv 10) pa_nil))))
    (pss_one (ps_if (pt_cmpR (op_ne_dictA (Nat.lt_of_succ_lt (hu_of hr))) (pe_df D.spread G_spread (hr.mono (by decide)) (by rfl) (pa_cons (pv 2) (pa_cons (pv 10) pa_nil))) (pe_callTy (call_dictP rfl) (by rfl) B.dict (by decide +kernel) (pa_cons (pe_lock (pe_lc (own := [("_law_state", 4)]) (g := gName 4) rfl sc_pair_right.nd (pi_keys (pv 12)) (blkOk_by (N := N_pair_right) (sc := defScope s_pair_right) (by decide +kernel)) (fun _ _ _ _ _ => (pg_name (i := 4) sc_pair_right.nd rfl (Or.inl rfl))) (fun _ _ _ _ _ => pts_nil) (fun _ _ _ _ _ => (pe_tup (pa_cons (pe_dget (hu_of hr) (pv 3) (pv 4) (fun _ _ => rfl)) (pa_cons (pe_dget (hu_of hr) (pv 12) (pv 4) (fun _ _ => rfl)) pa_nil)))))) pa_nil)) (nomark _)) (pss_one (ps_ret pe_bl)) pss_nil)))))
    (pss_one (ps_ret pe_bl)))), ?_⟩
    walk_at "rd"
    have sos : ∀ k, k ∈ fs ++ ls ++ innA (sortA m) ↔ k ∈ fs ++ ls ++ innA m := fun k => by
      rw [List.mem_append (t := innA (sortA m)), List.mem_append (t := innA m), inn_mem, inn_mem]
      exact or_congr Iff.rfl ⟨fun ⟨a, ha, e⟩ => ⟨a, (sort_perm m).mem_iff.mp ha, e⟩, fun ⟨a, ha, e⟩ => ⟨a, (sort_perm m).mem_iff.mpr ha, e⟩⟩
    have inS := so_inSt so
    have gms := gm.perm (sort_perm m).symm
    obtain ⟨dx, da, f, lk, ln, st, sp, ysx, ws, h1, h2, h3, h4, h5, h6, h7, h8, h9, h10⟩ := id mo
    obtain ⟨dx2, da2, f2, lk2, ln2, st2, sp2, ys2, ws2, g1, g2, g3, g4, g5, g6, g7, g8, g9, g10⟩ := id mp
    have so7 : Sorted ys (fs ++ ls ++ innA (sortA m)) := by
      have e := Sorted.uniq h7 so sos
      rw [← e]
      exact h7
    have so_inS7 := (so_inSt so7).m
    have pmA : (sortA (rnA (apN im) m)).Perm (rnA (apN im) (sortA m)) := (sort_perm _).trans (rnA_perm (sort_perm m)).symm
    have pm2 : ys2.Perm (ys.map (apN im)) := so_rn so rn.inj (sort_perm _) g7
    refine ⟨dx, _, h1, x, fs, ls, sortA m, rfl, mo, fun sta ysa hsta soa => ⟨sta, rfl, ⟨_, SqT.of hsta⟩, ?_⟩⟩
    have esa : ysa = ys := Sorted.uniq soa so7 (fun _ => Iff.rfl)
    subst esa
    obtain ⟨Pv, hP⟩ := inv_bi (fun (i : Nat) (σ : St) (H' : Hp) => ∃ (o4 o5 o6 : Option V), σ = [some (.ref d), some (.ref x), some (.ref x2), some (.ref e), o4, o5, o6, none, none, none, none, none, none] ∧ Same H H')
    refine loop_it (walk_tup (K := K) (a := sta) (xs := ysa.map V.str)) Pv ((hP _ _ _).mpr ⟨_, _, _, rfl, Same.refl _⟩) (fun i σ H' _ h => by obtain ⟨_, _, _, _, h⟩ := (hP _ _ _).mp h; exact SqT.of (h _ _ hsta)) (fun i v σ H1 H2 hi hpv yy => ?_) (fun σ H1 hpv => ?_)
    · obtain ⟨o4, o5, o6, rfl, s1⟩ := (hP _ _ _).mp hpv
      obtain ⟨rfl, ev⟩ := yy
      rw [List.getElem?_map] at ev
      obtain ⟨s0, hs0, rfl⟩ := Option.map_eq_some_iff.mp ev
      have hsy := List.mem_of_getElem? hs0
      have fin := fun o4 o5 o6 H' (h : Same H H') => (hP (i + 1) [some (.ref d), some (.ref x), some (.ref x2), some (.ref e), o4, o5, o6, none, none, none, none, none, none] H').mpr ⟨o4, o5, o6, rfl, h⟩
      clear hP hpv
      walk_at "rd"
      walk_at "go"
      refine ⟨dx, _, Same.slt s1 h1, x, fs, ls, sortA m, rfl, mo.same s1, fun pz zs H3 e3 soz hpz => ?_⟩
      walk_at "rd"
      refine ⟨by decide, fun pq hpq => ?_⟩
      have s3 := s1.trans e3
      have s4 := s3.trans (Same.new (o := HO.tup [V.str (Str.ofString "z")]) hpq)
      have hq4 : upd H3 pq (HO.tup [V.str (Str.ofString "z")]) pq = some (.tup ([Str.ofString "z"].map V.str)) := upd_same
      have hz4 := Same.new (o := HO.tup [V.str (Str.ofString "z")]) hpq _ _ hpz
      generalize upd H3 pq (HO.tup [V.str (Str.ofString "z")]) = H4 at s4 hq4 hz4 ⊢
      clear s3 hpq e3 s1 hpz
      have lets : ∀ l ∈ zs ++ [Str.ofString "z"], isLetter (.str l) = true := fun l hl => by
        rcases List.mem_append.mp hl with h | h
        · obtain ⟨a, ha, rfl⟩ := List.mem_map.mp ((soz.mem l).mp h)
          exact (place_of (gms.an a ha).1).2.1
        · rw [List.mem_singleton.mp h]
          decide +kernel
      have zl : zs.length ≤ 2000 := by
        have h := nd_sub_len soz.nd (nm := (sortA m).map fun a => a.1.2.1) fun y hy => (soz.mem y).mp hy
        have sm := gms.small
        rw [List.length_map] at h
        omega
      have cat : ∀ R : VK, (∀ pc H5, Same H H5 → H5 pc = some (.tup ((zs ++ [Str.ofString "z"]).map V.str)) → R (.ref pc) H5) → rCatA K (V.ref pz) (V.ref pq) H4 R := fun R hR => by
        refine ⟨pz, pq, _, _, rfl, rfl, SqT.of hz4, SqT.of hq4, ?_, fun h => ?_, fun _ h => (by cases h), fun _ _ p hp => ?_⟩
        · rw [List.length_map, List.length_map]
          exact Nat.le_trans (show zs.length + 1 ≤ 2001 by omega) (by decide)
        · have e : zs = [] := List.map_eq_nil_iff.mp h
          refine hR pq H4 s4 ?_
          rw [e, List.nil_append]
          exact hq4
        · refine hR p _ (s4.trans (Same.new hp)) ?_
          rw [List.map_append]
          exact upd_same
      refine cat _ fun pc H5 s5 hc5 => ⟨pc, rfl, ⟨_, SqT.of hc5⟩, ?_⟩
      clear cat hq4 hz4 s4
      obtain ⟨Pu, hU⟩ := inv_bi (fun (j : Nat) (σ : St) (H' : Hp) => ∃ (o5 o6 : Option V), σ = [some (.ref d), some (.ref x), some (.ref x2), some (.ref e), some (.str s0), o5, o6, none, none, none, none, none, none] ∧ Same H5 H')
      refine loop_it (walk_tup (K := K) (a := pc) (xs := (zs ++ [Str.ofString "z"]).map V.str)) Pu ((hU _ _ _).mpr ⟨_, _, rfl, Same.refl _⟩) (fun j σ H' _ h => by obtain ⟨_, _, _, h⟩ := (hU _ _ _).mp h; exact SqT.of (h _ _ hc5)) (fun j v σ H6 H7 hj hpu yy => ?_) (fun σ H6 hpu => ?_)
      · obtain ⟨o5, o6, rfl, s6⟩ := (hU _ _ _).mp hpu
        obtain ⟨rfl, ev2⟩ := yy
        rw [List.getElem?_map] at ev2
        obtain ⟨l, hl, rfl⟩ := Option.map_eq_some_iff.mp ev2
        have nl := lets l (List.mem_of_getElem? hl)
        have up := fun o5 o6 H' (h : Same H5 H') => (hU (j + 1) [some (.ref d), some (.ref x), some (.ref x2), some (.ref e), some (.str s0), o5, o6, none, none, none, none, none, none] H').mpr ⟨o5, o6, rfl, h⟩
        clear hU hpu
        have s7 := s5.trans s6
        have ns := ys_name gms so7 hsy
        walk_at "rd"
        walk_at "go"
        refine ⟨dx, _, Same.slt s7 h1, x, s0, l, fs, ls, ysa, sortA m, rfl, mo.same s7, so7, hsy, ns, nl, fun tt rs H8 e8 ht8 pr8 => ⟨tt, rfl, ⟨_, SqT.of ht8⟩, ?_⟩⟩
        have s8 := s7.trans e8
        have s68 := s6.trans e8
        have lr : (rs.map V.ref).length = (stepsL (sortA m) s0 l).length := by rw [List.length_map, ← Paired.length pr8]
        have kin : ∀ q ∈ stepsL (sortA m) s0 l, q.1 ∈ im.map (·.1) := fun q hq => rn.key ((so_inSt so7).m _ (inn_mem.mpr ⟨_, mem_steps.mp hq, .inr rfl⟩))
        have nmo : ∀ q ∈ stepsL (sortA m) s0 l, isName (.str (apN im q.1)) = true := fun q hq => rn.name ((so_inSt so7).m _ (inn_mem.mpr ⟨_, mem_steps.mp hq, .inr rfl⟩))
        have sl : (stepsL (sortA m) s0 l).length ≤ 2000 := by
          unfold stepsL
          rw [List.length_map]
          have h := List.length_filter_le (fun a : Arc × Int => decide (a.1.1 = s0) && decide (a.1.2.1 = l)) (sortA m)
          have sm := gms.small
          omega
        have due := steps_due rn.inj inS.m gm.nd hsy (l := l)
        generalize stepsL (sortA m) s0 l = sq at pr8 lr kin nmo sl due
        refine lc_pairs (walk_tup (K := K) (a := tt) (xs := rs.map V.ref)) (fun i => match sq[i]? with | some q => .str (apN im q.1) | none => .non) (fun i => match sq[i]? with | some q => .int q.2 | none => .non) (fun H1 e1 => SqT.of (e1 _ _ ht8)) (by omega) (fun i v H9 H10 hi e9 y R hR => ?_) fun pl ps H9 hpl e9 hl9 hlen hps => ?_
        · obtain ⟨rfl, hv⟩ := y
          have hi2 : i < sq.length := by omega
          obtain ⟨r, hr, hrt⟩ := paired_get pr8 (List.getElem?_eq_getElem hi2)
          rw [List.getElem?_map, hr] at hv
          cases hv
          rw [List.getElem?_eq_getElem hi2] at hR
          have kq := kin _ (List.getElem_mem hi2)
          generalize sq[i] = q1 at *
          walk_at "rd"
          refine ⟨_, SqT.of (e9 _ _ hrt), rfl, _, _, rfl, _, _, rfl, rfl, ?_⟩
          walk_at "rd"
          exact ⟨_, getN (e9 _ _ (s8 _ _ he)) kq, by decide, fun p hp => hR _ _ (Same.new hp) upd_same⟩
        · have pr : Paired (PrT H9) ps (sq.map fun q => (apN im q.1, q.2)) := by
            refine paired_ix (by rw [hlen, lr, List.length_map]) fun i t d ht hd => ?_
            have h := hps i t ht
            rw [List.getElem?_map] at hd
            obtain ⟨q1, hq1, rfl⟩ := Option.map_eq_some_iff.mp hd
            rw [hq1] at h
            exact h
          refine sort_prs hl9 pr fun pd rs2 hpd pr2 => ?_
          have s9 := (s8.trans e9).trans (Same.new (o := HO.lst (rs2.map V.ref)) hpd)
          have s69 := (s68.trans e9).trans (Same.new (o := HO.lst (rs2.map V.ref)) hpd)
          have hpd9 : upd H9 pd (HO.lst (rs2.map V.ref)) pd = some (.lst (rs2.map V.ref)) := upd_same
          have pr3 := paired_mono (G := PrT (upd H9 pd (HO.lst (rs2.map V.ref)))) (fun _ _ h => Same.new hpd _ _ h) pr2
          generalize upd H9 pd (HO.lst (rs2.map V.ref)) = H10 at s9 s69 hpd9 pr3 ⊢
          walk_at "go"
          have he10 := s9 _ _ he
          rw [due] at pr3
          have oks : ∀ q ∈ stepsL (sortA (rnA (apN im) m)) (apN im s0) l, PyData.strOk q.1 = true := fun q hq => by
            rw [← due] at hq
            obtain ⟨q0, hq0, rfl⟩ := List.mem_map.mp (List.mem_mergeSort.mp hq)
            exact name_ok (nmo _ hq0)
          refine ⟨dx2, _, Same.slt s9 g1, _, getN he10 (rn.key hsy), x2, apN im s0, l, sortS (fs.map (apN im)), sortS (ls.map (apN im)), ys2, sortA (rnA (apN im) m), rfl, mp.same s9, g7, pm2.mem_iff.mpr (List.mem_map.mpr ⟨s0, hsy, rfl⟩), rn.name hsy, nl, fun t2 rs3 H11 e11 ht2 pr4 => ⟨_, e11 _ _ hpd9, fun l1 hl1 => ?_⟩⟩
          refine ne_same (d := .tuple ((stepsL (sortA (rnA (apN im) m)) (apN im s0) l).map dP)) (.tup (SqT.of (Same.new hl1 _ _ ht2)) (dps_pr (paired_mono (fun _ _ h => Same.new hl1 _ _ h) (paired_flip pr4)))) (.tup (SqT.of upd_same) (dps_pr (paired_mono (fun _ _ h => Same.new hl1 _ _ (e11 _ _ h)) pr3))) (shaped_pr oks) ⟨false, rfl, ?_⟩
          have fin2 := up (some (.str l)) (some (.ref pd)) _ ((s69.trans e11).trans (Same.new (o := HO.tup (rs2.map V.ref)) hl1))
          rw [if_neg Bool.false_ne_true]
          walk_at "gg"
      · obtain ⟨o5, o6, rfl, s6⟩ := (hU _ _ _).mp hpu
        exact fin _ _ _ _ (s5.trans s6)
    · obtain ⟨o4, o5, o6, rfl, s1⟩ := (hP _ _ _).mp hpv
      walk_at "go"
      walk_at "go"
      obtain ⟨Pw, hW⟩ := inv_bi (fun (i : Nat) (σ : St) (H' : Hp) => ∃ (o4 o5 o6 o9 o10 o12 : Option V), σ = [some (.ref d), some (.ref x), some (.ref x2), some (.ref e), o4, o5, o6, none, none, o9, o10, none, o12] ∧ Dk d H H')
      refine ⟨by decide, by decide, ?_⟩
      refine loop_it (walk_range (lo := 0) (n := Int.toNat 3)) Pw ((hW _ _ _).mpr ⟨_, _, _, _, _, _, rfl, Dk.of hd s1⟩) (fun i σ H' _ h => trivial) (fun i v σ H2 H3 hi hpw yy => ?_) (fun σ H2 hpw => ?_)
      · obtain ⟨o4, o5, o6, o9, o10, o12, rfl, dk⟩ := (hW _ _ _).mp hpw
        obtain ⟨rfl, rfl⟩ := yy
        have fin := fun o4 o5 o6 o9 o10 o12 H' (h : Dk d H H') => (hW (i + 1) [some (.ref d), some (.ref x), some (.ref x2), some (.ref e), o4, o5, o6, none, none, o9, o10, none, o12] H').mpr ⟨o4, o5, o6, o9, o10, o12, rfl, h⟩
        clear hW hpw hP hpv
        obtain ⟨a2, b2, c2, hd2⟩ := dk.2
        walk_at "rd"
        walk_at "go"
        refine ⟨d, a2, b2, c2, 7, rfl, hd2, by decide, by decide, fun r a3 b3 c3 r0 r7 => ⟨r, rfl, by omega, by omega, fun L hL => ?_⟩⟩
        have dk3 := dk.trans (Dk.roll a3 b3 c3)
        have hd4 : upd H3 d (HO.lst [.int a3, .int b3, .int c3]) d = some (.lst [.int a3, .int b3, .int c3]) := upd_same
        generalize upd H3 d (HO.lst [.int a3, .int b3, .int c3]) = H4 at dk3 hd4 hL ⊢
        have nLd : L ≠ d := Dk.ne hd4 hL
        have hL0 := dk3.none nLd hL
        refine lc_range (lo := 0) (n := r.toNat) (fun k H' => Dk d H H' ∧ ∃ zs : List Str, H' L = some (.lst (zs.map V.str)) ∧ zs.length = k ∧ ∀ z ∈ zs, isLetter (.str z) = true ∧ z.cps.size = 1) ⟨dk3.lay hL0 nLd, [], upd_same, rfl, fun z hz => by cases hz⟩ ?_ ?_
        · rintro k H5 hk ⟨dk5, zs, hz, lz, okz⟩
          obtain ⟨a5, b5, c5, hd5⟩ := dk5.2
          walk_at "rd"
          refine ⟨d, a5, b5, c5, _, _, rfl, hd5, .inr ⟨_, rfl, rfl⟩, by decide +kernel, by decide +kernel, fun v5 hv5 x5 y5 z5 => ?_⟩
          rw [aab_eq] at hv5
          obtain ⟨s5, hs5, rfl⟩ := List.mem_map.mp hv5
          refine ⟨zs.map V.str, by rw [upd_ne nLd]; exact hz, ?_, (dk5.trans (Dk.roll x5 y5 z5)).lay hL0 nLd, zs ++ [s5], ?_, ?_, ?_⟩
          · rw [List.length_map, lz]
            exact Nat.lt_of_le_of_lt (show k ≤ 7 by omega) (by decide)
          · rw [List.map_append]
            rfl
          · rw [List.length_append, lz]
            rfl
          · intro z hz
            rcases List.mem_append.mp hz with h | h
            · exact okz z h
            · rw [List.mem_singleton.mp h]
              exact aab_ok _ hs5
        · rintro H5 ⟨dk5, zs, hz, lz, okz⟩
          have hs : (zs.map (fun x => x.length)).sum ≤ 8 * zs.length := sum_le fun z hz => by
            have := (okz z hz).2
            show z.cps.size ≤ 8
            omega
          have e0 : (Str.ofString "").length = 0 := by decide +kernel
          have tsj : tsOf (Txt.join (Str.ofString "") zs) = zs := ts_join (by decide +kernel) fun z hz => (okz z hz).2
          refine ⟨L, rfl, zs, .inl (SqL.of hz), by rw [e0]; omega, ?_⟩
          have sz : (Txt.join (Str.ofString "") zs).cps.size ≤ 1000 := by
            rw [← ts_len, tsj]
            omega
          have lets : ∀ c ∈ tsOf (Txt.join (Str.ofString "") zs), isLetter (.str c) = true := fun c hc => by
            rw [tsj] at hc
            exact (okz c hc).1
          clear tsj hs e0 okz lz hz dk3 hd4 hL hL0 nLd
          generalize Txt.join (Str.ofString "") zs = tx at sz lets ⊢
          walk_at "go"
          refine ⟨x, tx, fs, ls, sortA m, rfl, mo.nl (Dk.nl hd dk5), lets, sz, fun p1 D1 H6 e6 hp1n hp1 nd1 lk1 => ?_⟩
          have dk6 := dk5.same e6
          walk_at "go"
          refine ⟨x2, tx, sortS (fs.map (apN im)), sortS (ls.map (apN im)), sortA (rnA (apN im) m), rfl, mp.nl (Dk.nl hd dk6), lets, sz, fun p2 D2 H7 e7 hp2n hp2 nd2 lk2 => ?_⟩
          have dk7 := dk6.same e7
          have e7x := hp1
          replace hp1 := e7 _ _ hp1
          have rv := val_rn rn.inj inS.f so_inS7 (sortS_perm (fs.map (apN im))) pmA (tsOf tx)
          obtain ⟨ndr, lenr, allr⟩ := told_rn rv rn.inj (val_in inS.f so_inS7 (tsOf tx)) nd1 nd2 lk1 lk2
          have ned : e ≠ d := fun z => by rw [z, hd] at he; cases he
          have he5 := dk5.1 _ _ ned he
          obtain ⟨a5, b5, c5, hd5⟩ := dk5.2
          have n1d : p1 ≠ d := Dk.ne hd5 hp1n
          have hp10 := dk5.none n1d hp1n
          have ne1 : e ≠ p1 := fun z => by rw [← z, he5] at hp1n; cases hp1n
          have he7 := e7 _ _ (e6 _ _ he5)
          have n21 : p2 ≠ p1 := fun z => by rw [z] at hp2n; rw [e7x] at hp2n; cases hp2n
          have kys : ∀ y ∈ D1.map (·.1), y ∈ ysa := fun y hy => by
            obtain ⟨v, hv⟩ := lk_key.mp hy
            exact val_in inS.f so_inS7 (tsOf tx) y v ((lk1 y).symm.trans hv)
          have few := rn.few
          have l24 : D1.length ≤ 24 := by
            have h := nd_sub_len nd1 kys
            rw [List.length_map] at h
            omega
          refine ⟨p1, _, hp1, trivial, fun od => ⟨od, .inl ⟨encI D1, upd_same, ?_⟩⟩⟩
          have hA : upd H7 p1 (HO.frz od (HO.dK (encI D1))) p1 = some (.frz od (.dK (encI D1))) := upd_same
          have heL : upd H7 p1 (HO.frz od (HO.dK (encI D1))) e = some (.dK (encN im)) := by rw [upd_ne ne1]; exact he7
          have hp2L : upd H7 p1 (HO.frz od (HO.dK (encI D1))) p2 = some (.dK (encI D2)) := by rw [upd_ne n21]; exact hp2
          have dkL := dk7.lay (o := HO.frz od (HO.dK (encI D1))) hp10 n1d
          generalize upd H7 p1 (HO.frz od (HO.dK (encI D1))) = H8 at hA heL hp2L dkL ⊢
          have le1 : (encI D1).length = D1.length := List.length_map ..
          refine lc_pairs (walk_keys (d := p1) (o := od) (kvs := encI D1)) (fun i => match D1[i]? with | some q => .str (apN im q.1) | none => .non) (fun i => match D1[i]? with | some q => .int q.2 | none => .non) (fun H1 e1 => e1 _ _ hA) (by omega) (fun j v H9 H10 hj e9 y R hR => ?_) fun pl ps H9 hpl e9 hl9 hlen hps => ?_
          · obtain ⟨rfl, k, v, hkv, rfl⟩ := y
            unfold encI at hkv
            rw [List.getElem?_map] at hkv
            obtain ⟨⟨s5, v5⟩, hD, ee⟩ := Option.map_eq_some_iff.mp hkv
            cases ee
            rw [hD] at hR
            have mem := List.mem_of_getElem? hD
            have gT : DGet H10 p1 (kV (.inr s5)) (some (.int v5)) := .inl ⟨_, _, .inr ⟨od, e9 _ _ hA⟩, rfl, by rw [val_encI, (lk_mem nd1).mpr mem]; rfl⟩
            have gN := getN (e9 _ _ heL) (rn.key (kys s5 (List.mem_map.mpr ⟨_, mem, rfl⟩)))
            walk_at "rd"
            exact ⟨_, gN, _, gT, by decide, fun p hp => hR _ _ (Same.new hp) upd_same⟩
          · refine ⟨e9 _ _ hA, pl, rfl, ps, ?_, encI (rnI (apN im) D1), ?_, fun p3 hp3 => ?_⟩
            · refine SqL.of ?_
              rw [upd_ne (fun z => by rw [z, hA] at hpl; cases hpl)]
              exact hl9
            · refine paired_ix (by unfold encI rnI; rw [hlen, le1, List.length_map, List.length_map]) fun j t kv ht hk => ?_
              have h := hps j t ht
              unfold encI rnI at hk
              rw [List.map_map, List.getElem?_map] at hk
              obtain ⟨y, hy, rfl⟩ := Option.map_eq_some_iff.mp hk
              rw [hy] at h
              refine SqT.of ?_
              rw [upd_ne (fun z => by rw [z, e9 _ _ hA] at h; cases h)]
              exact h
            · rw [merge_id (encI_nd ndr)]
              have dkM := (dkL.same e9).lay (o := HO.dK (encI D1)) hp10 n1d
              have n3d : p3 ≠ d := by
                obtain ⟨a9, b9, c9, hd9⟩ := dkM.2
                exact Dk.ne hd9 hp3
              have dkN := dkM.lay (o := HO.dK (encI (rnI (apN im) D1))) (dkM.none n3d hp3) n3d
              have hp2M : upd H9 p1 (HO.dK (encI D1)) p2 = some (.dK (encI D2)) := by rw [upd_ne n21]; exact e9 _ _ hp2L
              have n23 : p2 ≠ p3 := fun z => by rw [← z, hp2M] at hp3; cases hp3
              refine ⟨p2, p3, encI D2, encI (rnI (apN im) D1), rfl, rfl, by rw [upd_ne n23]; exact hp2M, upd_same, ?_, fun kv hkv => ?_, false, rfl, ?_⟩
              · show (D2.map _).length = (List.map _ (rnI (apN im) D1)).length
                rw [List.length_map, List.length_map]
                exact lenr
              · obtain ⟨q2, hq2, rfl⟩ := List.mem_map.mp hkv
                refine ⟨?_, rfl⟩
                show valV (encI _) (.inr q2.1) = some (V.int q2.2)
                rw [val_encI, allr q2 hq2]
                rfl
              · rw [if_neg Bool.false_ne_true]
                have fin2 := fin o4 o5 o6 (some (.int (i : Int))) (some (.str tx)) (some (.ref p1)) _ dkN
                walk_at "gg"
      · obtain ⟨o4, o5, o6, o9, o10, o12, rfl, dk⟩ := (hW _ _ _).mp hpw
        have qq := q _ dk
        walk_at "gg"
end
section
/-! ### renamings put together, and back -/
theorem ap_map {im : List (Str × Str)} {x y : Str} (nd : (im.map (·.1)).Nodup) (h : (x, y) ∈ im) : apN im x = y := by
  obtain ⟨p, hp, hm, e⟩ := find_in (im := im) (x := x) (List.mem_map.mpr ⟨_, h, rfl⟩)
  have hk : (x, apN im x) ∈ im := ap_mem (List.mem_map.mpr ⟨_, h, rfl⟩)
  have go : ∀ {l : List (Str × Str)}, (l.map (·.1)).Nodup → ∀ p ∈ l, ∀ q ∈ l, p.1 = q.1 → p = q := by
    intro l
    induction l with
    | nil => intro _ p hp; cases hp
    | cons a r ih =>
      intro nd p hp q hq e
      rw [List.map_cons, List.nodup_cons] at nd
      rcases List.mem_cons.mp hp with h1 | h1
      · rcases List.mem_cons.mp hq with h2 | h2
        · rw [h1, h2]
        · exact (nd.1 (List.mem_map.mpr ⟨q, h2, by rw [← e, h1]⟩)).elim
      · rcases List.mem_cons.mp hq with h2 | h2
        · exact (nd.1 (List.mem_map.mpr ⟨p, h1, by rw [e, h2]⟩)).elim
        · exact ih nd.2 p h1 q h2 e
  exact congrArg Prod.snd (go nd _ hk _ h rfl)
theorem Rn.knd {ys : List Str} {im : List (Str × Str)} (h : Rn ys im) : (im.map (·.1)).Nodup := h.keys.nodup_iff.mpr h.nd
theorem Rn.mem {ys : List Str} {im : List (Str × Str)} (h : Rn ys im) {p : Str × Str} (hp : p ∈ im) : p.1 ∈ ys ∧ apN im p.1 = p.2 := ⟨h.keys.mem_iff.mp (List.mem_map.mpr ⟨_, hp, rfl⟩), ap_map h.knd (show (p.1, p.2) ∈ im from hp)⟩
/-- first T, then im -/
def thenN (T im : List (Str × Str)) : List (Str × Str) := T.map fun p => (p.1, apN im p.2)
theorem thenN_keys (T im : List (Str × Str)) : (thenN T im).map (·.1) = T.map (·.1) := by
  unfold thenN
  rw [List.map_map]
  rfl
theorem ap_then {T im : List (Str × Str)} {x : Str} (nd : (T.map (·.1)).Nodup) (hx : x ∈ T.map (·.1)) : apN (thenN T im) x = apN im (apN T x) :=
  ap_map (by rw [thenN_keys]; exact nd) (List.mem_map.mpr ⟨_, ap_mem hx, rfl⟩)
theorem Rn.then {ys zs : List Str} {T im : List (Str × Str)} (h : Rn ys T) (k : Rn zs im) (hv : ∀ x ∈ ys, apN T x ∈ zs) : Rn ys (thenN T im) := by
  refine ⟨by rw [thenN_keys]; exact h.keys, h.nd, ?_, fun p hp => ?_, h.few⟩
  · have e : (thenN T im).map (·.2) = (T.map (·.2)).map (apN im) := by
      unfold thenN
      rw [List.map_map, List.map_map]
      rfl
    rw [e]
    refine nd_map k.inj (fun y hy => ?_) h.vals
    obtain ⟨p, hp, rfl⟩ := List.mem_map.mp hy
    obtain ⟨h1, h2⟩ := h.mem hp
    rw [← h2]
    exact hv _ h1
  · obtain ⟨q, hq, rfl⟩ := List.mem_map.mp hp
    obtain ⟨h1, h2⟩ := h.mem hq
    show isName (.str (apN im q.2)) = true
    rw [← h2]
    exact k.name (hv _ h1)
/-- back -/
def backN (im : List (Str × Str)) : List (Str × Str) := im.map fun p => (p.2, p.1)
theorem backN_keys (im : List (Str × Str)) : (backN im).map (·.1) = im.map (·.2) := by
  unfold backN
  rw [List.map_map]
  rfl
theorem ap_back {ys : List Str} {im : List (Str × Str)} (h : Rn ys im) {x : Str} (hx : x ∈ ys) : apN (backN im) (apN im x) = x :=
  ap_map (by rw [backN_keys]; exact h.vals) (List.mem_map.mpr ⟨_, ap_mem (h.key hx), rfl⟩)
theorem Rn.back {ys zs : List Str} {im : List (Str × Str)} (h : Rn ys im) (pz : zs.Perm (ys.map (apN im))) (nm : ∀ x ∈ ys, isName (.str x) = true) : Rn zs (backN im) := by
  have e : im.map (·.2) = (im.map (·.1)).map (apN im) := by
    rw [List.map_map]
    refine List.map_congr_left fun p hp => ?_
    exact (h.mem hp).2.symm
  refine ⟨?_, pz.nodup_iff.mpr (nd_map h.inj (fun _ k => k) h.nd), ?_, fun p hp => ?_, by rw [pz.length_eq, List.length_map]; exact h.few⟩
  · rw [backN_keys, e]
    exact (h.keys.map _).trans pz.symm
  · have e2 : (backN im).map (·.2) = im.map (·.1) := by
      unfold backN
      rw [List.map_map]
      rfl
    rw [e2]
    exact h.knd
  · obtain ⟨q, hq, rfl⟩ := List.mem_map.mp hp
    exact nm _ (h.mem hq).1
theorem map_fix {xs : List Str} {r : Str → Str} (h : ∀ x ∈ xs, r x = x) : xs.map r = xs := (List.map_congr_left h).trans (List.map_id xs)
theorem rnA_fix {m : List (Arc × Int)} {ys : List Str} {r : Str → Str} (hm : ∀ x ∈ innA m, x ∈ ys) (h : ∀ x ∈ ys, r x = x) : rnA r m = m := by
  unfold rnA
  refine (List.map_congr_left fun a ha => ?_).trans (List.map_id m)
  have h1 := h _ (hm _ (inn_mem.mpr ⟨a, ha, .inl rfl⟩))
  have h2 := h _ (hm _ (inn_mem.mpr ⟨a, ha, .inr rfl⟩))
  show ((r a.1.1, a.1.2.1, r a.1.2.2), a.2) = a
  rw [h1, h2]
theorem rnA_rnA (r q : Str → Str) (m : List (Arc × Int)) : rnA q (rnA r m) = rnA (fun x => q (r x)) m := by
  unfold rnA
  rw [List.map_map]
  rfl
theorem rnA_congr {m : List (Arc × Int)} {ys : List Str} {r q : Str → Str} (hm : ∀ x ∈ innA m, x ∈ ys) (h : ∀ x ∈ ys, r x = q x) : rnA r m = rnA q m := by
  unfold rnA
  refine List.map_congr_left fun a ha => ?_
  rw [h _ (hm _ (inn_mem.mpr ⟨a, ha, .inl rfl⟩)), h _ (hm _ (inn_mem.mpr ⟨a, ha, .inr rfl⟩))]
theorem back_ends {ys xs : List Str} {im : List (Str × Str)} (h : Rn ys im) (hx : ∀ x ∈ xs, x ∈ ys) (asc : ascB xs = true) : sortS ((sortS (xs.map (apN im))).map (apN (backN im))) = xs := by
  have e : (xs.map (apN im)).map (apN (backN im)) = xs := by
    rw [List.map_map]
    exact map_fix fun x hm => ap_back h (hx x hm)
  have p : ((sortS (xs.map (apN im))).map (apN (backN im))).Perm xs := ((sortS_perm _).map _).trans (by rw [e])
  rw [sortS_eq p, sortS_id asc]
theorem back_arcs {ys : List Str} {m : List (Arc × Int)} {im : List (Str × Str)} (h : Rn ys im) (hm : ∀ x ∈ innA m, x ∈ ys) : rnA (apN (backN im)) (rnA (apN im) m) = m := by
  rw [rnA_rnA]
  exact rnA_fix hm fun x hx => ap_back h hx
theorem then_ends {ys xs fs : List Str} {T im : List (Str × Str)} (h : Rn ys T) (hx : ∀ x ∈ xs, x ∈ ys) (e : fs = sortS (xs.map (apN T))) : sortS (fs.map (apN im)) = sortS (xs.map (apN (thenN T im))) := by
  subst e
  refine sortS_eq (((sortS_perm _).map _).trans ?_)
  rw [List.map_map]
  refine List.Perm.of_eq (List.map_congr_left fun x hm => ?_)
  exact (ap_then h.knd (h.key (hx x hm))).symm
theorem then_arcs {ys : List Str} {m m0 : List (Arc × Int)} {T im : List (Str × Str)} (h : Rn ys T) (hm : ∀ x ∈ innA m0, x ∈ ys) (p : m.Perm (rnA (apN T) m0)) : (rnA (apN im) m).Perm (rnA (apN (thenN T im)) m0) := by
  refine (rnA_perm p).trans ?_
  rw [rnA_rnA]
  refine List.Perm.of_eq (rnA_congr hm fun x hx => ?_)
  exact (ap_then h.knd (h.key hx)).symm
/-- names for themselves -/
def sameN (ys : List Str) : List (Str × Str) := ys.map fun y => (y, y)
theorem sameN_keys (ys : List Str) : (sameN ys).map (·.1) = ys := by
  unfold sameN
  rw [List.map_map]
  exact map_fix fun _ _ => rfl
theorem ap_same {ys : List Str} (nd : ys.Nodup) {x : Str} (hx : x ∈ ys) : apN (sameN ys) x = x := ap_map (by rw [sameN_keys]; exact nd) (List.mem_map.mpr ⟨x, hx, rfl⟩)
theorem rn_same {ys : List Str} (nd : ys.Nodup) (nm : ∀ x ∈ ys, isName (.str x) = true) (few : ys.length ≤ 24) : Rn ys (sameN ys) := by
  refine ⟨by rw [sameN_keys], nd, ?_, fun p hp => ?_, few⟩
  · have e : (sameN ys).map (·.2) = ys := by
      unfold sameN
      rw [List.map_map]
      exact map_fix fun _ _ => rfl
    rw [e]
    exact nd
  · obtain ⟨x, hx, rfl⟩ := List.mem_map.mp hp
    exact nm x hx
theorem encN_nd {ys : List Str} {im : List (Str × Str)} (h : Rn ys im) : ((encN im).map (·.1)).Nodup := by
  have e : (encN im).map (·.1) = (im.map (·.1)).map Sum.inr := by
    unfold encN
    rw [List.map_map, List.map_map]
    rfl
  rw [e]
  exact List.Pairwise.map Sum.inr (fun a b h e => h (Sum.inr.inj e)) h.knd
theorem sos_of {fs ls ys : List Str} {m m' : List (Arc × Int)} (p : m.Perm m') (h : Sorted ys (fs ++ ls ++ innA m)) : Sorted ys (fs ++ ls ++ innA m') := sorted_perm p h
theorem paired_mapR {α β γ : Type} {F : α → β → Prop} {G : α → γ → Prop} {f : β → γ} (h : ∀ x y, F x y → G x (f y)) : ∀ {xs : List α} {ys : List β}, Paired F xs ys → Paired G xs (ys.map f)
  | _, _, .nil => .nil
  | _, _, .cons a t => .cons (h _ _ a) (paired_mapR h t)
theorem lc_dict {H : Hp} {d : Addr} {od : Obj} {T : List (Str × Str)} {g : TG} {te : TE} {vs : List Nat} {σ : St} {Q : VK} (f g2 : Str × Str → V) (hA : H d = some (.frz od (.dK (encN T)))) (hn : T.length ≤ 1000000)
    (he : ∀ q ∈ T, ∀ H1, Same H H1 → ∀ R : VK, (∀ t H3, Same H1 H3 → H3 t = some (.tup [f q, g2 q]) → R (.ref t) H3) → g (.str q.1) (wipe σ vs) H1 fun σ2 H3 => wipe σ2 vs = wipe σ vs ∧ te σ2 H3 R)
    (q : ∀ p (ps : List Addr) H2, H p = none → Same H H2 → H2 p = some (.lst (ps.map V.ref)) → Paired (fun t (q : Str × Str) => H2 t = some (.tup [f q, g2 q])) ps T → Q (.ref p) H2) : LcLoop (Itk d od (encN T)) g tYes te vs σ H Q := by
  have le : (encN T).length = T.length := List.length_map ..
  refine lc_pairs (walk_keys (d := d) (o := od) (kvs := encN T)) (fun i => match T[i]? with | some q => f q | none => .non) (fun i => match T[i]? with | some q => g2 q | none => .non) (fun H1 e1 => e1 _ _ hA) (by omega) (fun j v H9 H10 hj e9 y R hR => ?_) fun pl ps H9 hpl e9 hl9 hlen hps => ?_
  · obtain ⟨rfl, k, v, hkv, rfl⟩ := y
    unfold encN at hkv
    rw [List.getElem?_map] at hkv
    obtain ⟨q1, hD, ee⟩ := Option.map_eq_some_iff.mp hkv
    cases ee
    rw [hD] at hR
    exact he q1 (List.mem_of_getElem? hD) H10 e9 R hR
  · refine q pl ps H9 hpl e9 hl9 (paired_ix (by rw [hlen, le]) fun j t q1 ht hk => ?_)
    have h := hps j t ht
    rw [hk] at h
    exact h
end
section
variable {P : Program} {w : World} {K : PySem.W.Frag} {mg : Str → Option Value} {base : Heap} {Z : Ad}
def spRight (C : Addr) : Sp := fun vs H Q _ => ∃ (d : Addr) (a b c : Int), vs = [.ref d] ∧ H d = some (.lst [.int a, .int b, .int c]) ∧ ∀ H', Dk d H H' → Q (.bl true) H'
theorem ok_right (D : Ds K mg Z) (B : Bt mg) (C0 : Cs mg) : FnOk P w K mg base CX0 10 Z.a_right Z.d_right P_right (spRight Z.c_Machine) := by
  have G_any_machine := ok_any_machine (P := P) (w := w) (base := base) D B C0
  have G_made := ok_made (P := P) (w := w) (base := base) D B C0
  have G_Machine_states := ok_Machine_states (P := P) (w := w) (base := base) D B C0
  have G_images := ok_images (P := P) (w := w) (base := base) D B C0
  have G_Machine_renamed := ok_Machine_renamed (P := P) (w := w) (base := base) D B C0
  have G_image := ok_image (P := P) (w := w) (base := base) D B C0
  have G_Machine_lines := ok_Machine_lines (P := P) (w := w) (base := base) D B C0
  have G_lines := ok_lines_ (P := P) (w := w) (base := base) D B C0
  have G_pair_right := ok_pair_right (P := P) (w := w) (base := base) D B C0
  have G_Machine___eq__ := ok_Machine___eq__ (P := P) (w := w) (base := base) D B C0
  have G_Machine___len__ := ok_Machine___len__ (P := P) (w := w) (base := base) D B C0
  have G_Machine_letters := ok_Machine_letters (P := P) (w := w) (base := base) D B C0
  obtain ⟨⟨t_LIMIT, c_LIMIT⟩, ⟨t_ALPHABET, c_ALPHABET⟩, ⟨t_MAX_LETTERS, c_MAX_LETTERS⟩, ⟨t_MAX_STATES, c_MAX_STATES⟩, ⟨t_MAX_PRICE, c_MAX_PRICE⟩, ⟨t_FIRST, c_FIRST⟩, ⟨t_LAST, c_LAST⟩, ⟨t_ARC, c_ARC⟩⟩ := C0
  refine D.right.F.ok sc_right (fun vs H Q E h => ?_) (fun cdv A outer s H vs Q E hr h => ?_)
  · obtain ⟨d, a, b, c, rfl, _⟩ := h
    rfl
  · obtain ⟨d, a, b, c, rfl, hd, q⟩ := h
    refine ⟨_, (pss_cons (ps_set (i := 1) sc_right.nd rfl (Or.inl rfl) (pe_df D.any_machine G_any_machine (hr.mono (by decide)) (by rfl) (pa_cons (pv 0) (pa_cons pe_int (pa_cons pe_int pa_nil)))))
    (pss_cons (ps_set (i := 2) sc_right.nd rfl (Or.inl rfl) (pe_df D.made G_made (hr.mono (by decide)) (by rfl) (pa_cons (pv 1) pa_nil)))
    (pss_cons (ps_asg (pe_tup (pa_cons (pv 2) (pa_cons (pe_callTy (call_dictP rfl) (by rfl) B.dict (by decide +kernel) (pa_cons (pe_lc (own := [("_law_name", 5)]) (g := gName 5) rfl sc_right.nd (pi_tupK (K := K) rfl (pe_pr D.Machine D.Machine_states G_Machine_states (hr.mono (by decide)) (pv 2))) (blkOk_by (N := N_right) (sc := defScope s_right) (by decide +kernel)) (fun _ _ _ _ _ => (pg_name (i := 5) sc_right.nd rfl (Or.inl rfl))) (fun _ _ _ _ _ => pts_nil) (fun _ _ _ _ _ => (pe_tup (pa_cons (pv 5) (pa_cons (pv 5) pa_nil))))) pa_nil)) pa_nil))) (pg_tupK (K := K) (n := 2) rfl rfl (pgs_cons (pg_name (i := 3) sc_right.nd rfl (Or.inl rfl)) (pgs_cons (pg_name (i := 4) sc_right.nd rfl (Or.inr rfl)) pgs_nil))))
    (pss_cons (ps_for PassesOwn.never rfl (pi_range1 (by rfl) B.range (pa_cons pe_int pa_nil)) (pg_name (i := 6) sc_right.nd rfl (Or.inl rfl))
      (pss_cons (ps_set (i := 7) sc_right.nd rfl (Or.inr rfl) (pe_df D.images G_images (hr.mono (by decide)) (by rfl) (pa_cons (pv 0) (pa_cons (pe_pr D.Machine D.Machine_states G_Machine_states (hr.mono (by decide)) (pv 3)) pa_nil))))
    (pss_cons (ps_par (i := 8) (j := 1) (by rfl) sc_right.nd rfl rfl (by decide) rfl rfl (pa_cons (pe_mt D.Machine D.Machine_renamed G_Machine_renamed (hr.mono (by decide)) (pv 3) (pa_cons (pv 7) pa_nil)) (pa_cons (pe_df D.image G_image (hr.mono (by decide)) (by rfl) (pa_cons (pv 1) (pa_cons (pv 7) pa_nil))) pa_nil)) (by rfl))
    (pss_cons (ps_if (PW.pt (pw_or (pt_cmpR (op_neK (K := K) rfl hr.units) (pe_callTy call_list_of (by rfl) B.list (by decide +kernel) (pa_cons (pe_pr D.Machine D.Machine_lines G_Machine_lines (hr.mono (by decide)) (pv 8)) pa_nil)) (pe_df D.lines G_lines (hr.mono (by decide)) (by rfl) (pa_cons (pv 1) pa_nil)) (nomark _)) (pw_or1 (pt_not (pt_val (pe_df D.pair_right G_pair_right (hr.mono (by decide)) (by rfl) (pa_cons (pv 0) (pa_cons (pv 3) (pa_cons (pv 8) (pa_cons (pv 7) pa_nil)))))))))) (pss_one (ps_ret pe_bl)) pss_nil)
    (pss_cons (ps_set (i := 4) sc_right.nd rfl (Or.inr rfl) (pe_callTy (call_dictP rfl) (by rfl) B.dict (by decide +kernel) (pa_cons (pe_lock (pe_lc (own := [("_law_name", 5)]) (g := gName 5) rfl sc_right.nd (pi_keys (pv 4)) (blkOk_by (N := N_right) (sc := defScope s_right) (by decide +kernel)) (fun _ _ _ _ _ => (pg_name (i := 5) sc_right.nd rfl (Or.inl rfl))) (fun _ _ _ _ _ => pts_nil) (fun _ _ _ _ _ => (pe_tup (pa_cons (pv 5) (pa_cons (pe_dget (hu_of hr) (pv 7) (pe_dget (hu_of hr) (pv 4) (pv 5) (fun _ _ => rfl)) (fun _ _ => rfl)) pa_nil)))))) pa_nil)))
    (pss_cons (ps_set (i := 9) sc_right.nd rfl (Or.inl rfl) (pe_callTy (call_dictP rfl) (by rfl) B.dict (by decide +kernel) (pa_cons (pe_lock (pe_lc (own := [("_law_name", 5)]) (g := gName 5) rfl sc_right.nd (pi_keys (pv 7)) (blkOk_by (N := N_right) (sc := defScope s_right) (by decide +kernel)) (fun _ _ _ _ _ => (pg_name (i := 5) sc_right.nd rfl (Or.inl rfl))) (fun _ _ _ _ _ => pts_nil) (fun _ _ _ _ _ => (pe_tup (pa_cons (pe_dget (hu_of hr) (pv 7) (pv 5) (fun _ _ => rfl)) (pa_cons (pv 5) pa_nil)))))) pa_nil)))
    (pss_cons (ps_if (PW.pt (pw_or (pt_cmpR (op_neE (K := K) rfl D.Machine D.Machine_kn D.Machine___eq__ G_Machine___eq__ (hr.mono (by decide))) (pe_mt D.Machine D.Machine_renamed G_Machine_renamed (hr.mono (by decide)) (pv 8) (pa_cons (pv 9) pa_nil)) (pv 3) (nomark _)) (pw_or1 (pt_cmpR (op_neE (K := K) rfl D.Machine D.Machine_kn D.Machine___eq__ G_Machine___eq__ (hr.mono (by decide))) (pe_mt D.Machine D.Machine_renamed G_Machine_renamed (hr.mono (by decide)) (pv 2) (pa_cons (pv 4) pa_nil)) (pv 8) (nomark _))))) (pss_one (ps_ret pe_bl)) pss_nil)
    (pss_one (ps_set (i := 3) sc_right.nd rfl (Or.inl rfl) (pv 8))))))))))
    (pss_one (ps_ret (pe_and (pe_cmpR op_eq (pe_callB (call_lenS D.Machine___len__ G_Machine___len__ (hr.mono (by decide))) (by rfl) B.len (by decide +kernel) (pa_cons (pv 3) pa_nil)) (pe_callB (call_lenS D.Machine___len__ G_Machine___len__ (hr.mono (by decide))) (by rfl) B.len (by decide +kernel) (pa_cons (pv 2) pa_nil)) (nomark _)) (pe_one (pe_cmpR (op_eqK (K := K) rfl hr.units) (pe_pr D.Machine D.Machine_letters G_Machine_letters (hr.mono (by decide)) (pv 3)) (pe_pr D.Machine D.Machine_letters G_Machine_letters (hr.mono (by decide)) (pv 2)) (nomark _)))))))))), ?_⟩
    walk_at "rd"
    refine ⟨d, a, b, c, 5, 3, rfl, hd, by decide, by decide, by decide, by decide, fun pl fs ls m H1 dk1 hpl0 npd plo dm => ?_⟩
    have gm := dm.gm (by decide)
    obtain ⟨a1, b1, c1, hd1⟩ := dk1.2
    walk_at "go"
    refine ⟨pl, fs, ls, m, rfl, plo, gm, fun xf H2 e2 hxf mo => ?_⟩
    have dk2 := dk1.same e2
    have plo2 := plo.same e2
    walk_at "go"
    obtain ⟨dx, da, f, lk, ln, st, sp, ys, ws, h1, h2, h3, h4, h5, h6, h7, h8, h9, h10⟩ := id mo
    refine ⟨dx, _, h1, xf, fs, ls, sortA m, rfl, mo, fun sta ysa hsta soa => ⟨sta, rfl, ⟨_, SqT.of hsta⟩, ?_⟩⟩
    have nmy : ∀ x ∈ ysa, isName (.str x) = true := fun x hx => ys_name h10 soa hx
    have few := h10.few _ soa
    have so : Sorted ysa (fs ++ ls ++ innA m) := sos_of (sort_perm m) soa
    clear h1 h2 h3 h4 h5 h6 h7 h8 h9
    have lya : (ysa.map V.str).length = ysa.length := List.length_map ..
    refine lc_pairs (walk_tup (K := K) (a := sta) (xs := ysa.map V.str)) (fun i => ((ysa.map V.str)[i]?).getD .non) (fun i => ((ysa.map V.str)[i]?).getD .non) (fun H1 e1 => SqT.of (e1 _ _ hsta)) (by omega) (fun i v H3 H4 hi e3 y R hR => ?_) fun pl2 ps H3 hpl2 e3 hl3 hlen hps => ?_
    · obtain ⟨rfl, hv⟩ := y
      simp only [hv, Option.getD_some] at hR
      walk_at "rd"
      exact ⟨by decide, fun t1 k1 => hR _ _ (Same.new k1) upd_same⟩
    have rn0 := rn_same so.nd nmy few
    refine ⟨pl2, rfl, ps, SqL.of hl3, encN (sameN ysa), ?_, fun pt hpt => ?_⟩
    · refine paired_ix (by unfold encN sameN; rw [hlen, List.length_map, List.length_map, List.length_map]) fun i p kv hp hk => ?_
      have h := hps i p hp
      unfold encN sameN at hk
      rw [List.map_map, List.getElem?_map] at hk
      obtain ⟨y, hy, rfl⟩ := Option.map_eq_some_iff.mp hk
      rw [List.getElem?_map, hy] at h
      exact SqT.of h
    rw [merge_id (encN_nd rn0)]
    refine ⟨by decide, fun pp hpp => ⟨_, SqT.of upd_same, rfl, _, _, rfl, _, _, rfl, rfl, ?_⟩⟩
    have s3 := (e3.trans (Same.new (o := HO.dK (encN (sameN ysa))) hpt)).trans (Same.new (o := HO.tup [V.ref xf, V.ref pt]) hpp)
    have ht3 := Same.new (o := HO.tup [V.ref xf, V.ref pt]) hpp _ _ (upd_same (H := H3) (a := pt) (o := HO.dK (encN (sameN ysa))))
    generalize upd (upd H3 pt (HO.dK (encN (sameN ysa)))) pp (HO.tup [V.ref xf, V.ref pt]) = H4 at s3 ht3 ⊢
    have dk4 := dk2.same s3
    replace plo2 := plo2.same s3
    replace mo := mo.same s3
    obtain ⟨a4, b4, c4, hd4⟩ := dk4.2
    clear hps hl3 e3 hlen hpl2 hpt hpp hsta lya
    walk_at "go"
    have inS := so_inSt so
    have mo0 := mo
    obtain ⟨Pv, hP⟩ := inv_bi (fun (i : Nat) (σ : St) (H' : Hp) => ∃ (o6 o7 o8 o9 : Option V) (pl x pt : Addr) (fs' ls' : List Str) (m' : List (Arc × Int)) (T : List (Str × Str)), σ = [some (.ref d), some (.ref pl), some (.ref xf), some (.ref x), some (.ref pt), none, o6, o7, o8, o9] ∧ Dk d H4 H' ∧
      PlO H' pl fs' ls' m' ∧ MacO Z.c_Machine H' x fs' ls' (sortA m') ∧ Gm fs' ls' m' ∧ H' pt = some (.dK (encN T)) ∧ Rn ysa T ∧ fs' = sortS (fs.map (apN T)) ∧ ls' = sortS (ls.map (apN T)) ∧ m'.Perm (rnA (apN T) m))
    refine ⟨by decide, by decide, ?_⟩
    have idf : ∀ x ∈ ysa, apN (sameN ysa) x = x := fun x hx => ap_same so.nd hx
    refine loop_it (walk_range (lo := 0) (n := Int.toNat 3)) Pv ((hP _ _ _).mpr ⟨_, _, _, _, pl, xf, pt, fs, ls, m, _, rfl, Dk.refl hd4, plo2, mo, gm, ht3, rn0, ?_, ?_, ?_⟩) (fun i σ H' _ h => trivial) (fun i v σ H5 H6 hi hpv yy => ?_) (fun σ H5 hpv => ?_)
    · rw [map_fix fun x hx => idf x (inS.f x hx), sortS_id (names_asc gm.fn)]
    · rw [map_fix fun x hx => idf x (inS.l x hx), sortS_id (names_asc gm.ln)]
    · rw [rnA_fix inS.m idf]
    · obtain ⟨o6, o7, o8, o9, pl1, x, pt1, fs1, ls1, m1, T, rfl, dk5, plo5, mo5, gm5, ht5, rnT, ef, el, pm⟩ := (hP _ _ _).mp hpv
      obtain ⟨rfl, rfl⟩ := yy
      have fin := fun o6 o7 o8 o9 pl x pt fs' ls' m' T H' (h1 : Dk d H4 H') (h2 : PlO H' pl fs' ls' m') (h3 : MacO Z.c_Machine H' x fs' ls' (sortA m')) (h4 : Gm fs' ls' m') (h5 : H' pt = some (.dK (encN T))) (h6 : Rn ysa T) (h7 : fs' = sortS (fs.map (apN T))) (h8 : ls' = sortS (ls.map (apN T))) (h9 : m'.Perm (rnA (apN T) m)) =>
        (hP (i + 1) [some (.ref d), some (.ref pl), some (.ref xf), some (.ref x), some (.ref pt), none, o6, o7, o8, o9] H').mpr ⟨o6, o7, o8, o9, pl, x, pt, fs', ls', m', T, rfl, h1, h2, h3, h4, h5, h6, h7, h8, h9⟩
      clear hP hpv
      obtain ⟨a6, b6, c6, hd6⟩ := dk5.2
      walk_at "rd"
      walk_at "go"
      obtain ⟨dx, _, _, _, _, _, _, _, _, h1, _⟩ := id mo5
      refine ⟨dx, _, h1, x, fs1, ls1, sortA m1, rfl, mo5, fun st1 ys1 hst1 so1 => ?_⟩
      have gs5 := gm5.perm (sort_perm m1).symm
      have nm1 : ∀ y ∈ ys1, isName (.str y) = true := fun y hy => ys_name gs5 so1 hy
      refine ⟨d, st1, a6, b6, c6, ys1, rfl, hd6, hst1, so1.nd, nm1, gs5.few _ so1, fun pi im H7 dk7 npi hpi0 hpi rn => ?_⟩
      have so1m : Sorted ys1 (fs1 ++ ls1 ++ innA m1) := sos_of (sort_perm m1) so1
      have inS1 := so_inSt so1m
      have dk57 := dk5.trans dk7
      have mo7 := mo5.nl (Dk.nl hd6 dk7)
      have plo7 := plo5.dk hd6 dk7 gm5.f0 gm5.l0
      have npt : pi ≠ pt1 := fun e => by rw [← e, hpi0] at ht5; cases ht5
      have ht7 := dk7.1 _ _ (fun e => by rw [e, hd6] at ht5; cases ht5) ht5
      obtain ⟨a7, b7, c7, hd7⟩ := dk57.2
      clear hst1 plo5 ht5 dk5 dk7 hd6 h1
      walk_at "go"
      obtain ⟨dx7, _, _, _, _, _, _, _, _, h1, _⟩ := id mo7
      refine ⟨dx7, _, h1, x, pi, fs1, ls1, ys1, m1, im, rfl, mo7, gm5, so1m, hpi, rn, fun x2 H8 e8 hx2 mp8 => ⟨pl1, pi, fs1, ls1, ys1, m1, im, rfl, plo7.same e8, gm5, so1m, e8 _ _ hpi, rn, fun pl2 H9 e9 hpl2 plo9 => ?_⟩⟩
      have e79 := e8.trans e9
      have dk9 := dk57.same e79
      replace hpi := e79 _ _ hpi
      replace ht7 := e79 _ _ ht7
      have mo9 := mo7.same e79
      have mp9 := mp8.same e9
      replace hd7 := e79 _ _ hd7
      have gr := gm5.rn inS1 rn.few rn.inj fun y hy => rn.name hy
      clear plo7 mo7 mp8 dk57 h1 hx2 hpl2 e79 e8 e9
      walk_at "go"
      obtain ⟨dx9, _, _, _, _, _, _, _, _, h1, _⟩ := id mp9
      have grs := gr.perm (sort_perm _).symm
      refine ⟨dx9, _, h1, x2, _, _, _, rfl, mp9, fun ln2 hln2 => ⟨ln2, rfl, _, .inr (SqT.of hln2), fun l2 hl2 => ?_⟩⟩
      have s10 := Same.new (o := HO.lst ((linesM (sortS (fs1.map (apN im))) (sortS (ls1.map (apN im))) (sortA (rnA (apN im) m1))).map V.str)) hl2
      refine ⟨pl2, _, _, rnA (apN im) m1, rfl, plo9.same s10, gr, fun l3 H11 e11 hl3 => ?_⟩
      refine ne_same (d := .list ((linesM (sortS (fs1.map (apN im))) (sortS (ls1.map (apN im))) (sortA (rnA (apN im) m1))).map .str)) (.lst (SqL.of (e11 _ _ upd_same)) (dps _)) (.lst (SqL.of hl3) (dps _)) (shaped_strsL (ok_lines grs)) ⟨false, rfl, ?_⟩
      have e911 := s10.trans e11
      clear hln2 hl2 hl3 s10 e11 h1
      rw [if_neg Bool.false_ne_true]
      have dk11 := dk9.same e911
      have mo11 := mo9.same e911
      have mp11 := mp9.same e911
      have plo11 := plo9.same e911
      replace hpi := e911 _ _ hpi
      replace ht7 := e911 _ _ ht7
      replace hd7 := e911 _ _ hd7
      clear mo9 mp9 plo9 dk9 e911
      walk_at "rd"
      refine ⟨d, x, x2, pi, a7, b7, c7, fs1, ls1, ys1, m1, im, rfl, hd7, mo11, mp11, gm5, so1m, hpi, rn, fun H12 dk12 => ?_⟩
      have dk412 := dk11.trans dk12
      have mo12 := mo11.nl (Dk.nl hd7 dk12)
      have mp12 := mp11.nl (Dk.nl hd7 dk12)
      have plo12 := plo11.dk hd7 dk12 gr.f0 gr.l0
      have hpi12 := dk12.1 _ _ (fun e => by rw [e, hd7] at hpi; cases hpi) hpi
      have ht12 := dk12.1 _ _ (fun e => by rw [e, hd7] at ht7; cases ht7) ht7
      clear mo11 mp11 plo11 hpi ht7 dk11 dk12 hd7
      refine ⟨true, rfl, ?_⟩
      rw [if_neg (by decide)]
      subst ef el
      have pys := so_rn so rnT.inj pm so1m
      have inT : ∀ q ∈ T, q.2 ∈ ys1 := fun q hq => by
        obtain ⟨k1, k2⟩ := rnT.mem hq
        rw [← k2]
        exact pys.mem_iff.mpr (List.mem_map.mpr ⟨_, k1, rfl⟩)
      have tl : T.length ≤ 24 := by
        have h := rnT.keys.length_eq
        have h2 := rnT.few
        rw [List.length_map] at h
        omega
      have il : im.length ≤ 24 := by
        have h := rn.keys.length_eq
        have h2 := rn.few
        rw [List.length_map] at h
        omega
      have rnT2 := rnT.then rn fun y hy => pys.mem_iff.mpr (List.mem_map.mpr ⟨_, hy, rfl⟩)
      walk_at "go"
      walk_at "go"
      refine ⟨pt1, _, ht12, trivial, fun od => ⟨od, .inl ⟨_, upd_same, ?_⟩⟩⟩
      have hA : upd H12 pt1 (HO.frz od (HO.dK (encN T))) pt1 = some (.frz od (.dK (encN T))) := upd_same
      have hpL : upd H12 pt1 (HO.frz od (HO.dK (encN T))) pi = some (.dK (encN im)) := by rw [upd_ne npt]; exact hpi12
      refine lc_dict (fun q => .str q.1) (fun q => .str (apN im q.2)) hA (by omega) (fun q hq H1 e1 R hR => ?_) fun pa ps H13 hpa e13 hl13 pr13 => ?_
      · have gT : DGet H1 pt1 (.str q.1) (some (.str q.2)) := .inl ⟨_, .inr q.1, .inr ⟨od, e1 _ _ hA⟩, rfl, by rw [val_encN (List.mem_map.mpr ⟨_, hq, rfl⟩), (rnT.mem hq).2]⟩
        have gN := getN (e1 _ _ hpL) (rn.key (inT q hq))
        walk_at "rd"
        exact ⟨_, gT, _, gN, by decide, fun p hp => hR _ _ (Same.new hp) upd_same⟩
      refine ⟨e13 _ _ hA, pa, rfl, ps, ?_, encN (thenN T im), ?_, fun p3 hp3 => ?_⟩
      · refine SqL.of ?_
        rw [upd_ne (fun z => by rw [z, hA] at hpa; cases hpa)]
        exact hl13
      · have e : encN (thenN T im) = T.map fun q => ((.inr q.1 : Key), V.str (apN im q.2)) := by
          unfold encN thenN
          rw [List.map_map]
          rfl
        rw [e]
        refine paired_mapR (f := fun q : Str × Str => ((.inr q.1 : Key), V.str (apN im q.2))) (fun t q h => ?_) pr13
        refine SqT.of ?_
        rw [upd_ne (fun z => by rw [z, e13 _ _ hA] at h; cases h)]
        exact h
      rw [merge_id (encN_nd rnT2)]
      have s13 := lock_same ht12 e13
      have s14 := s13.trans (Same.new (o := HO.dK (encN (thenN T im))) hp3)
      have ht14 : upd (upd H13 pt1 (HO.dK (encN T))) p3 (HO.dK (encN (thenN T im))) p3 = some (.dK (encN (thenN T im))) := upd_same
      generalize upd (upd H13 pt1 (HO.dK (encN T))) p3 (HO.dK (encN (thenN T im))) = H14 at s14 ht14 ⊢
      clear s13 hp3 pr13 hl13 e13 hpa hA hpL
      have dk14 := dk412.same s14
      have mof14 := (mo0.nl (Dk.nl hd4 dk412)).same s14
      have mo14 := mo12.same s14
      have mp14 := mp12.same s14
      have plo14 := plo12.same s14
      have hpi14 := s14 _ _ hpi12
      clear mo12 mp12 plo12 hpi12 ht12 dk412 s14
      walk_at "go"
      refine ⟨pi, _, hpi14, trivial, fun od2 => ⟨od2, .inl ⟨_, upd_same, ?_⟩⟩⟩
      have hA : upd H14 pi (HO.frz od2 (HO.dK (encN im))) pi = some (.frz od2 (.dK (encN im))) := upd_same
      refine lc_dict (fun q => .str q.2) (fun q => .str q.1) hA (by omega) (fun q hq H1 e1 R hR => ?_) fun pb ps2 H15 hpb e15 hl15 pr15 => ?_
      · have gT : DGet H1 pi (.str q.1) (some (.str q.2)) := .inl ⟨_, .inr q.1, .inr ⟨od2, e1 _ _ hA⟩, rfl, by rw [val_encN (List.mem_map.mpr ⟨_, hq, rfl⟩), (rn.mem hq).2]⟩
        walk_at "rd"
        exact ⟨_, gT, by decide, fun p hp => hR _ _ (Same.new hp) upd_same⟩
      obtain ⟨_, _, _, _, _, _, _, ys2, _, _, _, _, _, _, _, so2s, _⟩ := id mp14
      have pz := so_rn so1m rn.inj (sort_perm _) so2s
      have rnB := rn.back pz nm1
      have so2 := sos_of (sort_perm _) so2s
      refine ⟨e15 _ _ hA, pb, rfl, ps2, ?_, encN (backN im), ?_, fun p4 hp4 => ?_⟩
      · refine SqL.of ?_
        rw [upd_ne (fun z => by rw [z, hA] at hpb; cases hpb)]
        exact hl15
      · have e : encN (backN im) = im.map fun q => ((.inr q.2 : Key), V.str q.1) := by
          unfold encN backN
          rw [List.map_map]
          rfl
        rw [e]
        refine paired_mapR (f := fun q : Str × Str => ((.inr q.2 : Key), V.str q.1)) (fun t q h => ?_) pr15
        refine SqT.of ?_
        rw [upd_ne (fun z => by rw [z, e15 _ _ hA] at h; cases h)]
        exact h
      rw [merge_id (encN_nd rnB)]
      have s16 := (lock_same hpi14 e15).trans (Same.new (o := HO.dK (encN (backN im))) hp4)
      have hb16 : upd (upd H15 pi (HO.dK (encN im))) p4 (HO.dK (encN (backN im))) p4 = some (.dK (encN (backN im))) := upd_same
      generalize upd (upd H15 pi (HO.dK (encN im))) p4 (HO.dK (encN (backN im))) = H16 at s16 hb16 ⊢
      clear hp4 pr15 hl15 e15 hpb hA
      have dk16 := dk14.same s16
      have mof16 := mof14.same s16
      have mo16 := mo14.same s16
      have mp16 := mp14.same s16
      have plo16 := plo14.same s16
      have ht16 := s16 _ _ ht14
      clear mof14 mo14 mp14 plo14 hpi14 ht14 dk14 s16
      walk_at "go"
      obtain ⟨dxl, _, _, _, _, _, _, _, _, hl, _⟩ := id mp16
      refine ⟨dxl, _, hl, x2, p4, _, _, ys2, rnA (apN im) m1, backN im, rfl, mp16, gr, so2, hb16, rnB, fun x3 H17 e17 hx3 mo3 => ?_⟩
      have ndr1 := (rnA_nd rn.inj inS1.m gm5.nd)
      rw [back_ends rn inS1.f (names_asc gm5.fn), back_ends rn inS1.l (names_asc gm5.ln), back_arcs rn inS1.m] at mo3
      have dk17 := dk16.same e17
      have mof17 := mof16.same e17
      have mo17 := mo16.same e17
      have mp17 := mp16.same e17
      have plo17 := plo16.same e17
      have ht17 := e17 _ _ ht16
      clear mof16 mo16 mp16 plo16 ht16 dk16 hb16 hl e17
      obtain ⟨dx3, _, _, _, _, _, _, _, _, hl3, _⟩ := id mo3
      obtain ⟨dxm, _, _, _, _, _, _, _, _, hlm, _⟩ := id mo17
      refine .inl ⟨x3, _, _, x, _, _, _, rfl, rfl, hl3, hlm, D.Machine.nf, x3, x, _, _, _, rfl, mo3, mo17, true, rfl, false, rfl, ?_⟩
      rw [if_neg Bool.false_ne_true]
      obtain ⟨dxf, _, _, _, _, _, _, _, _, hlf, _⟩ := id mof17
      refine ⟨dxf, _, hlf, xf, p3, fs, ls, ysa, m, thenN T im, rfl, mof17, gm, so, ht17, rnT2, fun x4 H18 e18 hx4 mo4 => ?_⟩
      have dk18 := dk17.same e18
      have mp18 := mp17.same e18
      have plo18 := plo17.same e18
      have ht18 := e18 _ _ ht17
      obtain ⟨dx4, _, _, _, _, _, _, _, _, hl4, _⟩ := id mo4
      obtain ⟨dxq, _, _, _, _, _, _, _, _, hlq, _⟩ := id mp18
      have tf : sortS ((sortS (fs.map (apN T))).map (apN im)) = sortS (fs.map (apN (thenN T im))) := then_ends rnT inS.f rfl
      have tlq : sortS ((sortS (ls.map (apN T))).map (apN im)) = sortS (ls.map (apN (thenN T im))) := then_ends rnT inS.l rfl
      have ta := then_arcs (im := im) rnT inS.m pm
      have es : sortA (rnA (apN im) m1) = sortA (rnA (apN (thenN T im)) m) := sortA_eq ta ndr1
      have mq : MacO Z.c_Machine H18 x2 (sortS (fs.map (apN (thenN T im)))) (sortS (ls.map (apN (thenN T im)))) (sortA (rnA (apN (thenN T im)) m)) := by
        rw [← tf, ← tlq, ← es]
        exact mp18
      refine .inl ⟨x4, _, _, x2, _, _, _, rfl, rfl, hl4, hlq, D.Machine.nf, x4, x2, _, _, _, rfl, mo4, mq, true, rfl, false, rfl, ?_⟩
      rw [if_neg Bool.false_ne_true]
      have fin2 := fin (some (.int (i : Int))) (some (.ref pi)) (some (.ref x2)) (some (.ref p4)) pl2 x2 p3 _ _ _ _ _ dk18 plo18 mp18 gr ht18 rnT2 tf tlq ta
      walk_at "gg"
    · obtain ⟨o6, o7, o8, o9, pl1, x, pt1, fs1, ls1, m1, T, rfl, dk5, plo5, mo5, gm5, ht5, rnT, ef, el, pm⟩ := (hP _ _ _).mp hpv
      subst ef el
      have mof := mo0.nl (Dk.nl hd4 dk5)
      clear plo5 ht5
      walk_at "go"
      walk_at "go"
      obtain ⟨dxm, _, _, _, _, _, _, _, _, hlm, _⟩ := id mo5
      obtain ⟨dxf, _, _, _, _, _, _, _, _, hlf, _⟩ := id mof
      have few63 : ∀ {ys : List Str} {fs ls : List Str} {m : List (Arc × Int)}, Gm fs ls m → Sorted ys (fs ++ ls ++ innA m) → ys.length < 2 ^ 63 := fun g so => Nat.lt_of_le_of_lt (g.few _ so) (by decide)
      have gs5 := gm5.perm (sort_perm m1).symm
      have gsm := gm.perm (sort_perm m).symm
      have lenr : (rnA (apN T) m).map (fun a => a.1.2.1) = m.map fun a => a.1.2.1 := by
        unfold rnA
        rw [List.map_map]
        rfl
      have pml : ((sortA m1).map fun a => a.1.2.1).Perm ((sortA m).map fun a => a.1.2.1) := by
        refine ((sort_perm m1).map _).trans ((pm.map _).trans ?_)
        rw [lenr]
        exact ((sort_perm m).map _).symm
      refine ⟨x, _, _, rfl, hlm, x, _, _, _, rfl, mo5, fun y1 so1 => ⟨y1.length, rfl, few63 gs5 so1, xf, _, _, rfl, hlf, xf, _, _, _, rfl, mof, fun y0 so0 => ⟨y0.length, rfl, few63 gsm so0, rfl, ?_⟩⟩⟩
      have e0 : y0 = ysa := Sorted.uniq so0 soa (fun _ => Iff.rfl)
      have p1 := so_rn so rnT.inj pm (sos_of (sort_perm m1) so1)
      have e1 : y1.length = y0.length := by rw [p1.length_eq, List.length_map, e0]
      rw [e1, decide_eq_true rfl, if_pos rfl]
      refine ⟨_, _, hlm, x, _, _, _, rfl, mo5, fun pz zs H6 e6 soz hpz => ⟨_, _, Same.slt e6 hlf, xf, _, _, _, rfl, mof.same e6, fun pz2 zs2 H7 e7 soz2 hpz2 => ?_⟩⟩
      have ez : zs = zs2 := Sorted.uniq soz soz2 fun k => pml.mem_iff
      subst ez
      have oks : ∀ z ∈ zs, PyData.strOk z = true := fun z hz => by
        obtain ⟨a, ha, rfl⟩ := List.mem_map.mp ((soz.mem z).mp hz)
        exact letter_ok (place_of (gs5.an a ha).1).2.1
      exact eq_same (d := .tuple (zs.map .str)) (.tup (SqT.of (e7 _ _ hpz)) (dps _)) (.tup (SqT.of hpz2) (dps _)) (shaped_strs oks) (q _ (((dk4.trans dk5).same e6).same e7))
end
section
variable {P : Program} {w : World} {K : PySem.W.Frag} {mg : Str → Option Value} {base : Heap} {Z : Ad}
def spLaw (K : PySem.W.Frag) : Sp := fun vs H Q _ => ∃ (a : Addr) (ns : List Int), vs = [.ref a] ∧ SqL K H a (ns.map V.int) ∧ ns.length ≤ 63 ∧ ∀ H', Q (.bl true) H'
theorem ok_law (D : Ds K mg Z) (B : Bt mg) (C0 : Cs mg) : FnG P w K mg base CX0 11 Z.a_law Z.d_law P_law (spLaw K) := by
  have G_dice := ok_dice (P := P) (w := w) (base := base) D B
  have G_right := ok_right (P := P) (w := w) (base := base) D B C0
  obtain ⟨⟨t_LIMIT, c_LIMIT⟩, ⟨t_ALPHABET, c_ALPHABET⟩, ⟨t_MAX_LETTERS, c_MAX_LETTERS⟩, ⟨t_MAX_STATES, c_MAX_STATES⟩, ⟨t_MAX_PRICE, c_MAX_PRICE⟩, ⟨t_FIRST, c_FIRST⟩, ⟨t_LAST, c_LAST⟩, ⟨t_ARC, c_ARC⟩⟩ := C0
  refine okG D.law.F sc_law (fun vs H Q E h => ?_) (fun cdv A outer s H vs Q E gdd hr h => ?_)
  · obtain ⟨a, ns, rfl, _⟩ := h
    rfl
  · obtain ⟨a, ns, rfl, hS, hlen, q⟩ := h
    refine ⟨_, (pss_cons (ps_for PassesOwn.never rfl (pi_range1 (by rfl) B.range (pa_cons (pe_callB (call_max2 rfl) (by rfl) B.max (by decide +kernel) (pa_cons pe_int (pa_cons (pe_callB (call_min2 rfl) (by rfl) B.min (by decide +kernel) (pa_cons pe_int (pa_cons (pe_callB (call_lenK (K := K) rfl) (by rfl) B.len (by decide +kernel) (pa_cons (pv 0) pa_nil)) pa_nil))) pa_nil))) pa_nil)) (pg_name (i := 1) sc_law.nd rfl (Or.inl rfl))
      (pss_one (ps_if (pt_not (pt_val (pe_df D.right G_right (hr.mono (by decide)) (by rfl) (pa_cons (pe_df D.dice G_dice (hr.mono (by decide)) (by rfl) (pa_cons (pv 0) (pa_cons (pv 1) pa_nil))) pa_nil)))) (pss_one (ps_ret pe_bl)) pss_nil)))
    (pss_one (ps_ret pe_bl))), ?_⟩
    walk_at "rd"
    refine ⟨_, .inl hS, ?_⟩
    have hm : ∀ k : Nat, (1 : Int) ≤ (if (if (k : Int) < 4 then (k : Int) else 4) > 1 then if (k : Int) < 4 then (k : Int) else 4 else 1) ∧ (if (if (k : Int) < 4 then (k : Int) else 4) > 1 then if (k : Int) < 4 then (k : Int) else 4 else 1) ≤ 4 := by
      intro k
      split <;> split <;> omega
    obtain ⟨m0, m1⟩ := hm (ns.map V.int).length
    generalize (if (if ((ns.map V.int).length : Int) < 4 then ((ns.map V.int).length : Int) else 4) > 1 then if ((ns.map V.int).length : Int) < 4 then ((ns.map V.int).length : Int) else 4 else 1) = m at m0 m1 ⊢
    refine ⟨by omega, by omega, ?_⟩
    obtain ⟨Pv, hP⟩ := inv_bi (fun (i : Nat) (σ : St) (H' : Hp) => ∃ (o1 : Option V), σ = [some (.ref a), o1] ∧ Same H H')
    refine loop_range Pv ((hP _ _ _).mpr ⟨_, rfl, Same.refl H⟩) ?_ ?_
    · intro i σ H1 hi hp
      obtain ⟨o1, rfl, e1⟩ := (hP _ _ _).mp hp
      clear hp
      walk_at "rd"
      walk_at "gg"
      refine ⟨a, ns, i, rfl, e1.seq hS, fun d x y hd => ?_⟩
      have hd0 : H d = none := e1.free hd
      have e2 := e1.trans (Same.new (o := HO.lst [.int x, .int y, .int 0]) hd)
      have hd2 : upd H1 d (HO.lst [.int x, .int y, .int 0]) d = some (.lst [.int x, .int y, .int 0]) := upd_same
      generalize upd H1 d (HO.lst [.int x, .int y, .int 0]) = H2 at e2 hd2 ⊢
      refine ⟨d, x, y, 0, rfl, hd2, fun H3 k3 => ?_⟩
      walk_at "rd"
      have fin := (hP (i + 1) [some (.ref a), some (.int (i : Int))] H3).mpr ⟨_, rfl, fun b o eb => k3.1 b o (ne_of_none eb hd0) (e2 _ _ eb)⟩
      walk_at "gg"
    · intro σ H1 hp
      have qq := q H1
      walk_at "gg"
end

/-! ### what the top has written -/
theorem all_mk {l : PySem.W.OpenLaw} {w : World} {K : PySem.W.Frag} {h : Heap} {mg : Str → Option Value} {fa : Addr} (X : K.In h) (G : h.Ns mainGlobals mg) (hfa : mg "law" = some (.ref fa))
    {f1 f2 f3 f4 f5 f6 f7 f8 f9 f10 f11 f12 f13 f14 f15 f16 f17 f18 f19 f20 f21 f22 f23 f24 f25 f26 f27 f28 f29 f30 f31 f32 f33 f34 f35 f36 f37 f38 : Addr} {od1 an1 od2 an2 od3 an3 od4 an4 od5 an5 od6 an6 od7 an7 od8 an8 od9 an9 od10 an10 od11 an11 od12 an12 od13 an13 od14 an14 od15 an15 od16 an16 od17 an17 od18 an18 od19 an19 od20 an20 od21 an21 od22 an22 od23 an23 od24 an24 od25 an25 od26 an26 od27 an27 od28 an28 od29 an29 od30 an30 od31 an31 od32 an32 od33 an33 od34 an34 od35 an35 od36 an36 od37 an37 od38 an38 : Option Addr} {sl1 sl2 sl3 sl4 sl5 sl6 sl7 sl8 sl9 sl10 sl11 sl12 sl13 sl14 sl15 sl16 sl17 sl18 sl19 sl20 sl21 sl22 sl23 sl24 sl25 sl26 sl27 sl28 sl29 sl30 sl31 sl32 sl33 sl34 sl35 sl36 sl37 sl38 : Array (Option Value)}
    {oc1 kV1 dc1 pm1 cd1 ct1 oc2 kV2 dc2 pm2 cd2 ct2 oc3 kV3 dc3 pm3 cd3 ct3 oc4 kV4 dc4 pm4 cd4 ct4 oc5 kV5 dc5 pm5 cd5 ct5 oc6 kV6 dc6 pm6 cd6 ct6 oc7 kV7 dc7 pm7 cd7 ct7 oc8 kV8 dc8 pm8 cd8 ct8 oc9 kV9 dc9 pm9 cd9 ct9 oc10 kV10 dc10 pm10 cd10 ct10 oc11 kV11 dc11 pm11 cd11 ct11 oc12 kV12 dc12 pm12 cd12 ct12 oc13 kV13 dc13 pm13 cd13 ct13 oc14 kV14 dc14 pm14 cd14 ct14 oc15 kV15 dc15 pm15 cd15 ct15 oc16 kV16 dc16 pm16 cd16 ct16 oc17 kV17 dc17 pm17 cd17 ct17 oc18 kV18 dc18 pm18 cd18 ct18 oc19 kV19 dc19 pm19 cd19 ct19 oc20 kV20 dc20 pm20 cd20 ct20 oc21 kV21 dc21 pm21 cd21 ct21 oc22 kV22 dc22 pm22 cd22 ct22 oc23 kV23 dc23 pm23 cd23 ct23 oc24 kV24 dc24 pm24 cd24 ct24 oc25 kV25 dc25 pm25 cd25 ct25 oc26 kV26 dc26 pm26 cd26 ct26 oc27 kV27 dc27 pm27 cd27 ct27 oc28 kV28 dc28 pm28 cd28 ct28 oc29 kV29 dc29 pm29 cd29 ct29 oc30 kV30 dc30 pm30 cd30 ct30 oc31 kV31 dc31 pm31 cd31 ct31 oc32 kV32 dc32 pm32 cd32 ct32 oc33 kV33 dc33 pm33 cd33 ct33 oc34 kV34 dc34 pm34 cd34 ct34 oc35 kV35 dc35 pm35 cd35 ct35 oc36 kV36 dc36 pm36 cd36 ct36 oc37 kV37 dc37 pm37 cd37 ct37 oc38 kV38 dc38 pm38 cd38 ct38 : Value} {t_LIMIT t_ALPHABET t_MAX_LETTERS t_MAX_STATES t_MAX_PRICE t_FIRST t_LAST t_ARC : Tok}
    (a1 : PySem.W.nsIn K mainGlobals "is_integer" = some (some (.ref f1)))
    (l1 : K.lookup f1 = some ⟨oc1, od1, .func (PySem.W.fnOf "is_integer" "is_integer" (defArgs s_is_integer) (defBody s_is_integer) (defScope s_is_integer) .none kV1 dc1 pm1 an1 cd1 ct1), sl1⟩)
    (c1 : PySem.W.codeIn K cd1 "is_integer" = true) (k1 : PySem.W.keepIn K (.ref f1) = true)
    (a2 : PySem.W.nsIn K mainGlobals "is_within" = some (some (.ref f2)))
    (l2 : K.lookup f2 = some ⟨oc2, od2, .func (PySem.W.fnOf "is_within" "is_within" (defArgs s_is_within) (defBody s_is_within) (defScope s_is_within) .none kV2 dc2 pm2 an2 cd2 ct2), sl2⟩)
    (c2 : PySem.W.codeIn K cd2 "is_within" = true) (k2 : PySem.W.keepIn K (.ref f2) = true)
    (a3 : PySem.W.nsIn K mainGlobals "is_spelt" = some (some (.ref f3)))
    (l3 : K.lookup f3 = some ⟨oc3, od3, .func (PySem.W.fnOf "is_spelt" "is_spelt" (defArgs s_is_spelt) (defBody s_is_spelt) (defScope s_is_spelt) .none kV3 dc3 pm3 an3 cd3 ct3), sl3⟩)
    (c3 : PySem.W.codeIn K cd3 "is_spelt" = true) (k3 : PySem.W.keepIn K (.ref f3) = true)
    (a4 : PySem.W.nsIn K mainGlobals "is_name" = some (some (.ref f4)))
    (l4 : K.lookup f4 = some ⟨oc4, od4, .func (PySem.W.fnOf "is_name" "is_name" (defArgs s_is_name) (defBody s_is_name) (defScope s_is_name) .none kV4 dc4 pm4 an4 cd4 ct4), sl4⟩)
    (c4 : PySem.W.codeIn K cd4 "is_name" = true) (k4 : PySem.W.keepIn K (.ref f4) = true)
    (a5 : PySem.W.nsIn K mainGlobals "is_letter" = some (some (.ref f5)))
    (l5 : K.lookup f5 = some ⟨oc5, od5, .func (PySem.W.fnOf "is_letter" "is_letter" (defArgs s_is_letter) (defBody s_is_letter) (defScope s_is_letter) .none kV5 dc5 pm5 an5 cd5 ct5), sl5⟩)
    (c5 : PySem.W.codeIn K cd5 "is_letter" = true) (k5 : PySem.W.keepIn K (.ref f5) = true)
    (a6 : PySem.W.nsIn K mainGlobals "are_names" = some (some (.ref f6)))
    (l6 : K.lookup f6 = some ⟨oc6, od6, .func (PySem.W.fnOf "are_names" "are_names" (defArgs s_are_names) (defBody s_are_names) (defScope s_are_names) .none kV6 dc6 pm6 an6 cd6 ct6), sl6⟩)
    (c6 : PySem.W.codeIn K cd6 "are_names" = true) (k6 : PySem.W.keepIn K (.ref f6) = true)
    (a7 : PySem.W.nsIn K mainGlobals "is_place" = some (some (.ref f7)))
    (l7 : K.lookup f7 = some ⟨oc7, od7, .func (PySem.W.fnOf "is_place" "is_place" (defArgs s_is_place) (defBody s_is_place) (defScope s_is_place) .none kV7 dc7 pm7 an7 cd7 ct7), sl7⟩)
    (c7 : PySem.W.codeIn K cd7 "is_place" = true) (k7 : PySem.W.keepIn K (.ref f7) = true)
    (a8 : PySem.W.nsIn K mainGlobals "is_price" = some (some (.ref f8)))
    (l8 : K.lookup f8 = some ⟨oc8, od8, .func (PySem.W.fnOf "is_price" "is_price" (defArgs s_is_price) (defBody s_is_price) (defScope s_is_price) .none kV8 dc8 pm8 an8 cd8 ct8), sl8⟩)
    (c8 : PySem.W.codeIn K cd8 "is_price" = true) (k8 : PySem.W.keepIn K (.ref f8) = true)
    (a9 : PySem.W.nsIn K mainGlobals "are_ends" = some (some (.ref f9)))
    (l9 : K.lookup f9 = some ⟨oc9, od9, .func (PySem.W.fnOf "are_ends" "are_ends" (defArgs s_are_ends) (defBody s_are_ends) (defScope s_are_ends) .none kV9 dc9 pm9 an9 cd9 ct9), sl9⟩)
    (c9 : PySem.W.codeIn K cd9 "are_ends" = true) (k9 : PySem.W.keepIn K (.ref f9) = true)
    (a10 : PySem.W.nsIn K mainGlobals "states_of" = some (some (.ref f10)))
    (l10 : K.lookup f10 = some ⟨oc10, od10, .func (PySem.W.fnOf "states_of" "states_of" (defArgs s_states_of) (defBody s_states_of) (defScope s_states_of) .none kV10 dc10 pm10 an10 cd10 ct10), sl10⟩)
    (c10 : PySem.W.codeIn K cd10 "states_of" = true) (k10 : PySem.W.keepIn K (.ref f10) = true)
    (a11 : PySem.W.nsIn K mainGlobals "are_parts" = some (some (.ref f11)))
    (l11 : K.lookup f11 = some ⟨oc11, od11, .func (PySem.W.fnOf "are_parts" "are_parts" (defArgs s_are_parts) (defBody s_are_parts) (defScope s_are_parts) .none kV11 dc11 pm11 an11 cd11 ct11), sl11⟩)
    (c11 : PySem.W.codeIn K cd11 "are_parts" = true) (k11 : PySem.W.keepIn K (.ref f11) = true)
    (a12 : PySem.W.nsIn K mainGlobals "steps_in" = some (some (.ref f12)))
    (l12 : K.lookup f12 = some ⟨oc12, od12, .func (PySem.W.fnOf "steps_in" "steps_in" (defArgs s_steps_in) (defBody s_steps_in) (defScope s_steps_in) .none kV12 dc12 pm12 an12 cd12 ct12), sl12⟩)
    (c12 : PySem.W.codeIn K cd12 "steps_in" = true) (k12 : PySem.W.keepIn K (.ref f12) = true)
    (a13 : PySem.W.nsIn K mainGlobals "is_renaming" = some (some (.ref f13)))
    (l13 : K.lookup f13 = some ⟨oc13, od13, .func (PySem.W.fnOf "is_renaming" "is_renaming" (defArgs s_is_renaming) (defBody s_is_renaming) (defScope s_is_renaming) .none kV13 dc13 pm13 an13 cd13 ct13), sl13⟩)
    (c13 : PySem.W.codeIn K cd13 "is_renaming" = true) (k13 : PySem.W.keepIn K (.ref f13) = true)
    (a14 : PySem.W.nsIn K mainGlobals "_law_dice" = some (some (.ref f14)))
    (l14 : K.lookup f14 = some ⟨oc14, od14, .func (PySem.W.fnOf "_law_dice" "_law_dice" (defArgs s_dice) (defBody s_dice) (defScope s_dice) .none kV14 dc14 pm14 an14 cd14 ct14), sl14⟩)
    (c14 : PySem.W.codeIn K cd14 "_law_dice" = true) (k14 : PySem.W.keepIn K (.ref f14) = true)
    (a15 : PySem.W.nsIn K mainGlobals "_law_roll" = some (some (.ref f15)))
    (l15 : K.lookup f15 = some ⟨oc15, od15, .func (PySem.W.fnOf "_law_roll" "_law_roll" (defArgs s_roll) (defBody s_roll) (defScope s_roll) .none kV15 dc15 pm15 an15 cd15 ct15), sl15⟩)
    (c15 : PySem.W.codeIn K cd15 "_law_roll" = true) (k15 : PySem.W.keepIn K (.ref f15) = true)
    (a16 : PySem.W.nsIn K mainGlobals "_law_pick" = some (some (.ref f16)))
    (l16 : K.lookup f16 = some ⟨oc16, od16, .func (PySem.W.fnOf "_law_pick" "_law_pick" (defArgs s_pick) (defBody s_pick) (defScope s_pick) .none kV16 dc16 pm16 an16 cd16 ct16), sl16⟩)
    (c16 : PySem.W.codeIn K cd16 "_law_pick" = true) (k16 : PySem.W.keepIn K (.ref f16) = true)
    (a17 : PySem.W.nsIn K mainGlobals "_law_mixed" = some (some (.ref f17)))
    (l17 : K.lookup f17 = some ⟨oc17, od17, .func (PySem.W.fnOf "_law_mixed" "_law_mixed" (defArgs s_mixed) (defBody s_mixed) (defScope s_mixed) .none kV17 dc17 pm17 an17 cd17 ct17), sl17⟩)
    (c17 : PySem.W.codeIn K cd17 "_law_mixed" = true) (k17 : PySem.W.keepIn K (.ref f17) = true)
    (a18 : PySem.W.nsIn K mainGlobals "_law_some" = some (some (.ref f18)))
    (l18 : K.lookup f18 = some ⟨oc18, od18, .func (PySem.W.fnOf "_law_some" "_law_some" (defArgs s_some) (defBody s_some) (defScope s_some) .none kV18 dc18 pm18 an18 cd18 ct18), sl18⟩)
    (c18 : PySem.W.codeIn K cd18 "_law_some" = true) (k18 : PySem.W.keepIn K (.ref f18) = true)
    (a19 : PySem.W.nsIn K mainGlobals "_law_state_names" = some (some (.ref f19)))
    (l19 : K.lookup f19 = some ⟨oc19, od19, .func (PySem.W.fnOf "_law_state_names" "_law_state_names" (defArgs s_state_names) (defBody s_state_names) (defScope s_state_names) .none kV19 dc19 pm19 an19 cd19 ct19), sl19⟩)
    (c19 : PySem.W.codeIn K cd19 "_law_state_names" = true) (k19 : PySem.W.keepIn K (.ref f19) = true)
    (a20 : PySem.W.nsIn K mainGlobals "_law_plain" = some (some (.ref f20)))
    (l20 : K.lookup f20 = some ⟨oc20, od20, .func (PySem.W.fnOf "_law_plain" "_law_plain" (defArgs s_plain) (defBody s_plain) (defScope s_plain) .none kV20 dc20 pm20 an20 cd20 ct20), sl20⟩)
    (c20 : PySem.W.codeIn K cd20 "_law_plain" = true) (k20 : PySem.W.keepIn K (.ref f20) = true)
    (a21 : PySem.W.nsIn K mainGlobals "_law_lines" = some (some (.ref f21)))
    (l21 : K.lookup f21 = some ⟨oc21, od21, .func (PySem.W.fnOf "_law_lines" "_law_lines" (defArgs s_lines) (defBody s_lines) (defScope s_lines) .none kV21 dc21 pm21 an21 cd21 ct21), sl21⟩)
    (c21 : PySem.W.codeIn K cd21 "_law_lines" = true) (k21 : PySem.W.keepIn K (.ref f21) = true)
    (a22 : PySem.W.nsIn K mainGlobals "_law_made" = some (some (.ref f22)))
    (l22 : K.lookup f22 = some ⟨oc22, od22, .func (PySem.W.fnOf "_law_made" "_law_made" (defArgs s_made) (defBody s_made) (defScope s_made) .none kV22 dc22 pm22 an22 cd22 ct22), sl22⟩)
    (c22 : PySem.W.codeIn K cd22 "_law_made" = true) (k22 : PySem.W.keepIn K (.ref f22) = true)
    (a23 : PySem.W.nsIn K mainGlobals "_law_block" = some (some (.ref f23)))
    (l23 : K.lookup f23 = some ⟨oc23, od23, .func (PySem.W.fnOf "_law_block" "_law_block" (defArgs s_block) (defBody s_block) (defScope s_block) .none kV23 dc23 pm23 an23 cd23 ct23), sl23⟩)
    (c23 : PySem.W.codeIn K cd23 "_law_block" = true) (k23 : PySem.W.keepIn K (.ref f23) = true)
    (a24 : PySem.W.nsIn K mainGlobals "_law_count" = some (some (.ref f24)))
    (l24 : K.lookup f24 = some ⟨oc24, od24, .func (PySem.W.fnOf "_law_count" "_law_count" (defArgs s_count) (defBody s_count) (defScope s_count) .none kV24 dc24 pm24 an24 cd24 ct24), sl24⟩)
    (c24 : PySem.W.codeIn K cd24 "_law_count" = true) (k24 : PySem.W.keepIn K (.ref f24) = true)
    (a25 : PySem.W.nsIn K mainGlobals "_law_deal" = some (some (.ref f25)))
    (l25 : K.lookup f25 = some ⟨oc25, od25, .func (PySem.W.fnOf "_law_deal" "_law_deal" (defArgs s_deal) (defBody s_deal) (defScope s_deal) .none kV25 dc25 pm25 an25 cd25 ct25), sl25⟩)
    (c25 : PySem.W.codeIn K cd25 "_law_deal" = true) (k25 : PySem.W.keepIn K (.ref f25) = true)
    (a26 : PySem.W.nsIn K mainGlobals "_law_either" = some (some (.ref f26)))
    (l26 : K.lookup f26 = some ⟨oc26, od26, .func (PySem.W.fnOf "_law_either" "_law_either" (defArgs s_either) (defBody s_either) (defScope s_either) .none kV26 dc26 pm26 an26 cd26 ct26), sl26⟩)
    (c26 : PySem.W.codeIn K cd26 "_law_either" = true) (k26 : PySem.W.keepIn K (.ref f26) = true)
    (a27 : PySem.W.nsIn K mainGlobals "_law_thrice" = some (some (.ref f27)))
    (l27 : K.lookup f27 = some ⟨oc27, od27, .func (PySem.W.fnOf "_law_thrice" "_law_thrice" (defArgs s_thrice) (defBody s_thrice) (defScope s_thrice) .none kV27 dc27 pm27 an27 cd27 ct27), sl27⟩)
    (c27 : PySem.W.codeIn K cd27 "_law_thrice" = true) (k27 : PySem.W.keepIn K (.ref f27) = true)
    (a28 : PySem.W.nsIn K mainGlobals "_law_uneven" = some (some (.ref f28)))
    (l28 : K.lookup f28 = some ⟨oc28, od28, .func (PySem.W.fnOf "_law_uneven" "_law_uneven" (defArgs s_uneven) (defBody s_uneven) (defScope s_uneven) .none kV28 dc28 pm28 an28 cd28 ct28), sl28⟩)
    (c28 : PySem.W.codeIn K cd28 "_law_uneven" = true) (k28 : PySem.W.keepIn K (.ref f28) = true)
    (a29 : PySem.W.nsIn K mainGlobals "_law_paid" = some (some (.ref f29)))
    (l29 : K.lookup f29 = some ⟨oc29, od29, .func (PySem.W.fnOf "_law_paid" "_law_paid" (defArgs s_paid) (defBody s_paid) (defScope s_paid) .none kV29 dc29 pm29 an29 cd29 ct29), sl29⟩)
    (c29 : PySem.W.codeIn K cd29 "_law_paid" = true) (k29 : PySem.W.keepIn K (.ref f29) = true)
    (a30 : PySem.W.nsIn K mainGlobals "_law_written" = some (some (.ref f30)))
    (l30 : K.lookup f30 = some ⟨oc30, od30, .func (PySem.W.fnOf "_law_written" "_law_written" (defArgs s_written) (defBody s_written) (defScope s_written) .none kV30 dc30 pm30 an30 cd30 ct30), sl30⟩)
    (c30 : PySem.W.codeIn K cd30 "_law_written" = true) (k30 : PySem.W.keepIn K (.ref f30) = true)
    (a31 : PySem.W.nsIn K mainGlobals "_law_drawn_machine" = some (some (.ref f31)))
    (l31 : K.lookup f31 = some ⟨oc31, od31, .func (PySem.W.fnOf "_law_drawn_machine" "_law_drawn_machine" (defArgs s_drawn_machine) (defBody s_drawn_machine) (defScope s_drawn_machine) .none kV31 dc31 pm31 an31 cd31 ct31), sl31⟩)
    (c31 : PySem.W.codeIn K cd31 "_law_drawn_machine" = true) (k31 : PySem.W.keepIn K (.ref f31) = true)
    (a32 : PySem.W.nsIn K mainGlobals "_law_any_machine" = some (some (.ref f32)))
    (l32 : K.lookup f32 = some ⟨oc32, od32, .func (PySem.W.fnOf "_law_any_machine" "_law_any_machine" (defArgs s_any_machine) (defBody s_any_machine) (defScope s_any_machine) .none kV32 dc32 pm32 an32 cd32 ct32), sl32⟩)
    (c32 : PySem.W.codeIn K cd32 "_law_any_machine" = true) (k32 : PySem.W.keepIn K (.ref f32) = true)
    (a33 : PySem.W.nsIn K mainGlobals "_law_images" = some (some (.ref f33)))
    (l33 : K.lookup f33 = some ⟨oc33, od33, .func (PySem.W.fnOf "_law_images" "_law_images" (defArgs s_images) (defBody s_images) (defScope s_images) .none kV33 dc33 pm33 an33 cd33 ct33), sl33⟩)
    (c33 : PySem.W.codeIn K cd33 "_law_images" = true) (k33 : PySem.W.keepIn K (.ref f33) = true)
    (a34 : PySem.W.nsIn K mainGlobals "_law_image" = some (some (.ref f34)))
    (l34 : K.lookup f34 = some ⟨oc34, od34, .func (PySem.W.fnOf "_law_image" "_law_image" (defArgs s_image) (defBody s_image) (defScope s_image) .none kV34 dc34 pm34 an34 cd34 ct34), sl34⟩)
    (c34 : PySem.W.codeIn K cd34 "_law_image" = true) (k34 : PySem.W.keepIn K (.ref f34) = true)
    (a35 : PySem.W.nsIn K mainGlobals "_law_spread" = some (some (.ref f35)))
    (l35 : K.lookup f35 = some ⟨oc35, od35, .func (PySem.W.fnOf "_law_spread" "_law_spread" (defArgs s_spread) (defBody s_spread) (defScope s_spread) .none kV35 dc35 pm35 an35 cd35 ct35), sl35⟩)
    (c35 : PySem.W.codeIn K cd35 "_law_spread" = true) (k35 : PySem.W.keepIn K (.ref f35) = true)
    (a36 : PySem.W.nsIn K mainGlobals "_law_pair_right" = some (some (.ref f36)))
    (l36 : K.lookup f36 = some ⟨oc36, od36, .func (PySem.W.fnOf "_law_pair_right" "_law_pair_right" (defArgs s_pair_right) (defBody s_pair_right) (defScope s_pair_right) .none kV36 dc36 pm36 an36 cd36 ct36), sl36⟩)
    (c36 : PySem.W.codeIn K cd36 "_law_pair_right" = true) (k36 : PySem.W.keepIn K (.ref f36) = true)
    (a37 : PySem.W.nsIn K mainGlobals "_law_right" = some (some (.ref f37)))
    (l37 : K.lookup f37 = some ⟨oc37, od37, .func (PySem.W.fnOf "_law_right" "_law_right" (defArgs s_right) (defBody s_right) (defScope s_right) .none kV37 dc37 pm37 an37 cd37 ct37), sl37⟩)
    (c37 : PySem.W.codeIn K cd37 "_law_right" = true) (k37 : PySem.W.keepIn K (.ref f37) = true)
    (a38 : PySem.W.nsIn K mainGlobals "law" = some (some (.ref f38)))
    (l38 : K.lookup f38 = some ⟨oc38, od38, .func (PySem.W.fnOf "law" "law" (defArgs s_law) (defBody s_law) (defScope s_law) .none kV38 dc38 pm38 an38 cd38 ct38), sl38⟩)
    (c38 : PySem.W.codeIn K cd38 "law" = true) (k38 : PySem.W.keepIn K (.ref f38) = true)
    {cc_Machine : Addr} (ca_Machine : PySem.W.nsIn K mainGlobals "Machine" = some (some (.ref cc_Machine))) (cx_Machine : obB K cc_Machine = true)
    {mf_Machine___init__ : Addr} {mod_Machine___init__ man_Machine___init__ : Option Addr} {msl_Machine___init__ : Array (Option Value)} {moc_Machine___init__ mkV_Machine___init__ mdc_Machine___init__ mpm_Machine___init__ mcd_Machine___init__ mct_Machine___init__ : Value}
    (ma_Machine___init__ : PySem.W.findIn K (.ref cc_Machine) "__init__" = some (some (.ref mf_Machine___init__))) (mi_Machine___init__ : PySem.W.isFn K (.ref mf_Machine___init__) = true)
    (ml_Machine___init__ : K.lookup mf_Machine___init__ = some ⟨moc_Machine___init__, mod_Machine___init__, .func (PySem.W.fnOf "__init__" "Machine.__init__" (defArgs s_Machine___init__) (defBody s_Machine___init__) (defScope s_Machine___init__) .none mkV_Machine___init__ mdc_Machine___init__ mpm_Machine___init__ man_Machine___init__ mcd_Machine___init__ mct_Machine___init__), msl_Machine___init__⟩)
    (md_Machine___init__ : PySem.W.codeIn K mcd_Machine___init__ "Machine.__init__" = true) (mk_Machine___init__ : PySem.W.keepIn K (.ref mf_Machine___init__) = true)
    {mf_Machine_steps : Addr} {mod_Machine_steps man_Machine_steps : Option Addr} {msl_Machine_steps : Array (Option Value)} {moc_Machine_steps mkV_Machine_steps mdc_Machine_steps mpm_Machine_steps mcd_Machine_steps mct_Machine_steps : Value}
    (ma_Machine_steps : PySem.W.findIn K (.ref cc_Machine) "steps" = some (some (.ref mf_Machine_steps))) (mi_Machine_steps : PySem.W.isFn K (.ref mf_Machine_steps) = true)
    (ml_Machine_steps : K.lookup mf_Machine_steps = some ⟨moc_Machine_steps, mod_Machine_steps, .func (PySem.W.fnOf "steps" "Machine.steps" (defArgs s_Machine_steps) (defBody s_Machine_steps) (defScope s_Machine_steps) .none mkV_Machine_steps mdc_Machine_steps mpm_Machine_steps man_Machine_steps mcd_Machine_steps mct_Machine_steps), msl_Machine_steps⟩)
    (md_Machine_steps : PySem.W.codeIn K mcd_Machine_steps "Machine.steps" = true) (mk_Machine_steps : PySem.W.keepIn K (.ref mf_Machine_steps) = true)
    {mf_Machine_renamed : Addr} {mod_Machine_renamed man_Machine_renamed : Option Addr} {msl_Machine_renamed : Array (Option Value)} {moc_Machine_renamed mkV_Machine_renamed mdc_Machine_renamed mpm_Machine_renamed mcd_Machine_renamed mct_Machine_renamed : Value}
    (ma_Machine_renamed : PySem.W.findIn K (.ref cc_Machine) "renamed" = some (some (.ref mf_Machine_renamed))) (mi_Machine_renamed : PySem.W.isFn K (.ref mf_Machine_renamed) = true)
    (ml_Machine_renamed : K.lookup mf_Machine_renamed = some ⟨moc_Machine_renamed, mod_Machine_renamed, .func (PySem.W.fnOf "renamed" "Machine.renamed" (defArgs s_Machine_renamed) (defBody s_Machine_renamed) (defScope s_Machine_renamed) .none mkV_Machine_renamed mdc_Machine_renamed mpm_Machine_renamed man_Machine_renamed mcd_Machine_renamed mct_Machine_renamed), msl_Machine_renamed⟩)
    (md_Machine_renamed : PySem.W.codeIn K mcd_Machine_renamed "Machine.renamed" = true) (mk_Machine_renamed : PySem.W.keepIn K (.ref mf_Machine_renamed) = true)
    {mf_Machine___len__ : Addr} {mod_Machine___len__ man_Machine___len__ : Option Addr} {msl_Machine___len__ : Array (Option Value)} {moc_Machine___len__ mkV_Machine___len__ mdc_Machine___len__ mpm_Machine___len__ mcd_Machine___len__ mct_Machine___len__ : Value}
    (ma_Machine___len__ : PySem.W.findIn K (.ref cc_Machine) "__len__" = some (some (.ref mf_Machine___len__))) (mi_Machine___len__ : PySem.W.isFn K (.ref mf_Machine___len__) = true)
    (ml_Machine___len__ : K.lookup mf_Machine___len__ = some ⟨moc_Machine___len__, mod_Machine___len__, .func (PySem.W.fnOf "__len__" "Machine.__len__" (defArgs s_Machine___len__) (defBody s_Machine___len__) (defScope s_Machine___len__) .none mkV_Machine___len__ mdc_Machine___len__ mpm_Machine___len__ man_Machine___len__ mcd_Machine___len__ mct_Machine___len__), msl_Machine___len__⟩)
    (md_Machine___len__ : PySem.W.codeIn K mcd_Machine___len__ "Machine.__len__" = true) (mk_Machine___len__ : PySem.W.keepIn K (.ref mf_Machine___len__) = true)
    {mf_Machine___eq__ : Addr} {mod_Machine___eq__ man_Machine___eq__ : Option Addr} {msl_Machine___eq__ : Array (Option Value)} {moc_Machine___eq__ mkV_Machine___eq__ mdc_Machine___eq__ mpm_Machine___eq__ mcd_Machine___eq__ mct_Machine___eq__ : Value}
    (ma_Machine___eq__ : PySem.W.findIn K (.ref cc_Machine) "__eq__" = some (some (.ref mf_Machine___eq__))) (mi_Machine___eq__ : PySem.W.isFn K (.ref mf_Machine___eq__) = true)
    (ml_Machine___eq__ : K.lookup mf_Machine___eq__ = some ⟨moc_Machine___eq__, mod_Machine___eq__, .func (PySem.W.fnOf "__eq__" "Machine.__eq__" (defArgs s_Machine___eq__) (defBody s_Machine___eq__) (defScope s_Machine___eq__) .none mkV_Machine___eq__ mdc_Machine___eq__ mpm_Machine___eq__ man_Machine___eq__ mcd_Machine___eq__ mct_Machine___eq__), msl_Machine___eq__⟩)
    (md_Machine___eq__ : PySem.W.codeIn K mcd_Machine___eq__ "Machine.__eq__" = true) (mk_Machine___eq__ : PySem.W.keepIn K (.ref mf_Machine___eq__) = true)
    {mf_Machine_firsts : Addr} {mod_Machine_firsts man_Machine_firsts : Option Addr} {msl_Machine_firsts : Array (Option Value)} {moc_Machine_firsts mkV_Machine_firsts mdc_Machine_firsts mpm_Machine_firsts mcd_Machine_firsts mct_Machine_firsts : Value}
    {mp_Machine_firsts : Addr} {mr_Machine_firsts : List Value} (ma_Machine_firsts : PySem.W.findIn K (.ref cc_Machine) "firsts" = some (some (.ref mp_Machine_firsts))) (mg_Machine_firsts : PySem.W.specialIn K (.ref mp_Machine_firsts) "__get__" = some (some (.builtin "property.__get__")))
    (mt_Machine_firsts : PySem.W.takesIn K (.ref mp_Machine_firsts) = some true) (mc_Machine_firsts : PySem.W.recIn K mp_Machine_firsts "property" = some (.ref mf_Machine_firsts :: mr_Machine_firsts))
    (ml_Machine_firsts : K.lookup mf_Machine_firsts = some ⟨moc_Machine_firsts, mod_Machine_firsts, .func (PySem.W.fnOf "firsts" "Machine.firsts" (defArgs s_Machine_firsts) (defBody s_Machine_firsts) (defScope s_Machine_firsts) .none mkV_Machine_firsts mdc_Machine_firsts mpm_Machine_firsts man_Machine_firsts mcd_Machine_firsts mct_Machine_firsts), msl_Machine_firsts⟩)
    (md_Machine_firsts : PySem.W.codeIn K mcd_Machine_firsts "Machine.firsts" = true) (mk_Machine_firsts : PySem.W.keepIn K (.ref mf_Machine_firsts) = true)
    {mf_Machine_states : Addr} {mod_Machine_states man_Machine_states : Option Addr} {msl_Machine_states : Array (Option Value)} {moc_Machine_states mkV_Machine_states mdc_Machine_states mpm_Machine_states mcd_Machine_states mct_Machine_states : Value}
    {mp_Machine_states : Addr} {mr_Machine_states : List Value} (ma_Machine_states : PySem.W.findIn K (.ref cc_Machine) "states" = some (some (.ref mp_Machine_states))) (mg_Machine_states : PySem.W.specialIn K (.ref mp_Machine_states) "__get__" = some (some (.builtin "property.__get__")))
    (mt_Machine_states : PySem.W.takesIn K (.ref mp_Machine_states) = some true) (mc_Machine_states : PySem.W.recIn K mp_Machine_states "property" = some (.ref mf_Machine_states :: mr_Machine_states))
    (ml_Machine_states : K.lookup mf_Machine_states = some ⟨moc_Machine_states, mod_Machine_states, .func (PySem.W.fnOf "states" "Machine.states" (defArgs s_Machine_states) (defBody s_Machine_states) (defScope s_Machine_states) .none mkV_Machine_states mdc_Machine_states mpm_Machine_states man_Machine_states mcd_Machine_states mct_Machine_states), msl_Machine_states⟩)
    (md_Machine_states : PySem.W.codeIn K mcd_Machine_states "Machine.states" = true) (mk_Machine_states : PySem.W.keepIn K (.ref mf_Machine_states) = true)
    {mf_Machine_letters : Addr} {mod_Machine_letters man_Machine_letters : Option Addr} {msl_Machine_letters : Array (Option Value)} {moc_Machine_letters mkV_Machine_letters mdc_Machine_letters mpm_Machine_letters mcd_Machine_letters mct_Machine_letters : Value}
    {mp_Machine_letters : Addr} {mr_Machine_letters : List Value} (ma_Machine_letters : PySem.W.findIn K (.ref cc_Machine) "letters" = some (some (.ref mp_Machine_letters))) (mg_Machine_letters : PySem.W.specialIn K (.ref mp_Machine_letters) "__get__" = some (some (.builtin "property.__get__")))
    (mt_Machine_letters : PySem.W.takesIn K (.ref mp_Machine_letters) = some true) (mc_Machine_letters : PySem.W.recIn K mp_Machine_letters "property" = some (.ref mf_Machine_letters :: mr_Machine_letters))
    (ml_Machine_letters : K.lookup mf_Machine_letters = some ⟨moc_Machine_letters, mod_Machine_letters, .func (PySem.W.fnOf "letters" "Machine.letters" (defArgs s_Machine_letters) (defBody s_Machine_letters) (defScope s_Machine_letters) .none mkV_Machine_letters mdc_Machine_letters mpm_Machine_letters man_Machine_letters mcd_Machine_letters mct_Machine_letters), msl_Machine_letters⟩)
    (md_Machine_letters : PySem.W.codeIn K mcd_Machine_letters "Machine.letters" = true) (mk_Machine_letters : PySem.W.keepIn K (.ref mf_Machine_letters) = true)
    {mf_Machine_lines : Addr} {mod_Machine_lines man_Machine_lines : Option Addr} {msl_Machine_lines : Array (Option Value)} {moc_Machine_lines mkV_Machine_lines mdc_Machine_lines mpm_Machine_lines mcd_Machine_lines mct_Machine_lines : Value}
    {mp_Machine_lines : Addr} {mr_Machine_lines : List Value} (ma_Machine_lines : PySem.W.findIn K (.ref cc_Machine) "lines" = some (some (.ref mp_Machine_lines))) (mg_Machine_lines : PySem.W.specialIn K (.ref mp_Machine_lines) "__get__" = some (some (.builtin "property.__get__")))
    (mt_Machine_lines : PySem.W.takesIn K (.ref mp_Machine_lines) = some true) (mc_Machine_lines : PySem.W.recIn K mp_Machine_lines "property" = some (.ref mf_Machine_lines :: mr_Machine_lines))
    (ml_Machine_lines : K.lookup mf_Machine_lines = some ⟨moc_Machine_lines, mod_Machine_lines, .func (PySem.W.fnOf "lines" "Machine.lines" (defArgs s_Machine_lines) (defBody s_Machine_lines) (defScope s_Machine_lines) .none mkV_Machine_lines mdc_Machine_lines mpm_Machine_lines man_Machine_lines mcd_Machine_lines mct_Machine_lines), msl_Machine_lines⟩)
    (md_Machine_lines : PySem.W.codeIn K mcd_Machine_lines "Machine.lines" = true) (mk_Machine_lines : PySem.W.keepIn K (.ref mf_Machine_lines) = true)
    (ce_kn_Machine : kitN K cc_Machine = true)
    {mq_Machine_own_arcs : Addr} (mb_Machine_own_arcs : PySem.W.findIn K (.ref cc_Machine) "own_arcs" = some (some (.ref mq_Machine_own_arcs))) (ce_Machine_own_arcs : slB K cc_Machine mq_Machine_own_arcs "own_arcs" 0 = true)
    {mq_Machine_own_firsts : Addr} (mb_Machine_own_firsts : PySem.W.findIn K (.ref cc_Machine) "own_firsts" = some (some (.ref mq_Machine_own_firsts))) (ce_Machine_own_firsts : slB K cc_Machine mq_Machine_own_firsts "own_firsts" 1 = true)
    {mq_Machine_own_lasts : Addr} (mb_Machine_own_lasts : PySem.W.findIn K (.ref cc_Machine) "own_lasts" = some (some (.ref mq_Machine_own_lasts))) (ce_Machine_own_lasts : slB K cc_Machine mq_Machine_own_lasts "own_lasts" 2 = true)
    {mq_Machine_own_lines : Addr} (mb_Machine_own_lines : PySem.W.findIn K (.ref cc_Machine) "own_lines" = some (some (.ref mq_Machine_own_lines))) (ce_Machine_own_lines : slB K cc_Machine mq_Machine_own_lines "own_lines" 3 = true)
    {mq_Machine_own_states : Addr} (mb_Machine_own_states : PySem.W.findIn K (.ref cc_Machine) "own_states" = some (some (.ref mq_Machine_own_states))) (ce_Machine_own_states : slB K cc_Machine mq_Machine_own_states "own_states" 4 = true)
    {mq_Machine_own_steps : Addr} (mb_Machine_own_steps : PySem.W.findIn K (.ref cc_Machine) "own_steps" = some (some (.ref mq_Machine_own_steps))) (ce_Machine_own_steps : slB K cc_Machine mq_Machine_own_steps "own_steps" 5 = true)
    (n_LIMIT : PySem.W.nsIn K mainGlobals "LIMIT" = some (some (.int (10 ^ 60) t_LIMIT)))
    (n_ALPHABET : PySem.W.nsIn K mainGlobals "ALPHABET" = some (some (.str "abcdefghijklmnopqrstuvwxyz" t_ALPHABET)))
    (n_MAX_LETTERS : PySem.W.nsIn K mainGlobals "MAX_LETTERS" = some (some (.int 8 t_MAX_LETTERS)))
    (n_MAX_STATES : PySem.W.nsIn K mainGlobals "MAX_STATES" = some (some (.int 24 t_MAX_STATES)))
    (n_MAX_PRICE : PySem.W.nsIn K mainGlobals "MAX_PRICE" = some (some (.int 9 t_MAX_PRICE)))
    (n_FIRST : PySem.W.nsIn K mainGlobals "FIRST" = some (some (.str "first" t_FIRST)))
    (n_LAST : PySem.W.nsIn K mainGlobals "LAST" = some (some (.str "last" t_LAST)))
    (n_ARC : PySem.W.nsIn K mainGlobals "ARC" = some (some (.str "arc" t_ARC)))
    (z_abs : PySem.W.nsIn K mainGlobals "abs" = some none)
    (z_all : PySem.W.nsIn K mainGlobals "all" = some none)
    (z_bool : PySem.W.nsIn K mainGlobals "bool" = some none)
    (z_dict : PySem.W.nsIn K mainGlobals "dict" = some none)
    (z_int : PySem.W.nsIn K mainGlobals "int" = some none)
    (z_isinstance : PySem.W.nsIn K mainGlobals "isinstance" = some none)
    (z_len : PySem.W.nsIn K mainGlobals "len" = some none)
    (z_list : PySem.W.nsIn K mainGlobals "list" = some none)
    (z_max : PySem.W.nsIn K mainGlobals "max" = some none)
    (z_min : PySem.W.nsIn K mainGlobals "min" = some none)
    (z_range : PySem.W.nsIn K mainGlobals "range" = some none)
    (z_set : PySem.W.nsIn K mainGlobals "set" = some none)
    (z_sorted : PySem.W.nsIn K mainGlobals "sorted" = some none)
    (z_str : PySem.W.nsIn K mainGlobals "str" = some none)
    (z_tuple : PySem.W.nsIn K mainGlobals "tuple" = some none)
    (z_zip : PySem.W.nsIn K mainGlobals "zip" = some none) :
    ∃ fd : FuncData, (∀ (s : Shared) (v : Value), BindsTo s fd ⟨[v], []⟩ [("_law_script", v)]) ∧ ∀ base : Heap, K.In base → base.Ns mainGlobals mg →
      FnG l.prog w K mg base CX0 11 fa fd ["_law_script"] (spLaw K) := by
  have e := hfa.symm.trans (PySem.W.mg_of X G a38)
  cases e
  have F1 := fun_mk (st := s_is_integer) l1 c1 k1
  have b1 := F1.binds (ps := P_is_integer) fun _ _ _ _ _ _ us hl => match us, hl with | [_], _ => rfl
  have F2 := fun_mk (st := s_is_within) l2 c2 k2
  have b2 := F2.binds (ps := P_is_within) fun _ _ _ _ _ _ us hl => match us, hl with | [_, _, _], _ => rfl
  have F3 := fun_mk (st := s_is_spelt) l3 c3 k3
  have b3 := F3.binds (ps := P_is_spelt) fun _ _ _ _ _ _ us hl => match us, hl with | [_], _ => rfl
  have F4 := fun_mk (st := s_is_name) l4 c4 k4
  have b4 := F4.binds (ps := P_is_name) fun _ _ _ _ _ _ us hl => match us, hl with | [_], _ => rfl
  have F5 := fun_mk (st := s_is_letter) l5 c5 k5
  have b5 := F5.binds (ps := P_is_letter) fun _ _ _ _ _ _ us hl => match us, hl with | [_], _ => rfl
  have F6 := fun_mk (st := s_are_names) l6 c6 k6
  have b6 := F6.binds (ps := P_are_names) fun _ _ _ _ _ _ us hl => match us, hl with | [_], _ => rfl
  have F7 := fun_mk (st := s_is_place) l7 c7 k7
  have b7 := F7.binds (ps := P_is_place) fun _ _ _ _ _ _ us hl => match us, hl with | [_], _ => rfl
  have F8 := fun_mk (st := s_is_price) l8 c8 k8
  have b8 := F8.binds (ps := P_is_price) fun _ _ _ _ _ _ us hl => match us, hl with | [_], _ => rfl
  have F9 := fun_mk (st := s_are_ends) l9 c9 k9
  have b9 := F9.binds (ps := P_are_ends) fun _ _ _ _ _ _ us hl => match us, hl with | [_], _ => rfl
  have F10 := fun_mk (st := s_states_of) l10 c10 k10
  have b10 := F10.binds (ps := P_states_of) fun _ _ _ _ _ _ us hl => match us, hl with | [_, _, _], _ => rfl
  have F11 := fun_mk (st := s_are_parts) l11 c11 k11
  have b11 := F11.binds (ps := P_are_parts) fun _ _ _ _ _ _ us hl => match us, hl with | [_, _, _], _ => rfl
  have F12 := fun_mk (st := s_steps_in) l12 c12 k12
  have b12 := F12.binds (ps := P_steps_in) fun _ _ _ _ _ _ us hl => match us, hl with | [_], _ => rfl
  have F13 := fun_mk (st := s_is_renaming) l13 c13 k13
  have b13 := F13.binds (ps := P_is_renaming) fun _ _ _ _ _ _ us hl => match us, hl with | [_, _], _ => rfl
  have F14 := fun_mk (st := s_dice) l14 c14 k14
  have b14 := F14.binds (ps := P_dice) fun _ _ _ _ _ _ us hl => match us, hl with | [_, _], _ => rfl
  have F15 := fun_mk (st := s_roll) l15 c15 k15
  have b15 := F15.binds (ps := P_roll) fun _ _ _ _ _ _ us hl => match us, hl with | [_, _], _ => rfl
  have F16 := fun_mk (st := s_pick) l16 c16 k16
  have b16 := F16.binds (ps := P_pick) fun _ _ _ _ _ _ us hl => match us, hl with | [_, _], _ => rfl
  have F17 := fun_mk (st := s_mixed) l17 c17 k17
  have b17 := F17.binds (ps := P_mixed) fun _ _ _ _ _ _ us hl => match us, hl with | [_, _], _ => rfl
  have F18 := fun_mk (st := s_some) l18 c18 k18
  have b18 := F18.binds (ps := P_some) fun _ _ _ _ _ _ us hl => match us, hl with | [_, _], _ => rfl
  have F19 := fun_mk (st := s_state_names) l19 c19 k19
  have b19 := F19.binds (ps := P_state_names) fun _ _ _ _ _ _ us hl => match us, hl with | [_, _], _ => rfl
  have F20 := fun_mk (st := s_plain) l20 c20 k20
  have b20 := F20.binds (ps := P_plain) fun _ _ _ _ _ _ us hl => match us, hl with | [_], _ => rfl
  have F21 := fun_mk (st := s_lines) l21 c21 k21
  have b21 := F21.binds (ps := P_lines) fun _ _ _ _ _ _ us hl => match us, hl with | [_], _ => rfl
  have F22 := fun_mk (st := s_made) l22 c22 k22
  have b22 := F22.binds (ps := P_made) fun _ _ _ _ _ _ us hl => match us, hl with | [_], _ => rfl
  have F23 := fun_mk (st := s_block) l23 c23 k23
  have b23 := F23.binds (ps := P_block) fun _ _ _ _ _ _ us hl => match us, hl with | [], _ => rfl
  have F24 := fun_mk (st := s_count) l24 c24 k24
  have b24 := F24.binds (ps := P_count) fun _ _ _ _ _ _ us hl => match us, hl with | [], _ => rfl
  have F25 := fun_mk (st := s_deal) l25 c25 k25
  have b25 := F25.binds (ps := P_deal) fun _ _ _ _ _ _ us hl => match us, hl with | [], _ => rfl
  have F26 := fun_mk (st := s_either) l26 c26 k26
  have b26 := F26.binds (ps := P_either) fun _ _ _ _ _ _ us hl => match us, hl with | [], _ => rfl
  have F27 := fun_mk (st := s_thrice) l27 c27 k27
  have b27 := F27.binds (ps := P_thrice) fun _ _ _ _ _ _ us hl => match us, hl with | [], _ => rfl
  have F28 := fun_mk (st := s_uneven) l28 c28 k28
  have b28 := F28.binds (ps := P_uneven) fun _ _ _ _ _ _ us hl => match us, hl with | [], _ => rfl
  have F29 := fun_mk (st := s_paid) l29 c29 k29
  have b29 := F29.binds (ps := P_paid) fun _ _ _ _ _ _ us hl => match us, hl with | [], _ => rfl
  have F30 := fun_mk (st := s_written) l30 c30 k30
  have b30 := F30.binds (ps := P_written) fun _ _ _ _ _ _ us hl => match us, hl with | [_], _ => rfl
  have F31 := fun_mk (st := s_drawn_machine) l31 c31 k31
  have b31 := F31.binds (ps := P_drawn_machine) fun _ _ _ _ _ _ us hl => match us, hl with | [_, _, _], _ => rfl
  have F32 := fun_mk (st := s_any_machine) l32 c32 k32
  have b32 := F32.binds (ps := P_any_machine) fun _ _ _ _ _ _ us hl => match us, hl with | [_, _, _], _ => rfl
  have F33 := fun_mk (st := s_images) l33 c33 k33
  have b33 := F33.binds (ps := P_images) fun _ _ _ _ _ _ us hl => match us, hl with | [_, _], _ => rfl
  have F34 := fun_mk (st := s_image) l34 c34 k34
  have b34 := F34.binds (ps := P_image) fun _ _ _ _ _ _ us hl => match us, hl with | [_, _], _ => rfl
  have F35 := fun_mk (st := s_spread) l35 c35 k35
  have b35 := F35.binds (ps := P_spread) fun _ _ _ _ _ _ us hl => match us, hl with | [_, _], _ => rfl
  have F36 := fun_mk (st := s_pair_right) l36 c36 k36
  have b36 := F36.binds (ps := P_pair_right) fun _ _ _ _ _ _ us hl => match us, hl with | [_, _, _, _], _ => rfl
  have F37 := fun_mk (st := s_right) l37 c37 k37
  have b37 := F37.binds (ps := P_right) fun _ _ _ _ _ _ us hl => match us, hl with | [_], _ => rfl
  have F38 := fun_mk (st := s_law) l38 c38 k38
  have b38 := F38.binds (ps := P_law) fun _ _ _ _ _ _ us hl => match us, hl with | [_], _ => rfl
  have F_Machine___init__ := fun_mk (st := s_Machine___init__) ml_Machine___init__ md_Machine___init__ mk_Machine___init__
  have b_Machine___init__ := F_Machine___init__.binds (ps := P_Machine___init__) fun _ _ _ _ _ _ us hl => match us, hl with | [_, _, _, _], _ => rfl
  have F_Machine_steps := fun_mk (st := s_Machine_steps) ml_Machine_steps md_Machine_steps mk_Machine_steps
  have b_Machine_steps := F_Machine_steps.binds (ps := P_Machine_steps) fun _ _ _ _ _ _ us hl => match us, hl with | [_, _, _], _ => rfl
  have F_Machine_renamed := fun_mk (st := s_Machine_renamed) ml_Machine_renamed md_Machine_renamed mk_Machine_renamed
  have b_Machine_renamed := F_Machine_renamed.binds (ps := P_Machine_renamed) fun _ _ _ _ _ _ us hl => match us, hl with | [_, _], _ => rfl
  have F_Machine___len__ := fun_mk (st := s_Machine___len__) ml_Machine___len__ md_Machine___len__ mk_Machine___len__
  have b_Machine___len__ := F_Machine___len__.binds (ps := P_Machine___len__) fun _ _ _ _ _ _ us hl => match us, hl with | [_], _ => rfl
  have F_Machine___eq__ := fun_mk (st := s_Machine___eq__) ml_Machine___eq__ md_Machine___eq__ mk_Machine___eq__
  have b_Machine___eq__ := F_Machine___eq__.binds (ps := P_Machine___eq__) fun _ _ _ _ _ _ us hl => match us, hl with | [_, _], _ => rfl
  have F_Machine_firsts := fun_mk (st := s_Machine_firsts) ml_Machine_firsts md_Machine_firsts mk_Machine_firsts
  have b_Machine_firsts := F_Machine_firsts.binds (ps := P_Machine_firsts) fun _ _ _ _ _ _ us hl => match us, hl with | [_], _ => rfl
  have F_Machine_states := fun_mk (st := s_Machine_states) ml_Machine_states md_Machine_states mk_Machine_states
  have b_Machine_states := F_Machine_states.binds (ps := P_Machine_states) fun _ _ _ _ _ _ us hl => match us, hl with | [_], _ => rfl
  have F_Machine_letters := fun_mk (st := s_Machine_letters) ml_Machine_letters md_Machine_letters mk_Machine_letters
  have b_Machine_letters := F_Machine_letters.binds (ps := P_Machine_letters) fun _ _ _ _ _ _ us hl => match us, hl with | [_], _ => rfl
  have F_Machine_lines := fun_mk (st := s_Machine_lines) ml_Machine_lines md_Machine_lines mk_Machine_lines
  have b_Machine_lines := F_Machine_lines.binds (ps := P_Machine_lines) fun _ _ _ _ _ _ us hl => match us, hl with | [_], _ => rfl
  let Z : Ad := ⟨f1, PySem.W.fnOf "is_integer" "is_integer" (defArgs s_is_integer) (defBody s_is_integer) (defScope s_is_integer) .none kV1 dc1 pm1 an1 cd1 ct1,
    f2, PySem.W.fnOf "is_within" "is_within" (defArgs s_is_within) (defBody s_is_within) (defScope s_is_within) .none kV2 dc2 pm2 an2 cd2 ct2,
    f3, PySem.W.fnOf "is_spelt" "is_spelt" (defArgs s_is_spelt) (defBody s_is_spelt) (defScope s_is_spelt) .none kV3 dc3 pm3 an3 cd3 ct3,
    f4, PySem.W.fnOf "is_name" "is_name" (defArgs s_is_name) (defBody s_is_name) (defScope s_is_name) .none kV4 dc4 pm4 an4 cd4 ct4,
    f5, PySem.W.fnOf "is_letter" "is_letter" (defArgs s_is_letter) (defBody s_is_letter) (defScope s_is_letter) .none kV5 dc5 pm5 an5 cd5 ct5,
    f6, PySem.W.fnOf "are_names" "are_names" (defArgs s_are_names) (defBody s_are_names) (defScope s_are_names) .none kV6 dc6 pm6 an6 cd6 ct6,
    f7, PySem.W.fnOf "is_place" "is_place" (defArgs s_is_place) (defBody s_is_place) (defScope s_is_place) .none kV7 dc7 pm7 an7 cd7 ct7,
    f8, PySem.W.fnOf "is_price" "is_price" (defArgs s_is_price) (defBody s_is_price) (defScope s_is_price) .none kV8 dc8 pm8 an8 cd8 ct8,
    f9, PySem.W.fnOf "are_ends" "are_ends" (defArgs s_are_ends) (defBody s_are_ends) (defScope s_are_ends) .none kV9 dc9 pm9 an9 cd9 ct9,
    f10, PySem.W.fnOf "states_of" "states_of" (defArgs s_states_of) (defBody s_states_of) (defScope s_states_of) .none kV10 dc10 pm10 an10 cd10 ct10,
    f11, PySem.W.fnOf "are_parts" "are_parts" (defArgs s_are_parts) (defBody s_are_parts) (defScope s_are_parts) .none kV11 dc11 pm11 an11 cd11 ct11,
    f12, PySem.W.fnOf "steps_in" "steps_in" (defArgs s_steps_in) (defBody s_steps_in) (defScope s_steps_in) .none kV12 dc12 pm12 an12 cd12 ct12,
    f13, PySem.W.fnOf "is_renaming" "is_renaming" (defArgs s_is_renaming) (defBody s_is_renaming) (defScope s_is_renaming) .none kV13 dc13 pm13 an13 cd13 ct13,
    f14, PySem.W.fnOf "_law_dice" "_law_dice" (defArgs s_dice) (defBody s_dice) (defScope s_dice) .none kV14 dc14 pm14 an14 cd14 ct14,
    f15, PySem.W.fnOf "_law_roll" "_law_roll" (defArgs s_roll) (defBody s_roll) (defScope s_roll) .none kV15 dc15 pm15 an15 cd15 ct15,
    f16, PySem.W.fnOf "_law_pick" "_law_pick" (defArgs s_pick) (defBody s_pick) (defScope s_pick) .none kV16 dc16 pm16 an16 cd16 ct16,
    f17, PySem.W.fnOf "_law_mixed" "_law_mixed" (defArgs s_mixed) (defBody s_mixed) (defScope s_mixed) .none kV17 dc17 pm17 an17 cd17 ct17,
    f18, PySem.W.fnOf "_law_some" "_law_some" (defArgs s_some) (defBody s_some) (defScope s_some) .none kV18 dc18 pm18 an18 cd18 ct18,
    f19, PySem.W.fnOf "_law_state_names" "_law_state_names" (defArgs s_state_names) (defBody s_state_names) (defScope s_state_names) .none kV19 dc19 pm19 an19 cd19 ct19,
    f20, PySem.W.fnOf "_law_plain" "_law_plain" (defArgs s_plain) (defBody s_plain) (defScope s_plain) .none kV20 dc20 pm20 an20 cd20 ct20,
    f21, PySem.W.fnOf "_law_lines" "_law_lines" (defArgs s_lines) (defBody s_lines) (defScope s_lines) .none kV21 dc21 pm21 an21 cd21 ct21,
    f22, PySem.W.fnOf "_law_made" "_law_made" (defArgs s_made) (defBody s_made) (defScope s_made) .none kV22 dc22 pm22 an22 cd22 ct22,
    f23, PySem.W.fnOf "_law_block" "_law_block" (defArgs s_block) (defBody s_block) (defScope s_block) .none kV23 dc23 pm23 an23 cd23 ct23,
    f24, PySem.W.fnOf "_law_count" "_law_count" (defArgs s_count) (defBody s_count) (defScope s_count) .none kV24 dc24 pm24 an24 cd24 ct24,
    f25, PySem.W.fnOf "_law_deal" "_law_deal" (defArgs s_deal) (defBody s_deal) (defScope s_deal) .none kV25 dc25 pm25 an25 cd25 ct25,
    f26, PySem.W.fnOf "_law_either" "_law_either" (defArgs s_either) (defBody s_either) (defScope s_either) .none kV26 dc26 pm26 an26 cd26 ct26,
    f27, PySem.W.fnOf "_law_thrice" "_law_thrice" (defArgs s_thrice) (defBody s_thrice) (defScope s_thrice) .none kV27 dc27 pm27 an27 cd27 ct27,
    f28, PySem.W.fnOf "_law_uneven" "_law_uneven" (defArgs s_uneven) (defBody s_uneven) (defScope s_uneven) .none kV28 dc28 pm28 an28 cd28 ct28,
    f29, PySem.W.fnOf "_law_paid" "_law_paid" (defArgs s_paid) (defBody s_paid) (defScope s_paid) .none kV29 dc29 pm29 an29 cd29 ct29,
    f30, PySem.W.fnOf "_law_written" "_law_written" (defArgs s_written) (defBody s_written) (defScope s_written) .none kV30 dc30 pm30 an30 cd30 ct30,
    f31, PySem.W.fnOf "_law_drawn_machine" "_law_drawn_machine" (defArgs s_drawn_machine) (defBody s_drawn_machine) (defScope s_drawn_machine) .none kV31 dc31 pm31 an31 cd31 ct31,
    f32, PySem.W.fnOf "_law_any_machine" "_law_any_machine" (defArgs s_any_machine) (defBody s_any_machine) (defScope s_any_machine) .none kV32 dc32 pm32 an32 cd32 ct32,
    f33, PySem.W.fnOf "_law_images" "_law_images" (defArgs s_images) (defBody s_images) (defScope s_images) .none kV33 dc33 pm33 an33 cd33 ct33,
    f34, PySem.W.fnOf "_law_image" "_law_image" (defArgs s_image) (defBody s_image) (defScope s_image) .none kV34 dc34 pm34 an34 cd34 ct34,
    f35, PySem.W.fnOf "_law_spread" "_law_spread" (defArgs s_spread) (defBody s_spread) (defScope s_spread) .none kV35 dc35 pm35 an35 cd35 ct35,
    f36, PySem.W.fnOf "_law_pair_right" "_law_pair_right" (defArgs s_pair_right) (defBody s_pair_right) (defScope s_pair_right) .none kV36 dc36 pm36 an36 cd36 ct36,
    f37, PySem.W.fnOf "_law_right" "_law_right" (defArgs s_right) (defBody s_right) (defScope s_right) .none kV37 dc37 pm37 an37 cd37 ct37,
    fa, PySem.W.fnOf "law" "law" (defArgs s_law) (defBody s_law) (defScope s_law) .none kV38 dc38 pm38 an38 cd38 ct38,
    mf_Machine___init__, PySem.W.fnOf "__init__" "Machine.__init__" (defArgs s_Machine___init__) (defBody s_Machine___init__) (defScope s_Machine___init__) .none mkV_Machine___init__ mdc_Machine___init__ mpm_Machine___init__ man_Machine___init__ mcd_Machine___init__ mct_Machine___init__,
    mf_Machine_steps, PySem.W.fnOf "steps" "Machine.steps" (defArgs s_Machine_steps) (defBody s_Machine_steps) (defScope s_Machine_steps) .none mkV_Machine_steps mdc_Machine_steps mpm_Machine_steps man_Machine_steps mcd_Machine_steps mct_Machine_steps,
    mf_Machine_renamed, PySem.W.fnOf "renamed" "Machine.renamed" (defArgs s_Machine_renamed) (defBody s_Machine_renamed) (defScope s_Machine_renamed) .none mkV_Machine_renamed mdc_Machine_renamed mpm_Machine_renamed man_Machine_renamed mcd_Machine_renamed mct_Machine_renamed,
    mf_Machine___len__, PySem.W.fnOf "__len__" "Machine.__len__" (defArgs s_Machine___len__) (defBody s_Machine___len__) (defScope s_Machine___len__) .none mkV_Machine___len__ mdc_Machine___len__ mpm_Machine___len__ man_Machine___len__ mcd_Machine___len__ mct_Machine___len__,
    mf_Machine___eq__, PySem.W.fnOf "__eq__" "Machine.__eq__" (defArgs s_Machine___eq__) (defBody s_Machine___eq__) (defScope s_Machine___eq__) .none mkV_Machine___eq__ mdc_Machine___eq__ mpm_Machine___eq__ man_Machine___eq__ mcd_Machine___eq__ mct_Machine___eq__,
    mf_Machine_firsts, PySem.W.fnOf "firsts" "Machine.firsts" (defArgs s_Machine_firsts) (defBody s_Machine_firsts) (defScope s_Machine_firsts) .none mkV_Machine_firsts mdc_Machine_firsts mpm_Machine_firsts man_Machine_firsts mcd_Machine_firsts mct_Machine_firsts,
    mf_Machine_states, PySem.W.fnOf "states" "Machine.states" (defArgs s_Machine_states) (defBody s_Machine_states) (defScope s_Machine_states) .none mkV_Machine_states mdc_Machine_states mpm_Machine_states man_Machine_states mcd_Machine_states mct_Machine_states,
    mf_Machine_letters, PySem.W.fnOf "letters" "Machine.letters" (defArgs s_Machine_letters) (defBody s_Machine_letters) (defScope s_Machine_letters) .none mkV_Machine_letters mdc_Machine_letters mpm_Machine_letters man_Machine_letters mcd_Machine_letters mct_Machine_letters,
    mf_Machine_lines, PySem.W.fnOf "lines" "Machine.lines" (defArgs s_Machine_lines) (defBody s_Machine_lines) (defScope s_Machine_lines) .none mkV_Machine_lines mdc_Machine_lines mpm_Machine_lines man_Machine_lines mcd_Machine_lines mct_Machine_lines,
    cc_Machine,
    mp_Machine_firsts,
    mp_Machine_states,
    mp_Machine_letters,
    mp_Machine_lines,
    mq_Machine_own_arcs,
    mq_Machine_own_firsts,
    mq_Machine_own_lasts,
    mq_Machine_own_lines,
    mq_Machine_own_states,
    mq_Machine_own_steps⟩
  have B : Bt mg := ⟨PySem.W.mg_none_of X G z_abs, PySem.W.mg_none_of X G z_all, PySem.W.mg_none_of X G z_bool, PySem.W.mg_none_of X G z_dict, PySem.W.mg_none_of X G z_int, PySem.W.mg_none_of X G z_isinstance, PySem.W.mg_none_of X G z_len, PySem.W.mg_none_of X G z_list, PySem.W.mg_none_of X G z_max, PySem.W.mg_none_of X G z_min, PySem.W.mg_none_of X G z_range, PySem.W.mg_none_of X G z_set, PySem.W.mg_none_of X G z_sorted, PySem.W.mg_none_of X G z_str, PySem.W.mg_none_of X G z_tuple, PySem.W.mg_none_of X G z_zip⟩
  have C0 : Cs mg := ⟨⟨_, PySem.W.mg_of X G n_LIMIT⟩, ⟨_, PySem.W.mg_of X G n_ALPHABET⟩, ⟨_, PySem.W.mg_of X G n_MAX_LETTERS⟩, ⟨_, PySem.W.mg_of X G n_MAX_STATES⟩, ⟨_, PySem.W.mg_of X G n_MAX_PRICE⟩, ⟨_, PySem.W.mg_of X G n_FIRST⟩, ⟨_, PySem.W.mg_of X G n_LAST⟩, ⟨_, PySem.W.mg_of X G n_ARC⟩⟩
  have D : Ds K mg Z := ⟨⟨F1, PySem.W.mg_of X G a1, b1⟩, ⟨F2, PySem.W.mg_of X G a2, b2⟩, ⟨F3, PySem.W.mg_of X G a3, b3⟩, ⟨F4, PySem.W.mg_of X G a4, b4⟩, ⟨F5, PySem.W.mg_of X G a5, b5⟩, ⟨F6, PySem.W.mg_of X G a6, b6⟩, ⟨F7, PySem.W.mg_of X G a7, b7⟩, ⟨F8, PySem.W.mg_of X G a8, b8⟩, ⟨F9, PySem.W.mg_of X G a9, b9⟩, ⟨F10, PySem.W.mg_of X G a10, b10⟩, ⟨F11, PySem.W.mg_of X G a11, b11⟩, ⟨F12, PySem.W.mg_of X G a12, b12⟩, ⟨F13, PySem.W.mg_of X G a13, b13⟩, ⟨F14, PySem.W.mg_of X G a14, b14⟩, ⟨F15, PySem.W.mg_of X G a15, b15⟩, ⟨F16, PySem.W.mg_of X G a16, b16⟩, ⟨F17, PySem.W.mg_of X G a17, b17⟩, ⟨F18, PySem.W.mg_of X G a18, b18⟩, ⟨F19, PySem.W.mg_of X G a19, b19⟩, ⟨F20, PySem.W.mg_of X G a20, b20⟩, ⟨F21, PySem.W.mg_of X G a21, b21⟩, ⟨F22, PySem.W.mg_of X G a22, b22⟩, ⟨F23, PySem.W.mg_of X G a23, b23⟩, ⟨F24, PySem.W.mg_of X G a24, b24⟩, ⟨F25, PySem.W.mg_of X G a25, b25⟩, ⟨F26, PySem.W.mg_of X G a26, b26⟩, ⟨F27, PySem.W.mg_of X G a27, b27⟩, ⟨F28, PySem.W.mg_of X G a28, b28⟩, ⟨F29, PySem.W.mg_of X G a29, b29⟩, ⟨F30, PySem.W.mg_of X G a30, b30⟩, ⟨F31, PySem.W.mg_of X G a31, b31⟩, ⟨F32, PySem.W.mg_of X G a32, b32⟩, ⟨F33, PySem.W.mg_of X G a33, b33⟩, ⟨F34, PySem.W.mg_of X G a34, b34⟩, ⟨F35, PySem.W.mg_of X G a35, b35⟩, ⟨F36, PySem.W.mg_of X G a36, b36⟩, ⟨F37, PySem.W.mg_of X G a37, b37⟩, ⟨F38, PySem.W.mg_of X G a38, b38⟩, ⟨F_Machine___init__, ma_Machine___init__, mi_Machine___init__, b_Machine___init__⟩, ⟨F_Machine_steps, ma_Machine_steps, mi_Machine_steps, b_Machine_steps⟩, ⟨F_Machine_renamed, ma_Machine_renamed, mi_Machine_renamed, b_Machine_renamed⟩, ⟨F_Machine___len__, ma_Machine___len__, mi_Machine___len__, b_Machine___len__⟩, ⟨F_Machine___eq__, ma_Machine___eq__, mi_Machine___eq__, b_Machine___eq__⟩, ⟨F_Machine_firsts, ma_Machine_firsts, mg_Machine_firsts, mt_Machine_firsts, ⟨_, mc_Machine_firsts⟩, b_Machine_firsts⟩, ⟨F_Machine_states, ma_Machine_states, mg_Machine_states, mt_Machine_states, ⟨_, mc_Machine_states⟩, b_Machine_states⟩, ⟨F_Machine_letters, ma_Machine_letters, mg_Machine_letters, mt_Machine_letters, ⟨_, mc_Machine_letters⟩, b_Machine_letters⟩, ⟨F_Machine_lines, ma_Machine_lines, mg_Machine_lines, mt_Machine_lines, ⟨_, mc_Machine_lines⟩, b_Machine_lines⟩, ob_of (PySem.W.mg_of X G ca_Machine) cx_Machine, ce_kn_Machine, sl_of ce_Machine_own_arcs, sl_of ce_Machine_own_firsts, sl_of ce_Machine_own_lasts, sl_of ce_Machine_own_lines, sl_of ce_Machine_own_states, sl_of ce_Machine_own_steps⟩
  exact ⟨_, fun s v => .of_eq rfl, fun base _ _ => ok_law (Z := Z) D B C0⟩
end K07
open PySem PySem.W PyProof.Rows in
set_option maxRecDepth 100000 in
set_option maxHeartbeats 0 in
theorem PySem.Challenge.cw_lastprices_k07_whole_renamed_machines_holds : PySem.Challenge.rw_lastprices_k07_whole_renamed_machines.Holds := by
  w_on; o_law; k_head; (case hw => w_witness2)
  k_fill
  refine LP.walk_ofG (l := PySem.Challenge.rw_lastprices_k07_whole_renamed_machines) (n := 63) (k := 11) (x := "_law_script") (sp := K07.spLaw) rfl (by decide) rfl ⟨rfl, by decide, by decide⟩ (fun w h Y => PySem.W.kIn_of Y) ?F (fun _ _ a ns hl _ hS => ⟨a, ns, rfl, hS, hl, fun _ => rfl⟩)
  case F =>
    intro w mg fa h KX G hmg
    refine' K07.all_mk KX G hmg ?a1 ?l1 ?c1 ?k1 ?a2 ?l2 ?c2 ?k2 ?a3 ?l3 ?c3 ?k3 ?a4 ?l4 ?c4 ?k4 ?a5 ?l5 ?c5 ?k5 ?a6 ?l6 ?c6 ?k6 ?a7 ?l7 ?c7 ?k7 ?a8 ?l8 ?c8 ?k8 ?a9 ?l9 ?c9 ?k9 ?a10 ?l10 ?c10 ?k10 ?a11 ?l11 ?c11 ?k11 ?a12 ?l12 ?c12 ?k12 ?a13 ?l13 ?c13 ?k13 ?a14 ?l14 ?c14 ?k14 ?a15 ?l15 ?c15 ?k15 ?a16 ?l16 ?c16 ?k16 ?a17 ?l17 ?c17 ?k17 ?a18 ?l18 ?c18 ?k18 ?a19 ?l19 ?c19 ?k19 ?a20 ?l20 ?c20 ?k20 ?a21 ?l21 ?c21 ?k21 ?a22 ?l22 ?c22 ?k22 ?a23 ?l23 ?c23 ?k23 ?a24 ?l24 ?c24 ?k24 ?a25 ?l25 ?c25 ?k25 ?a26 ?l26 ?c26 ?k26 ?a27 ?l27 ?c27 ?k27 ?a28 ?l28 ?c28 ?k28 ?a29 ?l29 ?c29 ?k29 ?a30 ?l30 ?c30 ?k30 ?a31 ?l31 ?c31 ?k31 ?a32 ?l32 ?c32 ?k32 ?a33 ?l33 ?c33 ?k33 ?a34 ?l34 ?c34 ?k34 ?a35 ?l35 ?c35 ?k35 ?a36 ?l36 ?c36 ?k36 ?a37 ?l37 ?c37 ?k37 ?a38 ?l38 ?c38 ?k38 ?ca_Machine ?cx_Machine ?ma_Machine___init__ ?mi_Machine___init__ ?ml_Machine___init__ ?md_Machine___init__ ?mk_Machine___init__ ?ma_Machine_steps ?mi_Machine_steps ?ml_Machine_steps ?md_Machine_steps ?mk_Machine_steps ?ma_Machine_renamed ?mi_Machine_renamed ?ml_Machine_renamed ?md_Machine_renamed ?mk_Machine_renamed ?ma_Machine___len__ ?mi_Machine___len__ ?ml_Machine___len__ ?md_Machine___len__ ?mk_Machine___len__ ?ma_Machine___eq__ ?mi_Machine___eq__ ?ml_Machine___eq__ ?md_Machine___eq__ ?mk_Machine___eq__ ?ma_Machine_firsts ?mg_Machine_firsts ?mt_Machine_firsts ?mc_Machine_firsts ?ml_Machine_firsts ?md_Machine_firsts ?mk_Machine_firsts ?ma_Machine_states ?mg_Machine_states ?mt_Machine_states ?mc_Machine_states ?ml_Machine_states ?md_Machine_states ?mk_Machine_states ?ma_Machine_letters ?mg_Machine_letters ?mt_Machine_letters ?mc_Machine_letters ?ml_Machine_letters ?md_Machine_letters ?mk_Machine_letters ?ma_Machine_lines ?mg_Machine_lines ?mt_Machine_lines ?mc_Machine_lines ?ml_Machine_lines ?md_Machine_lines ?mk_Machine_lines ?ce_kn_Machine ?mb_Machine_own_arcs ?ce_Machine_own_arcs ?mb_Machine_own_firsts ?ce_Machine_own_firsts ?mb_Machine_own_lasts ?ce_Machine_own_lasts ?mb_Machine_own_lines ?ce_Machine_own_lines ?mb_Machine_own_states ?ce_Machine_own_states ?mb_Machine_own_steps ?ce_Machine_own_steps ?n_LIMIT ?n_ALPHABET ?n_MAX_LETTERS ?n_MAX_STATES ?n_MAX_PRICE ?n_FIRST ?n_LAST ?n_ARC ?z_abs ?z_all ?z_bool ?z_dict ?z_int ?z_isinstance ?z_len ?z_list ?z_max ?z_min ?z_range ?z_set ?z_sorted ?z_str ?z_tuple ?z_zip
    (case a1 => k_is)
    (case l1 => k_is)
    (case c1 => k_is)
    (case k1 => k_is)
    (case a2 => k_is)
    (case l2 => k_is)
    (case c2 => k_is)
    (case k2 => k_is)
    (case a3 => k_is)
    (case l3 => k_is)
    (case c3 => k_is)
    (case k3 => k_is)
    (case a4 => k_is)
    (case l4 => k_is)
    (case c4 => k_is)
    (case k4 => k_is)
    (case a5 => k_is)
    (case l5 => k_is)
    (case c5 => k_is)
    (case k5 => k_is)
    (case a6 => k_is)
    (case l6 => k_is)
    (case c6 => k_is)
    (case k6 => k_is)
    (case a7 => k_is)
    (case l7 => k_is)
    (case c7 => k_is)
    (case k7 => k_is)
    (case a8 => k_is)
    (case l8 => k_is)
    (case c8 => k_is)
    (case k8 => k_is)
    (case a9 => k_is)
    (case l9 => k_is)
    (case c9 => k_is)
    (case k9 => k_is)
    (case a10 => k_is)
    (case l10 => k_is)
    (case c10 => k_is)
    (case k10 => k_is)
    (case a11 => k_is)
    (case l11 => k_is)
    (case c11 => k_is)
    (case k11 => k_is)
    (case a12 => k_is)
    (case l12 => k_is)
    (case c12 => k_is)
    (case k12 => k_is)
    (case a13 => k_is)
    (case l13 => k_is)
    (case c13 => k_is)
    (case k13 => k_is)
    (case a14 => k_is)
    (case l14 => k_is)
    (case c14 => k_is)
    (case k14 => k_is)
    (case a15 => k_is)
    (case l15 => k_is)
    (case c15 => k_is)
    (case k15 => k_is)
    (case a16 => k_is)
    (case l16 => k_is)
    (case c16 => k_is)
    (case k16 => k_is)
    (case a17 => k_is)
    (case l17 => k_is)
    (case c17 => k_is)
    (case k17 => k_is)
    (case a18 => k_is)
    (case l18 => k_is)
    (case c18 => k_is)
    (case k18 => k_is)
    (case a19 => k_is)
    (case l19 => k_is)
    (case c19 => k_is)
    (case k19 => k_is)
    (case a20 => k_is)
    (case l20 => k_is)
    (case c20 => k_is)
    (case k20 => k_is)
    (case a21 => k_is)
    (case l21 => k_is)
    (case c21 => k_is)
    (case k21 => k_is)
    (case a22 => k_is)
    (case l22 => k_is)
    (case c22 => k_is)
    (case k22 => k_is)
    (case a23 => k_is)
    (case l23 => k_is)
    (case c23 => k_is)
    (case k23 => k_is)
    (case a24 => k_is)
    (case l24 => k_is)
    (case c24 => k_is)
    (case k24 => k_is)
    (case a25 => k_is)
    (case l25 => k_is)
    (case c25 => k_is)
    (case k25 => k_is)
    (case a26 => k_is)
    (case l26 => k_is)
    (case c26 => k_is)
    (case k26 => k_is)
    (case a27 => k_is)
    (case l27 => k_is)
    (case c27 => k_is)
    (case k27 => k_is)
    (case a28 => k_is)
    (case l28 => k_is)
    (case c28 => k_is)
    (case k28 => k_is)
    (case a29 => k_is)
    (case l29 => k_is)
    (case c29 => k_is)
    (case k29 => k_is)
    (case a30 => k_is)
    (case l30 => k_is)
    (case c30 => k_is)
    (case k30 => k_is)
    (case a31 => k_is)
    (case l31 => k_is)
    (case c31 => k_is)
    (case k31 => k_is)
    (case a32 => k_is)
    (case l32 => k_is)
    (case c32 => k_is)
    (case k32 => k_is)
    (case a33 => k_is)
    (case l33 => k_is)
    (case c33 => k_is)
    (case k33 => k_is)
    (case a34 => k_is)
    (case l34 => k_is)
    (case c34 => k_is)
    (case k34 => k_is)
    (case a35 => k_is)
    (case l35 => k_is)
    (case c35 => k_is)
    (case k35 => k_is)
    (case a36 => k_is)
    (case l36 => k_is)
    (case c36 => k_is)
    (case k36 => k_is)
    (case a37 => k_is)
    (case l37 => k_is)
    (case c37 => k_is)
    (case k37 => k_is)
    (case a38 => k_is)
    (case l38 => k_is)
    (case c38 => k_is)
    (case k38 => k_is)
    (case ca_Machine => k_is)
    (case cx_Machine => kernel_rfl)
    (case ma_Machine___init__ => k_is)
    (case mi_Machine___init__ => k_is)
    (case ml_Machine___init__ => k_is)
    (case md_Machine___init__ => k_is)
    (case mk_Machine___init__ => k_is)
    (case ma_Machine_steps => k_is)
    (case mi_Machine_steps => k_is)
    (case ml_Machine_steps => k_is)
    (case md_Machine_steps => k_is)
    (case mk_Machine_steps => k_is)
    (case ma_Machine_renamed => k_is)
    (case mi_Machine_renamed => k_is)
    (case ml_Machine_renamed => k_is)
    (case md_Machine_renamed => k_is)
    (case mk_Machine_renamed => k_is)
    (case ma_Machine___len__ => k_is)
    (case mi_Machine___len__ => k_is)
    (case ml_Machine___len__ => k_is)
    (case md_Machine___len__ => k_is)
    (case mk_Machine___len__ => k_is)
    (case ma_Machine___eq__ => k_is)
    (case mi_Machine___eq__ => k_is)
    (case ml_Machine___eq__ => k_is)
    (case md_Machine___eq__ => k_is)
    (case mk_Machine___eq__ => k_is)
    (case ma_Machine_firsts => k_is)
    (case mg_Machine_firsts => k_is)
    (case mt_Machine_firsts => k_is)
    (case mc_Machine_firsts => k_is)
    (case ml_Machine_firsts => k_is)
    (case md_Machine_firsts => k_is)
    (case mk_Machine_firsts => k_is)
    (case ma_Machine_states => k_is)
    (case mg_Machine_states => k_is)
    (case mt_Machine_states => k_is)
    (case mc_Machine_states => k_is)
    (case ml_Machine_states => k_is)
    (case md_Machine_states => k_is)
    (case mk_Machine_states => k_is)
    (case ma_Machine_letters => k_is)
    (case mg_Machine_letters => k_is)
    (case mt_Machine_letters => k_is)
    (case mc_Machine_letters => k_is)
    (case ml_Machine_letters => k_is)
    (case md_Machine_letters => k_is)
    (case mk_Machine_letters => k_is)
    (case ma_Machine_lines => k_is)
    (case mg_Machine_lines => k_is)
    (case mt_Machine_lines => k_is)
    (case mc_Machine_lines => k_is)
    (case ml_Machine_lines => k_is)
    (case md_Machine_lines => k_is)
    (case mk_Machine_lines => k_is)
    (case ce_kn_Machine => kernel_rfl)
    (case mb_Machine_own_arcs => k_is)
    (case ce_Machine_own_arcs => kernel_rfl)
    (case mb_Machine_own_firsts => k_is)
    (case ce_Machine_own_firsts => kernel_rfl)
    (case mb_Machine_own_lasts => k_is)
    (case ce_Machine_own_lasts => kernel_rfl)
    (case mb_Machine_own_lines => k_is)
    (case ce_Machine_own_lines => kernel_rfl)
    (case mb_Machine_own_states => k_is)
    (case ce_Machine_own_states => kernel_rfl)
    (case mb_Machine_own_steps => k_is)
    (case ce_Machine_own_steps => kernel_rfl)
    (case n_LIMIT => k_is)
    (case n_ALPHABET => k_is)
    (case n_MAX_LETTERS => k_is)
    (case n_MAX_STATES => k_is)
    (case n_MAX_PRICE => k_is)
    (case n_FIRST => k_is)
    (case n_LAST => k_is)
    (case n_ARC => k_is)
    (case z_abs => k_is)
    (case z_all => k_is)
    (case z_bool => k_is)
    (case z_dict => k_is)
    (case z_int => k_is)
    (case z_isinstance => k_is)
    (case z_len => k_is)
    (case z_list => k_is)
    (case z_max => k_is)
    (case z_min => k_is)
    (case z_range => k_is)
    (case z_set => k_is)
    (case z_sorted => k_is)
    (case z_str => k_is)
    (case z_tuple => k_is)
    (case z_zip => k_is)
#print axioms PySem.Challenge.cw_lastprices_k07_whole_renamed_machines_holds
