import PyProof.Rows.All
import Wide.All
import OpenK.AllK
import Wide.FinOn
import HandS.ForMost
import HandS.IsInst
import HandS.Style
import HandS.StrMore
import HandS.Wide
import HandS.Zip
import HandS.Flow
import HandS.Set
import HandS.Strs
import PyProof.Rows.SortShellAny
import HandS.Walk
import HandS.Sort
import PyProof.StrBlock2
import HandS.SlotsOwn
import HandS.Star
import KE.KCallOwn
import PyProof.InstNe
import KE.GoesZip
import KE.KDictZip
import HandS.Zip0
import HandS.TryOnly
import HandS.ExcInit
import HandS.ExcIs
import HandS.ExcField
import HandS.ExcValue
import HandS.ExcBuiltin
import KE.KExcInit
import KE.KExcIs
import HandS.HotCalls
import HandS.FStr
import HandS.Lambda
import HandS.EndTab
import KE.KNestM
import HandS.DictTup
import HandS.Conv
import HandS.DictComp
import KE.SortData
import HandS.SetBool
import HandS.ListItems
import KE.KDictList
import KE.KUnpackStar
import HandS.ClsMeth
import HandS.CallLocal
import HandS.HeadNt
import PyProof.Rows.MatchSeqLen
import KE.KUnpack
import HandS.RaiseMore
import PyProof.P3Eq
import PyProof.Rows.StrMeet
import HandS.TupSets
import KE.KSortTupG
import HandS.Text
import PyProof.WalkInts
import HandS.TupLe
import PyProof.NeKinds
import HandS.TupMul
import HandS.TupAny
import KE.KRevSl
import KE.KeyNested
import HandS.Iter
import KE.KDictItemsList
import HandS.Head0
import HandS.Head1
import HandS.Head2
import HandS.HeadHook4
import HandS.HeadWalk
import HandS.WordsDict
import PySem.Challenge.RW_lastprices_k05_whole_which_machines_ther
set_option Elab.async false
set_option linter.all false
set_option maxRecDepth 100000
set_option maxHeartbeats 4000000
/-! LPG: defs that run where no repr is under way (guards known empty), so that repr of data can be told. -/
namespace LP
open PySem PySem.Spec L2
open PyProof.Rows hiding St

/-- a def's promise, kept wherever no guarded call is under way -/
structure FnG (P : Program) (w : World) (K : PySem.W.Frag) (mg : Str → Option Value) (base : Heap) (CX : CXT)
    (k : Nat) (f : Addr) (fd : FuncData) (ps : List Str) (sp : Sp) : Prop where
  len : ∀ vs H Q E, sp vs H Q E → vs.length = ps.length
  go : ∀ (A : Around) (outer : List Env) (s : Shared) (H : Hp) (args : Args) (us : List Value) (vs : List V)
    (Q : VK) (E : XK), A.guards = some [] → Room k A → Env0 P w K mg base A outer s H →
    BindsTo s fd args (ps.zip us) → Vals vs us → sp vs H Q E →
    codeAny (model P w) A (.call (.ref f) args) (CR CX outer P w H s Q E) s

section
variable {P : Program} {w : World} {K : PySem.W.Frag} {mg : Str → Option Value} {base : Heap} {CX : CXT}
  {k : Nat} {f : Addr} {fd : FuncData} {ps : List Str} {sp : Sp}

theorem FnG.of (F : FnOk P w K mg base CX k f fd ps sp) : FnG P w K mg base CX k f fd ps sp :=
  ⟨F.len, fun A outer s H args us vs Q E _ hr e0 hb r h => F.run A outer s H args us vs Q E hr e0 hb r h⟩

theorem FnG.mono {j : Nat} (F : FnG P w K mg base CX j f fd ps sp) (h : j ≤ k) : FnG P w K mg base CX k f fd ps sp :=
  ⟨F.len, fun A outer s H args us vs Q E g hr e0 hb r h' => F.go A outer s H args us vs Q E g (hr.mono h) e0 hb r h'⟩
end

/-- a def's body, where no guarded call is under way -/
theorem fnG_of {CX : CXT} {P : Program} {w : World} {K : PySem.W.Frag} {mg : Str → Option Value} {base : Heap} {k : Nat}
    {f : Addr} {name qual : Str} {params : Arguments} {body : List Stmt} {scope : Scope} {dV kV doc pm cdv ct oc : Value}
    {an od : Option Addr} {osl : Array (Option Value)} {N ps : List Str} {sp : Sp}
    (lk : K.lookup f = some ⟨oc, od, .func (PySem.W.fnOf name qual params body scope dV kV doc pm an cdv ct), osl⟩)
    (hcd : PySem.W.codeIn K cdv qual = true) (S : FnScope N ps scope)
    (len : ∀ vs H Q E, sp vs H Q E → vs.length = ps.length)
    (hbody : ∀ (A : Around) (outer : List Env) (s : Shared) (H : Hp) (vs : List V) (Q : VK) (E : XK),
      A.guards = some [] → Room k (A.deeper (envOfC qual scope s.heap.objs.size f cdv)) → sp vs H Q E →
      ∃ t, PSs (cxOf CX P w K mg base N qual scope f cdv A outer s H E) body t ∧
        t { nx := fun _ H' => Q .non H', rt := Q } (start N vs) H) :
    FnG P w K mg base CX (k + 1) f (PySem.W.fnOf name qual params body scope dV kV doc pm an cdv ct) ps sp := by
  constructor
  · exact len
  intro A outer s H args us vs Q E gd hr e0 hb r hsp
  have hl := len _ _ _ _ hsp
  have KX : K.In s.heap := e0.mod.kin.keeps fun b o e => (e0.bs b o e).1
  have lim : s.heap.NoLimit := e0.mod.nolimit.keeps fun b o e => (e0.bs b o e).1
  have hk : ∀ y ∈ ps.zip us, scope.names.lookup y.1 = some .local ∨
      (scope.names.lookup y.1 = some .cell ∧
        ((cellsFrom (s.heap.objs.size + 1) scope.names []).lookup y.1).isSome = true) := by
    rintro ⟨n, v⟩ hy
    rcases S.par n (List.of_mem_zip hy).1 with q | q
    · exact .inl q
    · exact .inr ⟨q, PySem.W.cellsFrom_some _ _ _ (.inl q)⟩
  refine codeAny_call_function hr.depth (KX _ _ lk) rfl S.co S.gen rfl (PySem.W.codeRec_of KX hcd) ?_
  refine hb _ _ _ _ (wpAny_newFunctionEnv_cells S.kind hk ?_)
  intro env he s1 x
  subst he
  refine ⟨lim.keeps x.toInCall.keep, ?_⟩
  refine codeAny_func ?_
  obtain ⟨t, ht, hq⟩ := hbody A outer s H vs Q E gd (hr.deeper _) hsp
  have I := inv_start (CX := CX) (N := N) (E := E) S hr.hd e0 hl r x
  refine wpAny_mono (ht.run [] s1 (start N vs) H _ I hq) ?_ (fun e s' hs => hs)
  intro fl s' hs
  cases fl with
  | ret u =>
    obtain ⟨v, σ', H', J, rv, q⟩ := hs
    exact ⟨v, H', J.os, J.bare, J.base, J.hok, rv, q⟩
  | next =>
    obtain ⟨σ', H', J, q⟩ := hs
    exact ⟨V.non, H', J.os, J.bare, J.base, J.hok, rfl, q⟩
  | brk =>
    obtain ⟨_, _, _, q⟩ := hs
    exact q.elim
  | cont =>
    obtain ⟨_, _, _, q⟩ := hs
    exact q.elim

section
variable {P : Program} {w : World} {K : PySem.W.Frag} {mg : Str → Option Value} {base : Heap}
/-- the same for a def of the text that lets no exception out -/
theorem okG {x qual : Str} {st : Stmt} {f : Addr} {fd : FuncData} {N ps : List Str} {k : Nat} {sp : Sp}
    (F : Fun K x qual st f fd) (S : FnScope N ps (defScope st)) (len : ∀ vs H Q E, sp vs H Q E → vs.length = ps.length)
    (hbody : ∀ (cdv : Value) (A : Around) (outer : List Env) (s : Shared) (H : Hp) (vs : List V) (Q : VK) (E : XK),
      A.guards = some [] → Room k (A.deeper (envOfC qual (defScope st) s.heap.objs.size f cdv)) → sp vs H Q E →
      ∃ t, PSs (cxOf CX0 P w K mg base N qual (defScope st) f cdv A outer s H E).nox (defBody st) t ∧
        t { nx := fun _ H' => Q .non H', rt := Q } (start N vs) H) :
    FnG P w K mg base CX0 (k + 1) f fd ps sp := by
  obtain ⟨oc, od, kV, doc, pm, an, cdv, ct, osl, rfl, lk, hcd⟩ := F.ex
  refine fnG_of lk hcd S len ?_
  intro A outer s H vs Q E g hr hsp
  obtain ⟨t, h, q⟩ := hbody cdv A outer s H vs Q E g hr hsp
  exact ⟨t, h.nox, q⟩
end

section
variable {X : Cx} {CX : CXT} {k : Nat} {f C : Addr} {fd : FuncData} {ps : List Str} {sp : Sp} {dvs : List V}
  {ds : List Value} {E : XK} {x m : Str} {p pos apos : Pos} {e o : Expr} {es : List Expr} {ta : TE} {t : TA}

/-- such a callee runs -/
theorem run_fnG {pins : List (Addr × Obj)} {σ : St} {H : Hp} {s : Shared} {Q : VK} {us : List Value} {vs : List V}
    (F : FnG X.prog X.w X.K X.mg X.base CX k f fd ps sp) (gd : X.A.guards = some []) (hr : Room k X.A)
    (hb : Binds X.K fd ps ds) (hd : Vals dvs ds) (hx : Passes CX X E)
    (I : Inv X pins σ H s) (r : Vals vs us) (h : sp (vs ++ dvs) H Q E) :
    wpAny (model X.prog X.w) X.A (call (.ref f) us) (EP X pins σ Q) X.xe s := by
  have r2 : Vals (vs ++ dvs) (us ++ ds) := r.append hd
  have hl : (us ++ ds).length = ps.length := r2.length.symm.trans (F.len _ _ _ _ h)
  have run := F.go X.A X.stack s H ⟨us, []⟩ (us ++ ds) (vs ++ dvs) Q E gd hr I.env0 (hb s us I.kIn hl) r2 h
  refine wpAny_call (codeAny_mono run ?_)
  intro r s' hq
  cases r with
  | error e => exact hx pins σ H s e s' I hq
  | ok fl =>
    cases fl with
    | ret u => exact I.after hq
    | next => exact hq.elim
    | brk => exact hq.elim
    | cont => exact hq.elim

theorem pe_callG (F : FnG X.prog X.w X.K X.mg X.base CX k f fd ps sp) (gd : X.A.guards = some []) (hr : Room k X.A)
    (hg : Gl X x) (hm : X.mg x = some (.ref f)) (hk : PySem.W.keepIn X.K (.ref f) = true) (hb : Binds X.K fd ps ds)
    (hd : Vals dvs ds) (hx : Passes CX X E) (ha : PA X (e :: es) t)
    (hdb : (x == ("__debug__" : Str)) = false := by decide)
    (he : starEach (e :: es) X.env = (false, eval e X.env) :: starEach es X.env := by rfl)
    (hpl : (backTo pos (starEach es X.env)).any (·.1) = false := by rfl) :
    PE X (.Call (.Name x p) (e :: es) [] pos) (tCall sp dvs E t) := by
  constructor
  intro pins s σ H Q I h
  refine wpAny_Call_Name_kw (ld_glob I hg hm ?_ hdb)
  refine PySem.W.callWith_K (h₀ := X.base) I.ok.mod.kin hk (thn (ha.run pos pins s σ H _ I h) ?_) he hpl
  rintro us s1 ⟨vs, H1, I1, r, q⟩
  exact ⟨I1.kIn, run_fnG F gd hr hb hd hx I1 r q⟩

theorem pe_callG0 (F : FnG X.prog X.w X.K X.mg X.base CX k f fd ps sp) (gd : X.A.guards = some []) (hr : Room k X.A)
    (hg : Gl X x) (hm : X.mg x = some (.ref f)) (hk : PySem.W.keepIn X.K (.ref f) = true) (hb : Binds X.K fd ps ds)
    (hd : Vals dvs ds) (hx : Passes CX X E) (hdb : (x == ("__debug__" : Str)) = false := by decide) :
    PE X (.Call (.Name x p) [] [] pos) (tCall sp dvs E tNil) := by
  constructor
  intro pins s σ H Q I h
  refine wpAny_Call_Name_kw (ld_glob I hg hm ?_ hdb)
  exact PySem.W.callWith_K0 I.kIn hk (run_fnG (us := []) F gd hr hb hd hx I .nil h)

/-- what repr asks: data that is read, and its text -/
def rReprD (K : PySem.W.Frag) : List V → Hp → VK → Prop := fun xs H Q =>
  ∃ x d, xs = [x] ∧ Dp K H x d ∧ d.showable = true ∧ d.hasDict = false ∧ d.depth ≤ 60 ∧ d.shown.length ≤ sizeLine ∧
    Q (.str d.shown) H

theorem call_reprD (gd : X.A.guards = some []) (hu : X.A.units + 64 < cLine) : CallR X (.builtin "repr") (rReprD X.K) := by
  intro pins s σ H xs us Q I r h
  obtain ⟨x, d, rfl, hd, hs, hn, hz, hl, q⟩ := h
  obtain ⟨u, rfl, r1⟩ := vals1 r
  cases hd with
  | non =>
    cases (show u = Value.none from r1)
    exact PySem.P.repr_of_none ⟨.str _, H, I.tok _, ⟨_, rfl⟩, q⟩
  | bl b =>
    cases (show u = Value.bool b from r1)
    exact PySem.P.repr_of_bool ⟨.str _, H, I.tok _, ⟨_, rfl⟩, q⟩
  | int i =>
    obtain ⟨t, rfl⟩ := (show ∃ t, u = Value.int i t from r1)
    have hi : i.natAbs.log2 < 1920 := by simpa [PyData.showable] using hs
    exact PySem.P.repr_of_int hi ⟨.str _, H, I.tok _, ⟨_, rfl⟩, q⟩
  | str y =>
    obtain ⟨t, rfl⟩ := (show ∃ t, u = Value.str y t from r1)
    exact PySem.P.repr_of_str ⟨.str _, H, I.tok _, ⟨_, rfl⟩, q⟩ hl
  | @lst a ys ds h1 h2 =>
    have e0 : Dp X.K H (.ref a) (.list ds) := .lst h1 h2
    cases (show u = Value.ref a from r1)
    obtain ⟨as, rd⟩ := Dp.reads I _ _ _ e0 rfl
    refine repr_of_reads' rd hs (fun z => ?_) gd (by omega) (fun _ _ e => e) (fun h' v tk hk => ?_) hl
    · rw [hn] at z
      cases z
    · exact ⟨.str _, H, I.kept hk, ⟨_, rfl⟩, q⟩
  | @tup a ys ds h1 h2 =>
    have e0 : Dp X.K H (.ref a) (.tuple ds) := .tup h1 h2
    cases (show u = Value.ref a from r1)
    obtain ⟨as, rd⟩ := Dp.reads I _ _ _ e0 rfl
    refine repr_of_reads' rd hs (fun z => ?_) gd (by omega) (fun _ _ e => e) (fun h' v tk hk => ?_) hl
    · rw [hn] at z
      cases z
    · exact ⟨.str _, H, I.kept hk, ⟨_, rfl⟩, q⟩
end

/-- the law's call, of such a def -/
theorem law_callG {P : Program} {w : World} {K : PySem.W.Frag} {mg mb : Str → Option Value} {k : Nat} {fa a : Addr}
    {fd : FuncData} {x : Str} {sp : Sp} {s₁ : Shared} {vs : List Value} {ns : List Int}
    (KX : K.In s₁.heap) (hns : s₁.heap.Ns mainGlobals mg) (hb : s₁.heap.Ns builtinsNs mb)
    (hbb : ∀ x : Str, x ≠ "__name__" → mb x = bootBuiltins x) (hlim : s₁.heap.NoLimit) (hg : s₁.gens = #[])
    (ha : s₁.heap.get? a = some { cls := .type "list", data := .seq vs.toArray }) (hi : IntsAre vs ns)
    (hl : ns.length ≤ sizeLine) (hr : Room k callerA)
    (F : ∀ base : Heap, K.In base → base.Ns mainGlobals mg → FnG P w K mg base CX0 k fa fd [x] sp)
    (hbind : ∀ (s : Shared) (u : Value), BindsTo s fd ⟨[u], []⟩ [(x, u)])
    (hsp : ∀ H : Hp, Only H → SqL K H a (ns.map V.int) → sp [.ref a] H (fun v _ => v = .bl true) fun _ _ _ => False) :
    codeAny (model P w) callerA (.call (.ref fa) ⟨[.ref a], []⟩) (fun r s' => r = .ok (.ret (.bool true)) ∧
      OldK s₁.heap s'.heap ∧ s'.os = s₁.os ∧ AllBare s'.gens) s₁ := by
  have rv := vals_ints hi
  have lenV := hi.length
  have core : ∀ H : Hp, Only H → SqL K H a (ns.map V.int) → HOk P w H s₁.heap → (∀ b, H b ≠ none → b = a) →
      (H a ≠ none → K.lookup a = none) →
      codeAny (model P w) callerA (.call (.ref fa) ⟨[.ref a], []⟩) (fun r s' => r = .ok (.ret (.bool true)) ∧
        OldK s₁.heap s'.heap ∧ s'.os = s₁.os ∧ AllBare s'.gens) s₁ := by
    intro H hO hS hok hA hK
    have noA : ∀ {b : Addr} {o : Obj} {es : Array DictEntry} {ep : Nat}, s₁.heap.get? b = some o →
        o.data = .dict es ep → H b = none := by
      intro b o es ep e d
      by_cases q : H b = none
      · exact q
      · have e' := hA b q
        subst e'
        rw [ha] at e
        cases e
        cases (show Data.seq vs.toArray _ = Data.dict es ep from d)
    have nsK : ∀ {b : Addr} {m : Str → Option Value}, s₁.heap.Ns b m → (hidT s₁.heap H).Ns b m := by
      rintro b m ⟨o, es, ep, e, d, r⟩
      exact ⟨o, es, ep, hidT_get e (noA e d), d, r⟩
    have hKb : K.In (hidT s₁.heap H) := by
      intro b o e
      refine hidT_get (KX b o e) ?_
      by_cases q : H b = none
      · exact q
      · have e' := hA b q
        subst e'
        rw [hK q] at e
        cases e
    obtain ⟨mc, hc1, hc2⟩ := hlim
    have hM : Mod K mg (hidT s₁.heap H) := ⟨hKb, nsK hns, ⟨mb, nsK hb, hbb⟩, ⟨mc, nsK hc1, hc2⟩⟩
    have e0 : Env0 P w K mg (hidT s₁.heap H) callerA [] s₁ H :=
      ⟨rfl, hM, fun b o e => of_hidT e, Nat.le_of_eq (hidT_size _ _), trivial,
        fun b hb => absurd (show b ∈ ([] : List Addr) from hb) (by simp), hok, .of_eq hg⟩
    have G := F _ hKb (nsK hns)
    refine codeAny_mono (G.go callerA [] s₁ H ⟨[.ref a], []⟩ [.ref a] [.ref a] _ _ rfl hr e0 (hbind s₁ (.ref a))
      (.cons rfl .nil) (hsp H hO hS)) ?_
    intro r s' h
    cases r with
    | error e => exact h.elim
    | ok fl =>
      cases fl with
      | next => exact h.elim
      | brk => exact h.elim
      | cont => exact h.elim
      | ret u =>
        obtain ⟨v, H', os, bare, un, hok', r', q⟩ := h
        have q' : v = .bl true := q
        subst q'
        obtain rfl : u = Value.bool true := r'
        refine ⟨rfl, OldK.of_keep ?_, os, bare⟩
        intro b o e
        rcases hO b with z | ⟨ob, xs, z⟩
        · exact un.keep b o e z (fun y => absurd (show b ∈ ([] : List Addr) from y) (by simp)) (by simp)
        · obtain ⟨e1, _⟩ := hok b _ z
          obtain ⟨e2, _⟩ := hok' b _ (un.frzs b ob _ z)
          rw [e] at e1
          cases e1
          exact e2
  by_cases hk : K.lookup a = none
  · let O : Obj := { cls := .type "list", data := .seq vs.toArray }
    let HH : Hp := fun b => if b = a then some (.frz O (.lst (ns.map V.int))) else none
    have h1 : HH a = some (.frz O (.lst (ns.map V.int))) := if_pos rfl
    have h2 : ∀ b, b ≠ a → HH b = none := fun b hb => if_neg hb
    refine core HH ?_ (.inl (.inr ⟨O, h1⟩)) ?_ ?_ (fun _ => hk)
    · intro b
      by_cases hb : b = a
      · subst hb
        exact .inr ⟨_, _, h1⟩
      · exact .inl (h2 b hb)
    · intro b u z
      by_cases hb : b = a
      · subst hb
        rw [h1] at z
        cases z
        exact ⟨ha, by rw [List.length_map]; exact hl, vs, _, rv, ha⟩
      · rw [h2 b hb] at z
        cases z
    · intro b z
      by_cases hb : b = a
      · exact hb
      · exact absurd (h2 b hb) z
  · obtain ⟨o, ho⟩ := Option.ne_none_iff_exists'.mp hk
    have e := KX a o ho
    rw [ha] at e
    cases e
    refine core (fun _ => none) (fun _ => .inl rfl) (.inr ⟨_, vs.toArray, _, ho, rfl, rfl, rfl, ?_, ?_⟩) ?_ ?_ ?_
    · rw [List.size_toArray, lenV]
      exact hl
    · simpa using rv
    · intro b u z
      cases (show (none : Option HO) = some u from z)
    · intro b z
      exact absurd rfl z
    · intro z
      exact absurd rfl z

/-- the goal that the head leaves, from the law's promise -/
theorem walk_ofG {l : PySem.W.OpenLaw} {n k : Nat} {q : Program} {loose : List Str} {XP : (Str → Option Value) → Heap → Prop}
    {YP : World → Heap → Prop} {d : DefRec} {K : Params → PySem.W.Frag} {sp : PySem.W.Frag → Sp} {x : Str}
    (hn : l.most = some n) (hn2 : n ≤ sizeLine) (hdf : d.params.defaults = []) (hr : Room k callerA)
    (hY : ∀ (w : World) (h : Heap), YP w h → (K w.params).In h)
    (F : ∀ (w : World) (mg : Str → Option Value) (fa : Addr) (h : Heap), (K w.params).In h → h.Ns mainGlobals mg →
      mg d.name = some (.ref fa) → ∃ fd : FuncData, (∀ (s : Shared) (u : Value), BindsTo s fd ⟨[u], []⟩ [(x, u)]) ∧
        ∀ base : Heap, (K w.params).In base → base.Ns mainGlobals mg →
          FnG l.prog w (K w.params) mg base CX0 k fa fd [x] (sp (K w.params)))
    (hsp : ∀ (K : PySem.W.Frag) (H : Hp) (a : Addr) (ns : List Int), ns.length ≤ n → Only H → SqL K H a (ns.map V.int) →
      sp K [.ref a] H (fun v _ => v = .bl true) fun _ _ _ => False) :
    PySem.W.WalkO q loose XP YP l.row.toRowW d [] (fun f vs => PySem.call f vs) := by
  refine Att.attach_call hn hdf ?_
  intro w s₀ s₁ mg mb fa o pm cd doc a vs ns G Y ho hd hcd hmg hobj hints hlen hg
  have KX := hY w _ Y
  obtain ⟨fd, hb, hF⟩ := F w mg fa _ KX G.T.g hmg
  exact law_callG KX G.T.g G.T.b G.T.builtins G.T.nolimit hg hobj hints (Nat.le_trans hlen hn2) hr hF hb
    (fun H hO hS => hsp (K w.params) H a ns hlen hO hS)
end LP

set_option Elab.async false
set_option linter.all false
set_option maxRecDepth 100000
set_option maxHeartbeats 4000000
/-! LPC: defs of a linked text, calls of them, heaps. -/
namespace LP
open PySem PySem.Spec L2
open PyProof.Rows hiding St

/-- a def of the text: where it stands, its name, how its arguments bind -/
structure Df (K : PySem.W.Frag) (mg : Str → Option Value) (x : Str) (st : Stmt) (ps : List Str) (f : Addr) (fd : FuncData) : Prop where
  F : Fun K x x st f fd
  g : mg x = some (.ref f)
  b : Binds K fd ps []

section
variable {X : Cx} {k : Nat} {f : Addr} {fd : FuncData} {ps : List Str} {sp : Sp} {x : Str} {st : Stmt} {p pos : Pos}
  {e : Expr} {es : List Expr} {t : TA}
theorem pe_df (D : Df X.K X.mg x st ps f fd) (G : FnOk X.prog X.w X.K X.mg X.base CX0 k f fd ps sp) (hr : Room k X.A)
    (hg : Gl X x) (ha : PA X (e :: es) t) (hdb : (x == ("__debug__" : Str)) = false := by decide)
    (he : starEach (e :: es) X.env = (false, eval e X.env) :: starEach es X.env := by rfl)
    (hpl : (backTo pos (starEach es X.env)).any (·.1) = false := by rfl) :
    PE X (.Call (.Name x p) (e :: es) [] pos) (tCall sp [] E0 t) := pe_call G hr hg D.g D.F.kp D.b .nil pass0 ha hdb he hpl
theorem pe_df0 (D : Df X.K X.mg x st ps f fd) (G : FnOk X.prog X.w X.K X.mg X.base CX0 k f fd ps sp) (hr : Room k X.A)
    (hg : Gl X x) (hdb : (x == ("__debug__" : Str)) = false := by decide) :
    PE X (.Call (.Name x p) [] [] pos) (tCall sp [] E0 tNil) := pe_call0 G hr hg D.g D.F.kp D.b .nil pass0 hdb
theorem pe_dfG (D : Df X.K X.mg x st ps f fd) (G : FnG X.prog X.w X.K X.mg X.base CX0 k f fd ps sp)
    (gd : X.A.guards = some []) (hr : Room k X.A)
    (hg : Gl X x) (ha : PA X (e :: es) t) (hdb : (x == ("__debug__" : Str)) = false := by decide)
    (he : starEach (e :: es) X.env = (false, eval e X.env) :: starEach es X.env := by rfl)
    (hpl : (backTo pos (starEach es X.env)).any (·.1) = false := by rfl) :
    PE X (.Call (.Name x p) (e :: es) [] pos) (tCall sp [] E0 t) := pe_callG G gd hr hg D.g D.F.kp D.b .nil pass0 ha hdb he hpl
end

/-! ### heaps -/
theorem upd_none {H : Hp} {a b : Addr} {o : HO} : upd H a o b = none ↔ b ≠ a ∧ H b = none := by
  unfold upd
  by_cases h : b = a <;> simp [h]
theorem upd_at {H : Hp} {a b : Addr} {o : HO} : upd H a o b = if b = a then some o else H b := rfl
theorem Same.new {H : Hp} {p : Addr} {o : HO} (h : H p = none) : Same H (upd H p o) := fun b u e => by
  rw [upd_ne (ne_of_none e h)]
  exact e
theorem Same.tup {K : PySem.W.Frag} {H H' : Hp} {a : Addr} {xs : List V} (e : Same H H') (h : SqT K H a xs) : SqT K H' a xs := by
  rcases h with (h | ⟨o, h⟩) | h
  · exact .inl (.inl (e _ _ h))
  · exact .inl (.inr ⟨o, e _ _ h⟩)
  · exact .inr h

/-! ### values that can be asked for their class -/
/-- the built-in class of a plain value -/
inductive Pl (K : PySem.W.Frag) (H : Hp) : V → String → Prop
  | non : Pl K H .non "NoneType"
  | bl (b : Bool) : Pl K H (.bl b) "bool"
  | int (i : Int) : Pl K H (.int i) "int"
  | str (x : Str) : Pl K H (.str x) "str"
  | lst {a : Addr} {xs : List V} (h : H a = some (.lst xs)) : Pl K H (.ref a) "list"
  | tup {a : Addr} {xs : List V} (h : H a = some (.tup xs)) : Pl K H (.ref a) "tuple"
  | dct {a : Addr} {xs : List (Key × V)} (h : H a = some (.dK xs)) : Pl K H (.ref a) "dict"
theorem Pl.ty {K : PySem.W.Frag} {H : Hp} {v : V} {t : String} (h : Pl K H v t) : TyX K H v (.type t) := by
  cases h with
  | non => exact .base .non
  | bl b => exact .base (.bl b)
  | int i => exact .base (.int i)
  | str x => exact .base (.str x)
  | lst h => exact .base (.lst h)
  | tup h => exact .base (.tup h)
  | dct h => exact .base (.dK h)
theorem Pl.same {K : PySem.W.Frag} {H H' : Hp} {v : V} {t : String} (e : Same H H') (h : Pl K H v t) : Pl K H' v t := by
  cases h with
  | non => exact .non
  | bl b => exact .bl b
  | int i => exact .int i
  | str x => exact .str x
  | lst h => exact .lst (e _ _ h)
  | tup h => exact .tup (e _ _ h)
  | dct h => exact .dct (e _ _ h)
/-- isinstance of a plain value, told -/
def isiB (t c : String) : Bool := (t == c) || (t == "bool" && c == "int")
theorem isi_int {K : PySem.W.Frag} {H : Hp} {v : V} {t : String} (h : Pl K H v t) : PySem.W.kitOne K (.type t) (.type "int") = some (isiB t "int") := by
  refine kit_ty ?_
  cases h <;> decide +kernel
theorem isi_bool {K : PySem.W.Frag} {H : Hp} {v : V} {t : String} (h : Pl K H v t) : PySem.W.kitOne K (.type t) (.type "bool") = some (isiB t "bool") := by
  refine kit_ty ?_
  cases h <;> decide +kernel
theorem isi_str {K : PySem.W.Frag} {H : Hp} {v : V} {t : String} (h : Pl K H v t) : PySem.W.kitOne K (.type t) (.type "str") = some (isiB t "str") := by
  refine kit_ty ?_
  cases h <;> decide +kernel
theorem isi_tuple {K : PySem.W.Frag} {H : Hp} {v : V} {t : String} (h : Pl K H v t) : PySem.W.kitOne K (.type t) (.type "tuple") = some (isiB t "tuple") := by
  refine kit_ty ?_
  cases h <;> decide +kernel
theorem isi_dict {K : PySem.W.Frag} {H : Hp} {v : V} {t : String} (h : Pl K H v t) : PySem.W.kitOne K (.type t) (.type "dict") = some (isiB t "dict") := by
  refine kit_ty ?_
  cases h <;> decide +kernel
theorem rd_isi {K : PySem.W.Frag} {H : Hp} {v : V} {t c : String} {Q : VK} (h : Pl K H v t) (k : PySem.W.kitOne K (.type t) (.type c) = some (isiB t c))
    (q : Q (.bl (isiB t c)) H) : rIsi K [v, .ty c] H Q := ⟨v, .ty c, .type t, .type c, _, rfl, .ty c, h.ty, k, q⟩

/-! ### readings that are told by what is tracked -/
section
variable {X : Cx}
theorem call_imp {f : Value} {r r' : List V → Hp → VK → Prop} (F : CallR X f r) (h : ∀ xs H Q, r' xs H Q → r xs H Q) : CallR X f r' :=
  fun pins s σ H xs us Q I rv q => F pins s σ H xs us Q I rv (h xs H Q q)
theorem op_imp {f : Value → Value → Sem Value} {r r' : R2} (F : OpR X f r) (h : ∀ x y H Q, r' x y H Q → r x y H Q) : OpR X f r' :=
  fun pins s σ H x y v u Q I rx ry q => F pins s σ H x y v u Q I rx ry (h x y H Q q)
theorem ix_imp {r r' : R2} (F : IxR X r) (h : ∀ x y H Q, r' x y H Q → r x y H Q) : IxR X r' :=
  fun va sl pins s σ H x y v u Q I rx ry q hs => F va sl pins s σ H x y v u Q I rx ry (h x y H Q q) hs
def rIxM : R2 := fun x y H Q => ∃ p xs i v, x = .ref p ∧ y = .int i ∧ H p = some (.lst xs) ∧ atI xs i = some v ∧ Q v H
theorem ix_M : IxR X rIxM := ix_imp ix_list fun x y H Q ⟨p, xs, i, v, h1, h2, h3, h4, q⟩ => ⟨p, xs, i, v, h1, h2, SqL.of h3, h4, q⟩
def rLenM : List V → Hp → VK → Prop := fun xs H Q => ∃ p ys, xs = [.ref p] ∧ H p = some (.lst ys) ∧ Q (.int (ys.length : Int)) H
theorem call_lenM : CallR X (.builtin "len") rLenM := call_imp call_len_seq fun xs H Q ⟨p, ys, h1, h2, q⟩ => ⟨p, ys, h1, .inl (SqL.of h2), q⟩
def rInt : List V → Hp → VK → Prop := fun xs H Q => ∃ i, xs = [.int i] ∧ Q (.int i) H
theorem call_intI : CallR X (.type "int") rInt := call_imp call_int1 fun xs H Q h => .inl h
def rIntB : List V → Hp → VK → Prop := fun xs H Q => ∃ k, xs = [.bl k] ∧ Q (.int (if k then 1 else 0)) H
theorem call_intB : CallR X (.type "int") rIntB := call_imp call_int1 fun xs H Q h => .inr h
end

theorem pe_imp {X : Cx} {e : Expr} {t t' : TE} (h : PE X e t) (i : ∀ σ H Q, t' σ H Q → t σ H Q) : PE X e t' :=
  ⟨fun pins s σ H Q I q => h.run pins s σ H Q I (i σ H Q q)⟩
/-- a method of a text, of a tracked list, of a tracked dict -/
def tSM (r : V → List V → Hp → VK → Prop) (to : TE) (t : TA) : TE := fun σ H Q => to σ H fun x H1 => ∃ a, x = .str a ∧ t σ H1 fun xs H2 => r x xs H2 Q
def tLM (r : V → List V → Hp → VK → Prop) (to : TE) (t : TA) : TE := fun σ H Q => to σ H fun x H1 => ∃ p ys, x = .ref p ∧ H1 p = some (.lst ys) ∧ t σ H1 fun xs H2 => r x xs H2 Q
section
variable {X : Cx} {o e : Expr} {es : List Expr} {to : TE} {t : TA} {name : Str} {apos cpos : Pos} {id : String} {r : V → List V → Hp → VK → Prop}
/-- a reading closed under what follows from what is wanted -/
def tUp (to : TE) : TE := fun σ H Q => ∃ Q1 : VK, to σ H Q1 ∧ ∀ v H1, Q1 v H1 → Q v H1
theorem pe_up (h : PE X o to) : PE X o (tUp to) := by
  constructor
  rintro pins s σ H Q I ⟨Q1, q1, i⟩
  refine thn (h.run pins s σ H Q1 I q1) ?_
  rintro v s1 ⟨x, H1, I1, r1, q⟩
  exact ⟨x, H1, I1, r1, i x H1 q⟩
theorem pe_sm (pa : PlainAttrs "str") (slot : Slot "str" name id) (hty : typeOf (.builtin id) = pure (.type "method_descriptor")) (hm : MtR X id r) (ho : PE X o to) (ha : PA X (e :: es) t)
    (hbase : attributeBase o name X.env (eval o X.env) = eval o X.env := by rfl)
    (hfew : ((backTo cpos (starEach (e :: es) X.env)).all (fun x => !x.1) && (backToKw cpos (keywordEach [] X.env)).all (fun x => x.1.isSome) &&
      decide ((e :: es).length + ([] : List Keyword).length + (if ([] : List Keyword).isEmpty then 0 else 1) < 30)) = true := by rfl)
    (hline : (apos.endLine == cpos.line) = true := by rfl) (hs : starEach (e :: es) X.env = (false, eval e X.env) :: starEach es X.env := by rfl)
    (hplain : (backTo cpos (starEach es X.env)).any (·.1) = false := by rfl) : PE X (.Call (.Attribute o name apos) (e :: es) [] cpos) (tSM r to t) := by
  refine pe_imp (pe_bm pa slot hty hm (pe_up ho) ha hbase hfew hline hs hplain) ?_
  intro σ H Q h
  refine ⟨_, h, ?_⟩
  rintro v H1 ⟨a, rfl, q⟩
  exact ⟨rfl, q⟩
theorem pe_lm (pa : PlainAttrs "list") (slot : Slot "list" name id) (hty : typeOf (.builtin id) = pure (.type "method_descriptor")) (hm : MtR X id r) (ho : PE X o to) (ha : PA X (e :: es) t)
    (hbase : attributeBase o name X.env (eval o X.env) = eval o X.env := by rfl)
    (hfew : ((backTo cpos (starEach (e :: es) X.env)).all (fun x => !x.1) && (backToKw cpos (keywordEach [] X.env)).all (fun x => x.1.isSome) &&
      decide ((e :: es).length + ([] : List Keyword).length + (if ([] : List Keyword).isEmpty then 0 else 1) < 30)) = true := by rfl)
    (hline : (apos.endLine == cpos.line) = true := by rfl) (hs : starEach (e :: es) X.env = (false, eval e X.env) :: starEach es X.env := by rfl)
    (hplain : (backTo cpos (starEach es X.env)).any (·.1) = false := by rfl) : PE X (.Call (.Attribute o name apos) (e :: es) [] cpos) (tLM r to t) := by
  refine pe_imp (pe_bm pa slot hty hm (pe_up ho) ha hbase hfew hline hs hplain) ?_
  intro σ H Q h
  refine ⟨_, h, ?_⟩
  rintro v H1 ⟨p, ys, rfl, hp, q⟩
  exact ⟨.inl ⟨rfl, ys, SqL.of hp⟩, q⟩
end
/-! ### the rest of a block, folded -/
def Later (u : TS) (D : Ends) (σ : St) (H : Hp) : Prop := u D σ H
theorem later {u : TS} {D : Ends} {σ : St} {H : Hp} (h : u D σ H) : Later u D σ H := h
theorem tSeq_eq (t u : TS) (D : Ends) (σ : St) (H : Hp) : tSeq t u D σ H = t { D with nx := Later u D } σ H := rfl
theorem tIfS_eq (c : TT) (t u : TS) (D : Ends) (σ : St) (H : Hp) :
  tIfS c t u D σ H = c σ H fun b H1 => if b = true then Later t D σ H1 else Later u D σ H1 := rfl
/-! ### loops -/
def Loop (J : It) (g : TG) (tb : TS) (D : Ends) (σ : St) (H1 : Hp) : Prop := ∃ W : Nat → Nat → St → Hp → Prop, (∃ m, W 0 m σ H1) ∧ ∀ i m σ H, W i m σ H →
  (J.stop i H ∧ D.nx σ H) ∨ (J.go i H ∧ ∃ N : St → Hp → Prop, (∀ σ' H', N σ' H' → ∃ m', m' < m ∧ W (i + 1) m' σ' H') ∧
    ∀ x H', J.yld i H x H' → g x σ H' fun σ2 H2 => tb { D with nx := N, ct := N, bk := D.nx } σ2 H2)
theorem tFor_eq (wi : TI) (g : TG) (tb : TS) (D : Ends) (σ : St) (H : Hp) : tFor wi g tb D σ H = wi σ H fun J H1 => Loop J g tb D σ H1 := rfl
theorem loop_range {n : Nat} {g : TG} {tb : TS} {D : Ends} {σ : St} {H : Hp} (Pv : Nat → St → Hp → Prop) (h0 : Pv 0 σ H)
    (hs : ∀ (i : Nat) (σ : St) (H : Hp), i < n → Pv i σ H → g (.int (i : Int)) σ H fun σ2 H2 => Later tb { D with nx := Pv (i + 1), ct := Pv (i + 1), bk := D.nx } σ2 H2)
    (hd : ∀ σ H, Pv n σ H → D.nx σ H) : Loop (Itr 0 n) g tb D σ H :=
  for_range (lo := 0) (n := n) Pv h0 (fun i σ H hi p => by rw [Int.zero_add]; exact hs i σ H hi p) hd
theorem loop_list {K : PySem.W.Frag} {a : Addr} {xs : List V} {g : TG} {tb : TS} {D : Ends} {σ : St} {H : Hp} (Pv : Nat → St → Hp → Prop) (h0 : Pv 0 σ H)
    (hl : ∀ i σ H, i ≤ xs.length → Pv i σ H → SqL K H a xs)
    (hs : ∀ (i : Nat) (x : V) (σ : St) (H : Hp), xs[i]? = some x → Pv i σ H → g x σ H fun σ2 H2 => Later tb { D with nx := Pv (i + 1), ct := Pv (i + 1), bk := D.nx } σ2 H2)
    (hd : ∀ σ H, Pv xs.length σ H → D.nx σ H) : Loop (Itl K a) g tb D σ H :=
  for_list (K := K) (a := a) (xs := xs) Pv h0 hl hs hd
/-- an invariant, folded -/
theorem inv_of {α : Type} (P : α → St → Hp → Prop) : ∃ Pv : α → St → Hp → Prop, ∀ i σ H, Pv i σ H ↔ P i σ H := ⟨P, fun _ _ _ => Iff.rfl⟩
def LcLoop (J : It) (g : TG) (tt : TT) (te : TE) (vs : List Nat) (σ : St) (H1 : Hp) (Q : VK) : Prop := ∀ D, H1 D = none → ∃ W : Nat → Nat → Hp → Prop, (∃ m, W 0 m (upd H1 D (.lst []))) ∧ ∀ i m H, W i m H →
  (J.stop i H ∧ Q (.ref D) H) ∨ (J.go i H ∧ ∃ Nx : Hp → Prop, (∀ H', Nx H' → ∃ m', m' < m ∧ W (i + 1) m' H') ∧ ∀ x H', J.yld i H x H' → g x (wipe σ vs) H' fun σ2 H2 => wipe σ2 vs = wipe σ vs ∧
    tt σ2 H2 fun b H3 => if b = true then te σ2 H3 fun y H4 => ∃ acc, H4 D = some (.lst acc) ∧ acc.length < sizeLine ∧ Nx (upd H4 D (.lst (acc ++ [y]))) else Nx H3)
theorem tLc_eq (wi : TI) (g : TG) (tt : TT) (te : TE) (vs : List Nat) (σ : St) (H : Hp) (Q : VK) : tLc wi g tt te vs σ H Q = wi σ H fun J H1 => LcLoop J g tt te vs σ H1 Q := rfl

theorem loop_zip {K : PySem.W.Frag} {a b : Addr} {xs ys : List V} {g : TG} {tb : TS} {D : Ends} {σ : St} {H : Hp} (hl : xs.length = ys.length) (Pv : Nat → St → Hp → Prop) (h0 : Pv 0 σ H)
    (hq : ∀ i σ H, Pv i σ H → SqL K H a xs ∧ SqL K H b ys)
    (hs : ∀ (i : Nat) (x y : V) (T : Addr) (σ : St) (H : Hp), xs[i]? = some x → ys[i]? = some y → Pv i σ H → H T = none →
      g (.ref T) σ (upd H T (.tup [x, y])) fun σ2 H2 => Later tb { D with nx := Pv (i + 1), ct := Pv (i + 1), bk := D.nx } σ2 H2)
    (hd : ∀ σ H, Pv xs.length σ H → D.nx σ H) : Loop (Itz K a b) g tb D σ H :=
  RZ.for_zipL (K := K) (a := a) (b := b) hl Pv h0 hq hs hd
/-- a comprehension whose test and element leave what is known -/
theorem lc_pure {K : PySem.W.Frag} {a : Addr} {xs : List V} {j : Nat} {tt : TT} {te : TE} {vs : List Nat} {σ : St} {H : Hp} {Q : VK} (hx : SqL K H a xs) (hz : xs.length ≤ 1000000) (f : V → Bool) (v : V → V)
    (hw : ∀ x, wipe ((wipe σ vs).set j (some x)) vs = wipe σ vs)
    (ht : ∀ x, x ∈ xs → ∀ H1, Same H H1 → ∀ R : Bool → Hp → Prop, (∀ H2, Same H1 H2 → R (f x) H2) → tt ((wipe σ vs).set j (some x)) H1 R)
    (he : ∀ x, x ∈ xs → f x = true → ∀ H1, Same H H1 → ∀ R : VK, (∀ H2, Same H1 H2 → R (v x) H2) → te ((wipe σ vs).set j (some x)) H1 R)
    (q : ∀ p H2, H p = none → Same H H2 → H2 p = some (.lst ((xs.filter f).map v)) → Q (.ref p) H2) : LcLoop (Itl K a) (gName j) tt te vs σ H Q := by
  intro D hD
  refine lc_list (K := K) (a := a) (xs := xs) (fun i H' => Same H H' ∧ H' D = some (.lst (((xs.take i).filter f).map v))) ⟨Same.new hD, upd_same⟩ (fun i H' _ p => p.1.seq hx) ?_ ?_
  · rintro i x H1 hi ⟨e1, d1⟩
    have hm : x ∈ xs := List.mem_of_getElem? hi
    have htk : xs.take (i + 1) = xs.take i ++ [x] := by rw [List.take_add_one, hi]; rfl
    refine ⟨hw x, ht x hm H1 e1 _ fun H2 e2 => ?_⟩
    cases hf : f x with
    | true =>
      show te _ H2 _
      refine he x hm hf H2 (e1.trans e2) _ fun H3 e3 => ?_
      refine ⟨_, e3 _ _ (e2 _ _ d1), ?_, ?_, ?_⟩
      · have h1 : (((xs.take i).filter f).map v).length ≤ xs.length := by
          rw [List.length_map]
          exact Nat.le_trans (List.length_filter_le _ _) (by rw [List.length_take]; omega)
        exact Nat.lt_of_le_of_lt (Nat.le_trans h1 hz) (by decide)
      · intro b o e
        rw [upd_ne (ne_of_none e hD)]
        exact e3 _ _ (e2 _ _ (e1 _ _ e))
      · rw [htk, upd_same, List.filter_append, List.map_append, List.filter_cons, if_pos hf]
        rfl
    | false =>
      show Same H H2 ∧ _
      refine ⟨e1.trans e2, ?_⟩
      rw [htk, List.filter_append, List.filter_cons, if_neg (by rw [hf]; decide), List.map_append]
      show H2 D = some (.lst (_ ++ []))
      rw [List.append_nil]
      exact e2 _ _ d1
  · rintro H1 ⟨e1, d1⟩
    rw [List.take_length] at d1
    exact q D H1 hD e1 d1

/-! ### repr of truths -/
def reprBB (a b : Bool) : Str := (PyData.list [.bool a, .bool b]).shown
theorem repr_bb {K : PySem.W.Frag} {H : Hp} {p : Addr} {a b : Bool} {Q : VK} (h : H p = some (.lst [.bl a, .bl b])) (q : Q (.str (reprBB a b)) H) : rReprD K [.ref p] H Q := by
  refine ⟨.ref p, .list [.bool a, .bool b], rfl, .lst (SqL.of h) (.cons (.bl a) (.cons (.bl b) .nil)), ?_, ?_, ?_, ?_, q⟩
  · cases a <;> cases b <;> decide
  · cases a <;> cases b <;> decide
  · cases a <;> cases b <;> decide
  · cases a <;> cases b <;> decide +kernel
theorem repr_b {K : PySem.W.Frag} {H : Hp} {a : Bool} {Q : VK} (q : Q (.str (PyData.bool a).shown) H) : rReprD K [.bl a] H Q := by
  refine ⟨.bl a, .bool a, rfl, .bl a, ?_, ?_, ?_, ?_, q⟩
  · cases a <;> decide
  · cases a <;> decide
  · cases a <;> decide
  · cases a <;> decide +kernel
theorem scal_str (x y : Str) : scal (.str x) (.str y) = true := rfl

theorem cx_K {CX : CXT} {P : Program} {w : World} {K : PySem.W.Frag} {mg : Str → Option Value} {base : Heap} {N : List Str} {qual : Str}
    {scope : Scope} {f : Addr} {cd : Value} {A : Around} {outer : List Env} {s : Shared} {H : Hp} {E : XK} :
    (cxOf CX P w K mg base N qual scope f cd A outer s H E).K = K := rfl
theorem cx_w {CX : CXT} {P : Program} {w : World} {K : PySem.W.Frag} {mg : Str → Option Value} {base : Heap} {N : List Str} {qual : Str}
    {scope : Scope} {f : Addr} {cd : Value} {A : Around} {outer : List Env} {s : Shared} {H : Hp} {E : XK} :
    (cxOf CX P w K mg base N qual scope f cd A outer s H E).w = w := rfl
theorem atI0 {α : Type} (x : α) (r : List α) : atI (x :: r) 0 = some x := atI_nat (j := 0) rfl
theorem atI1 {α : Type} (x y : α) (r : List α) : atI (x :: y :: r) 1 = some y := atI_nat (j := 1) rfl
theorem atI2 {α : Type} (x y z : α) (r : List α) : atI (x :: y :: z :: r) 2 = some z := atI_nat (j := 2) rfl
theorem atI_of {α : Type} {xs : List α} {r : Int} (h0 : 0 ≤ r) (h : r.toNat < xs.length) : atI xs r = some xs[r.toNat] := by
  have e : atI xs ((r.toNat : Nat) : Int) = some xs[r.toNat] := atI_nat (List.getElem?_eq_getElem h)
  rw [Int.toNat_of_nonneg h0] at e
  exact e
theorem ixN30 : ixN 3 0 = some 0 := by decide
theorem ixN32 : ixN 3 2 = some 2 := by decide
/-! ### powers of ten in the draws -/
theorem cpow59 : CPow 10 59 := ⟨by decide, by decide, by decide⟩
theorem cpow17 : CPow 10 17 := ⟨by decide, by decide, by decide⟩
theorem cpow60 : CPow 10 60 := ⟨by decide, by decide, by decide⟩
theorem mul60 : CMulW (10 ^ Int.toNat 60) (10 ^ Int.toNat 60) := wide_mul (a := 200) (b := 200) (by decide) (by decide) (by decide) (by decide) (by decide)
end LP

set_option Elab.async false
set_option linter.all false
set_option maxRecDepth 100000
set_option maxHeartbeats 4000000
/-! LPT: texts of numbers, stripped texts (mathematics). -/
namespace LP
open PySem PySem.Spec L2
open PyProof.Rows hiding St
open PySem.Builtin.Str TL

theorem tl_ofString (s : String) : tl (Str.ofString s) = s.toList.map Char.toNat := by
  show (Str.ofString s).cps.toList = _
  rw [Str.ofString_eq_toList]
theorem tl_neg (m : Nat) : tl (Str.ofString (toString (Int.negSucc m))) = 45 :: numL (m + 1) := by
  rw [tl_ofString]
  have e : toString (Int.negSucc m) = "-" ++ Nat.repr (m + 1) := rfl
  rw [e, String.toList_append, List.map_append]
  have e2 : (Nat.repr (m + 1)).toList = Nat.toDigits 10 (m + 1) := Nat.toList_repr
  rw [e2]
  rfl
theorem tl_int (i : Int) : tl (Str.ofString (toString i)) = if i < 0 then 45 :: numL i.natAbs else numL i.natAbs := by
  cases i with
  | ofNat m =>
    rw [if_neg (by show ¬ (Int.ofNat m) < 0; simp)]
    exact tl_num m
  | negSucc m =>
    rw [if_pos (Int.negSucc_lt_zero m)]
    exact tl_neg m
theorem numL_le {n k : Nat} (hk : 0 < k) : (numL n).length ≤ k ↔ n < 10 ^ k := by
  unfold numL
  rw [List.length_map]
  exact Nat.length_toDigits_le_iff (by decide) hk
theorem len_tl' (x : Str) : x.length = (tl x).length := by
  show x.cps.size = x.cps.toList.length
  rw [Array.length_toList]
theorem getD_tl (x : Str) (k : Nat) : x.cps.getD k 0 = (tl x).getD k 0 := (getD_list x k).symm
theorem strSub_len (x : Str) (i j : Nat) (h1 : i ≤ j) (h2 : j ≤ x.length) : (strSub x i j).length = j - i := by
  show (x.cps.extract i j).size = j - i
  rw [Array.size_extract]
  have : j ≤ x.cps.size := h2
  omega
/-- what is stripped is empty just if all signs go -/
theorem strip_nil (x y : Str) : (Txt.stripChars x y).length = 0 ↔ ∀ c ∈ tl x, y.cps.contains c = true := by
  unfold Txt.stripChars
  rw [stripBy_eq]
  obtain ⟨a0, a1, a2⟩ := lo_facts y.cps.contains x
  obtain ⟨b0, b1, b2, b3⟩ := hi_facts y.cps.contains x _ a0
  rw [strSub_len _ _ _ b0 b1]
  have key : ∀ k, k < x.length → x.cps.getD k 0 ∈ tl x := by
    intro k hk
    rw [getD_tl]
    have hk' : k < (tl x).length := by rw [← len_tl']; exact hk
    rw [List.getD_eq_getElem?_getD, List.getElem?_eq_getElem hk']
    exact List.getElem_mem hk'
  constructor
  · intro h c hc
    obtain ⟨k, hk, e⟩ := List.mem_iff_getElem.mp hc
    have hkx : k < x.length := by rw [len_tl']; exact hk
    have e' : x.cps.getD k 0 = c := by
      rw [getD_tl, List.getD_eq_getElem?_getD, List.getElem?_eq_getElem hk]
      exact e
    rw [← e']
    by_cases hl : k < stripLo y.cps.contains true x
    · exact a1 k hl
    · exact b2 k (by omega) hkx
  · intro h
    rcases a2 with e | e
    · omega
    · by_cases hl : stripLo y.cps.contains true x < x.length
      · rw [h _ (key _ hl)] at e
        cases e
      · omega
/-- the figures of a number, its sign stripped -/
theorem len_let (i : Int) : (Txt.stripChars (Str.ofString (toString i)) "-").length = (numL i.natAbs).length := by
  have e := tl_int i
  generalize Str.ofString (toString i) = x at e
  unfold Txt.stripChars
  rw [stripBy_eq]
  obtain ⟨a0, a1, a2⟩ := lo_facts ((Str.ofString "-").cps.contains) x
  obtain ⟨b0, b1, b2, b3⟩ := hi_facts ((Str.ofString "-").cps.contains) x _ a0
  rw [strSub_len _ _ _ b0 b1]
  have hgo : ∀ c : Nat, (Str.ofString "-").cps.contains c = decide (c = 45) := by
    intro c
    have : (Str.ofString "-").cps = #[45] := by decide +kernel
    rw [this]
    by_cases h : c = 45
    · subst h; simp
    · simp [h]
  have hne := numL_ne i.natAbs
  have hpos : 0 < (numL i.natAbs).length := List.length_pos_iff.mpr hne
  have hdig : ∀ k, k < (numL i.natAbs).length → (numL i.natAbs).getD k 0 ≠ 45 := by
    intro k hk h
    rw [List.getD_eq_getElem?_getD, List.getElem?_eq_getElem hk] at h
    have hm : (numL i.natAbs)[k] ∈ numL i.natAbs := List.getElem_mem hk
    have h' : (numL i.natAbs)[k] = 45 := h
    rw [h'] at hm
    exact numL_free (.inl (by decide)) hm
  have hlen := len_tl' x
  by_cases hi : i < 0
  · rw [if_pos hi] at e
    rw [e, List.length_cons] at hlen
    have x0 : x.cps.getD 0 0 = 45 := by rw [getD_tl, e]; rfl
    have xs : ∀ k, x.cps.getD (k + 1) 0 = (numL i.natAbs).getD k 0 := by intro k; rw [getD_tl, e]; rfl
    have lo1 : stripLo ((Str.ofString "-").cps.contains) true x = 1 := by
      by_cases h0 : stripLo ((Str.ofString "-").cps.contains) true x = 0
      · rcases a2 with z | z
        · omega
        · rw [h0, x0, hgo] at z
          simp at z
      · by_cases h2 : 1 < stripLo ((Str.ofString "-").cps.contains) true x
        · have z := a1 1 h2
          rw [xs 0, hgo] at z
          exact absurd (of_decide_eq_true z) (hdig 0 hpos)
        · omega
    have hi1 : stripHi ((Str.ofString "-").cps.contains) true x (stripLo ((Str.ofString "-").cps.contains) true x) = x.length := by
      by_cases h0 : stripHi ((Str.ofString "-").cps.contains) true x (stripLo ((Str.ofString "-").cps.contains) true x) < x.length
      · have z := b2 (x.length - 1) (by omega) (by omega)
        have e3 : x.length - 1 = (numL i.natAbs).length - 1 + 1 := by omega
        rw [e3, xs, hgo] at z
        exact absurd (of_decide_eq_true z) (hdig _ (by omega))
      · omega
    rw [hi1, lo1]
    omega
  · rw [if_neg hi] at e
    rw [e] at hlen
    have xs : ∀ k, x.cps.getD k 0 = (numL i.natAbs).getD k 0 := by intro k; rw [getD_tl, e]
    have lo1 : stripLo ((Str.ofString "-").cps.contains) true x = 0 := by
      by_cases h0 : stripLo ((Str.ofString "-").cps.contains) true x = 0
      · exact h0
      · have z := a1 0 (by omega)
        rw [xs 0, hgo] at z
        exact absurd (of_decide_eq_true z) (hdig 0 hpos)
    have hi1 : stripHi ((Str.ofString "-").cps.contains) true x (stripLo ((Str.ofString "-").cps.contains) true x) = x.length := by
      by_cases h0 : stripHi ((Str.ofString "-").cps.contains) true x (stripLo ((Str.ofString "-").cps.contains) true x) < x.length
      · have z := b2 (x.length - 1) (by omega) (by omega)
        rw [xs, hgo] at z
        exact absurd (of_decide_eq_true z) (hdig _ (by omega))
      · omega
    rw [hi1, lo1]
    omega
/-- the first sign of a number -/
theorem head_int (i : Int) : ∃ c, atI (tl (Str.ofString (toString i))) 0 = some c ∧ (c = 45 ↔ i < 0) := by
  rw [tl_int i]
  by_cases hi : i < 0
  · rw [if_pos hi]
    exact ⟨45, atI0 _ _, by simp [hi]⟩
  · rw [if_neg hi]
    cases h : numL i.natAbs with
    | nil => exact absurd h (numL_ne _)
    | cons c r =>
      refine ⟨c, atI0 _ _, ?_⟩
      have : c ≠ 45 := by
        intro z
        have hm : c ∈ numL i.natAbs := by rw [h]; exact List.mem_cons_self
        rw [z] at hm
        exact numL_free (.inl (by decide)) hm
      simp [this, hi]
theorem log2_of {n : Nat} {k : Nat} (h : n < 2 ^ k) (hk : 0 < k) : n.log2 < k := PySem.Flt.log2_lt_of hk h
end LP

set_option Elab.async false
set_option linter.all false
set_option maxRecDepth 100000
set_option maxHeartbeats 8000000
/-! LPS: sets of texts: set(list of texts), sorted of such a set. -/
namespace LP
open PySem PySem.Spec L2
open PyProof.Rows hiding St

/-! ### what a set of texts is -/
def tkey (e : Int × Value) : Str := match e.2 with
  | .str x _ => x
  | _ => Str.empty
def GoodT (w : World) (e : Int × Value) : Prop := ∃ x tk, e.2 = Value.str x tk ∧ e.1 = hashStr w x
/-- the table rises, and the order of a walk is told by it -/
def Walked (w : World) (t : SetTable) : Prop := Ris t.place.toList ∧ (w.params.followText "set-order" = true ∨ t.led = true)
structure TxIn (w : World) (es : Array (Int × Value)) (S : Str → Bool) : Prop where
  good : ∀ e ∈ es.toList, GoodT w e
  nd : (es.toList.map tkey).Nodup
  mem : ∀ k, S k = true ↔ k ∈ es.toList.map tkey
  few : es.size < scanBound
def SetT (w : World) (h : Heap) (a : Addr) (S : Str → Bool) (n : Nat) : Prop := ∃ o es ep t,
  h.get? a = some o ∧ o.ExactSet ∧ o.data = .set es ep t ∧ TxIn w es S ∧ t.fits es.size = true ∧ es.size = n ∧ Walked w t

section
variable {P : Program} {w : World} {h h' : Heap} {a : Addr} {S : Str → Bool} {n : Nat}
theorem SetT.at (R : SetT w h a S n) (k : ∀ o, h.get? a = some o → h'.get? a = some o) : SetT w h' a S n := by
  obtain ⟨o, es, ep, t, ho, r⟩ := R
  exact ⟨o, es, ep, t, k o ho, r⟩
theorem SetT.congr {S' : Str → Bool} {n' : Nat} (R : SetT w h a S n) (e : ∀ k, S' k = S k) (en : n' = n) : SetT w h a S' n' := by
  have q : S' = S := funext e
  rw [q, en]
  exact R
theorem tx_elems {l : List (Int × Value)} (g : ∀ e ∈ l, GoodT w e) : ElemsOf (strKind P w) l := by
  intro e he
  obtain ⟨x, tk, h1, h2⟩ := g e he
  constructor
  · refine ⟨x, ?_, h2⟩
    rw [h1]
    exact strKind_is P w x tk
  · rw [h1]
    rfl
theorem tx_is {e : Int × Value} (g : GoodT w e) (k : Str) : (strKind P w).is k e.2 = true ↔ tkey e = k := by
  obtain ⟨x, tk, h1, _⟩ := g
  unfold tkey
  rw [h1]
  constructor
  · intro q
    obtain ⟨u, e2⟩ := Value.isStrOf_shape (show Value.isStrOf k (.str x tk) = true from q)
    injection e2
  · intro q
    have q' : x = k := q
    rw [q']
    exact strKind_is P w k tk
theorem tx_mem {l : List (Int × Value)} (g : ∀ e ∈ l, GoodT w e) (k : Str) : k ∈ l.map tkey ↔ ∃ e ∈ l, (strKind P w).is k e.2 = true := by
  rw [List.mem_map]
  constructor
  · rintro ⟨e, he, q⟩
    exact ⟨e, he, (tx_is (P := P) (g e he) k).2 q⟩
  · rintro ⟨e, he, q⟩
    exact ⟨e, he, (tx_is (P := P) (g e he) k).1 q⟩
end

section
variable {P : Program} {w : World} {A : Around} {E : Value → Shared → Prop} {s : Shared} {a : Addr} {S : Str → Bool} {n : Nat}

theorem setT_tail {g : Bool → Sem Unit}
    (hg : ∀ (b : Bool) (s₁ : Shared) (Q' : Unit → Shared → Prop), Q' () s₁ → wpAny (model P w) A (g b) Q' E s₁)
    {o : Obj} {es : Array (Int × Value)} {ep : Nat} {t : SetTable} (ho : s.heap.get? a = some o) (hex : o.ExactSet) (hd : o.data = .set es ep t)
    {es1 : Array (Int × Value)} {t2 : SetTable} {S' : Str → Bool} (T1 : TxIn w es1 S') (hf2 : t2.fits es1.size = true) (hw : Walked w t2)
    {wasDummy : Bool} {R : Option Bool → Shared → Prop}
    (hR : ∀ h', Heap.SameBut a s.heap h' → SetT w h' a S' es1.size → R (some true) { s with heap := h' }) :
    wpAny (model P w) A (do
        storeSet a es1 t2
        if (!wasDummy && t2.tooFull) = true then do
            g (relayAll t2 es1 (SetTable.grown es1.size)).2.2
            storeSet a (relayAll t2 es1 (SetTable.grown es1.size)).1
              (relayAll t2 es1 (SetTable.grown es1.size)).2.1
            pure (some true)
          else pure (some true)) R E s := by
  refine wpAny_bind (wpAny_storeSet_of ho hd ?_ (fits_of_scanBound T1.few))
  have ho1 := store_at (es' := es1) (t' := t2) ho hd
  have sb1 := Heap.SameBut.update s.heap a (Obj.putSet es1 t2)
  split
  · have pm := relayAll_perm t2 es1 (SetTable.grown es1.size)
    have q1 := relayAll_fits t2 es1 (SetTable.grown es1.size)
    have q2 := relayAll_ris t2 es1 (SetTable.grown es1.size)
    have q3 := relayAll_led t2 es1 (SetTable.grown es1.size)
    generalize relayAll t2 es1 (SetTable.grown es1.size) = Z at pm q1 q2 q3 ⊢
    obtain ⟨es2, t3, gave⟩ := Z
    dsimp only at pm q1 q2 q3 ⊢
    have hsz : es2.size = es1.size := by
      have := pm.length_eq
      rw [Array.length_toList, Array.length_toList] at this
      exact this
    have few2 : es2.size < scanBound := hsz ▸ T1.few
    refine wpAny_bind (hg _ _ _ ?_)
    refine wpAny_bind (wpAny_storeSet_of ho1 rfl ?_ (fits_of_scanBound few2))
    have ho2 := store_at (es' := es2) (t' := t3) ho1 rfl
    refine wpAny_pure (hR _ (sb1.trans (Heap.SameBut.update _ a _)) ?_)
    have pk := pm.map tkey
    have T2 : TxIn w es2 S' := ⟨fun e he => T1.good e (pm.mem_iff.mp he), pk.nodup_iff.mpr T1.nd, fun k => (T1.mem k).trans pk.mem_iff.symm, few2⟩
    refine ⟨_, es2, _, t3, ho2, hex, rfl, T2, q1, hsz, q2, ?_⟩
    rcases hw.2 with z | z
    · exact .inl z
    · exact .inr (q3.trans z)
  · exact wpAny_pure (hR _ sb1 ⟨_, es1, _, t2, ho1, hex, rfl, T1, hf2, rfl, hw⟩)

theorem setT_add {k : Str} {tk : Tok} {Q : Bool → Shared → Prop} (R : SetT w s.heap a S n) (room : n + 1 < scanBound)
    (hQ : ∀ h', Heap.SameBut a s.heap h' → SetT w h' a (fun j => S j || decide (j = k)) (if S k = true then n else n + 1) →
      Q (!S k) { s with heap := h' }) :
    wpAny (model P w) A (setAddHashed a (.str k tk) ((strKind P w).hash k)) Q E s := by
  obtain ⟨o, es, ep, t, ho, hex, hd, T, hf, hn, hw⟩ := R
  have hkey : (strKind P w).is k (.str k tk) = true := strKind_is P w k tk
  have hsc : (Value.str k tk).scannable = true := rfl
  have hel : ElemsOf (strKind P w) es.toList := tx_elems T.good
  unfold setAddHashed setAddHashedIn
  refine wpAny_holding (wpAny_bind (wpAny_setState_of ho hd hf ?_))
  dsimp only
  rw [byScan_of hsc T.few hel]
  simp only [↓reduceIte]
  unfold setAddByScan
  refine wpAny_bind ?_
  refine wpAny_bind (wpAny_rule ?_)
  refine wpAny_bind (wpAny_setScan_of hkey ho hd hf hel ?_)
  cases hfi : List.findIdx? (fun e => (strKind P w).is k e.2) es.toList with
  | some j =>
    dsimp only
    obtain ⟨hj, pj, _⟩ := List.findIdx?_eq_some_iff_getElem.mp hfi
    have hSk : S k = true := (T.mem k).2 ((tx_mem (P := P) T.good k).2 ⟨es.toList[j], List.getElem_mem hj, pj⟩)
    refine wpAny_pure (wpAny_pure ?_)
    have mem' : ∀ i, (S i || decide (i = k)) = true ↔ i ∈ es.toList.map tkey := by
      intro i
      rw [Bool.or_eq_true, decide_eq_true_eq, ← T.mem i]
      constructor
      · rintro (z | z)
        · exact z
        · rw [z]; exact hSk
      · exact .inl
    have q := hQ s.heap (Heap.SameBut.refl a s.heap) ⟨o, es, ep, t, ho, hex, hd, ⟨T.good, T.nd, mem', T.few⟩, hf, by rw [if_pos hSk]; exact hn, hw⟩
    rw [hSk] at q
    exact q
  | none =>
    dsimp only
    have hnk : k ∉ es.toList.map tkey := by
      intro z
      obtain ⟨e, he, q⟩ := (tx_mem (P := P) T.good k).1 z
      have c := List.findIdx?_eq_none_iff.mp hfi e he
      rw [q] at c
      cases c
    have hSk : S k = false := by
      cases q : S k with
      | false => rfl
      | true => exact absurd ((T.mem k).1 q) hnk
    have hgw : ∀ (b : Bool) {s₁ : Shared} {Q' : Unit → Shared → Prop}, Q' () s₁ →
        wpAny (model P w) A (match b with | true => rule "set.scan.the-table-gave-way" | false => pure ()) Q' E s₁ := by
      intro b s₁ Q' q
      cases b
      · exact wpAny_pure q
      · exact wpAny_rule q
    have pm := layNew_perm t es ((strKind P w).hash k) (.str k tk)
    have q1 := layNew_fits t es ((strKind P w).hash k) (.str k tk)
    have q2 := layNew_ris t es ((strKind P w).hash k) (.str k tk) hw.1
    have q3 := layNew_led t es ((strKind P w).hash k) (.str k tk)
    generalize layNew t es ((strKind P w).hash k) (.str k tk) = Z at pm q1 q2 q3 ⊢
    obtain ⟨es1, t1, wasDummy, gave⟩ := Z
    dsimp only at pm q1 q2 q3 ⊢
    rw [Array.toList_push] at pm
    have pc := pm.trans (List.perm_append_singleton _ _)
    have pk : (es1.toList.map tkey).Perm (k :: es.toList.map tkey) := pc.map tkey
    have hsz : es1.size = n + 1 := by
      have z := pc.length_eq
      rw [List.length_cons, Array.length_toList, Array.length_toList, hn] at z
      exact z
    have T1 : TxIn w es1 (fun j => S j || decide (j = k)) := by
      refine ⟨fun e he => ?_, pk.nodup_iff.mpr (List.nodup_cons.mpr ⟨hnk, T.nd⟩), fun i => ?_, hsz ▸ room⟩
      · rcases List.mem_cons.mp (pc.mem_iff.mp he) with z | z
        · rw [z]
          exact ⟨k, tk, rfl, rfl⟩
        · exact T.good e z
      · rw [Bool.or_eq_true, decide_eq_true_eq, T.mem i, pk.mem_iff, List.mem_cons]
        exact Or.comm
    have hw1 : Walked w t1 := by
      refine ⟨q2, ?_⟩
      rcases hw.2 with z | z
      · exact .inl z
      · exact .inr (q3.trans z)
    have fin : ∀ h', Heap.SameBut a s.heap h' → SetT w h' a (fun j => S j || decide (j = k)) es1.size → Q true { s with heap := h' } := by
      intro h' sb r
      have q := hQ h' sb
      rw [hSk] at q
      rw [hsz] at r
      exact q r
    refine wpAny_bind (hgw _ ?_)
    split
    · refine wpAny_bind ?_
      rw [hashByValue_scannable 8 hsc]
      refine wpAny_pure ?_
      refine setT_tail ?_ ho hex hd T1 ?_ ?_ ?_
      · intro b s₁ Q' q
        cases b
        · exact wpAny_pure q
        · exact wpAny_rule q
      · first | (split <;> first | exact q1 | exact SetTable.fits_plain_off q1) | exact q1
      · first | (split <;> exact hw1) | exact hw1
      · intro h' sb r
        dsimp only
        exact wpAny_pure (fin h' sb r)
    · refine wpAny_bind (wpAny_pure ?_)
      simp only [↓reduceIte]
      refine setT_tail ?_ ho hex hd T1 q1 hw1 ?_
      · intro b s₁ Q' q
        cases b
        · exact wpAny_pure q
        · exact wpAny_rule q
      · intro h' sb r
        dsimp only
        exact wpAny_pure (fin h' sb r)
end

/-! ### set(xs) -/
section
variable {prog : Program} {w : World} {A : Around} {R : Result → Shared → Prop} {I : Addr} {fp wr : List Addr}
  {G : Array GenState → Array GenState → Prop} {n : Nat} {P : Nat → Value → Prop} {St : Nat → Shared → Prop}

/-- the set at S holds just the first i of the texts -/
def HoldsT (w : World) (h : Heap) (S : Addr) (xs : List Str) (i : Nat) : Prop := ∃ (M : Str → Bool) (m : Nat), SetT w h S M m ∧ m ≤ i ∧ ∀ k, M k = true ↔ k ∈ xs.take i

theorem update_texts (W : WalksS prog w A.in1 I fp wr G n P St) (S : Addr) (hSf : S ∉ fp) (xs : List Str)
    (hval : ∀ (i : Nat) (v : Value), P i v → ∃ x t, xs[i]? = some x ∧ v = Value.str x t) (hb : n + 1 < scanBound) :
    ∀ (k i : Nat) (s : Shared), n - i = k → i ≤ n → St i s → HoldsT w s.heap S xs i →
      (∀ s', Moved (S :: wr) G s s' → HoldsT w s'.heap S xs n → R (.ok (.ret .none)) s') →
      codeAny (model prog w) A (.builtin "set.update.loop" ⟨[.ref S, .ref I], []⟩) R s := by
  have hSw : S ∉ wr := fun h => hSf (W.sub _ h)
  have hsub : ∀ b ∈ wr, b ∈ S :: wr := fun b hb => List.mem_cons_of_mem _ hb
  intro k
  induction k with
  | zero =>
    intro i s hk hi hst hS hR
    obtain rfl : i = n := by omega
    refine codeAny_builtin F.entry_set_update_loop ?_
    rw [Around.under_plainId F.plain_set_update_loop _]
    show wpAny _ A.in1 (pyNext (.ref I) >>= _) _ _ s
    refine wpAny_bind (W.done s _ _ hst ?_)
    intro s' hm
    show wpAny _ A.in1 (ret Value.none) _ _ s'
    refine wpAny_pure (hR s' (hm.mono hsub) ?_)
    obtain ⟨M, m, T, hmi, hM⟩ := hS
    exact ⟨M, m, T.at fun o ho => hm.heap S _ hSw ho, hmi, hM⟩
  | succ k ih =>
    intro i s hk hi hst hS hR
    have hlt : i < n := by omega
    refine codeAny_builtin F.entry_set_update_loop ?_
    rw [Around.under_plainId F.plain_set_update_loop _]
    show wpAny _ A.in1 (pyNext (.ref I) >>= _) _ _ s
    refine wpAny_bind (W.item i s _ _ hlt hst ?_)
    intro v s' hP hst' hm
    obtain ⟨x, t, hx, rfl⟩ := hval i v hP
    obtain ⟨M, m, T, hmi, hM⟩ := hS
    have T' : SetT w s'.heap S M m := T.at fun o ho => hm.heap S _ hSw ho
    show wpAny _ A.in1 (holding [Value.str x t] (setAdd S (.str x t)) >>= _) _ _ s'
    refine wpAny_bind (wpAny_holding ?_)
    unfold setAdd
    refine wpAny_holding ?_
    refine wpAny_bind ((strKind prog w).pyHash (k := x) (strKind_is _ _ _ _) ?_)
    refine setT_add (s := { s' with toks := s'.toks + 1 }) T' (by omega) ?_
    intro h' hsb T2
    have hSi : HoldsT w h' S xs (i + 1) := by
      refine ⟨_, _, T2, ?_, fun j => ?_⟩
      · split <;> omega
      · rw [Bool.or_eq_true, decide_eq_true_eq, hM j, List.take_add_one, hx, List.mem_append]
        show _ ↔ _ ∨ j ∈ [x]
        rw [List.mem_singleton]
    refine wpAny_pure ⟨plainId_quiet F.plain_set_update_loop _, ?_⟩
    refine ih (i + 1) _ (by omega) hlt (W.frame _ s' _ _ hst' (Nat.le_succ _) ?_) hSi ?_
    · intro b hb o e
      rw [hsb.2 b (fun h : b = S => hSf (by rw [← h]; exact hb))]
      exact e
    · intro s'' hm'' hS''
      refine hR s'' (Moved.trans W.gtrans ((hm.mono hsub).then_heap (Nat.le_succ _) ?_) hm'') hS''
      intro b o hb e
      rw [hsb.2 b (fun h : b = S => hb (by rw [h]; exact List.mem_cons_self))]
      exact e
end

section
variable {P : Program} {w : World} {A : Around} {E : Value → Shared → Prop} {s : Shared}
def freshSet (w : World) : Obj := { cls := .type "set", dict := none, data := .set #[] 0 (.fresh 0 0 (!w.params.followText "set-order")) }
theorem set_new1 (a : Value) {Q₁ : Value → Shared → Prop} (h : Q₁ (.ref s.heap.objs.size) { s with heap := s.heap.push (freshSet w) }) :
    codeAny (model P w) A (.call (.builtin "set.__new__") ⟨[.type "set", a], []⟩) (wants Q₁ E) s := by
  refine codeAny_of_tree ?_
  show wpAny _ A.in1 (do
    checkBuiltinCall "set.__new__" ⟨[.type "set", a], []⟩
    again (.builtin "set.__new__" ⟨[.type "set", a], []⟩)) _ _ s
  refine wpAny_bind (wpAny_of_eq (F.newCall_set_1 a) (wpAny_pure ⟨plainId_quiet F.plain_set_new _, ?_⟩))
  refine codeAny_builtin F.entry_set_new ?_
  rw [Around.under_plainId F.plain_set_new _]
  unfold Builtin.«set.__new__» Builtin.Frozenset.newClass
  have hsub := sub_set_self
  obtain ⟨hp, g, d, tk, os⟩ := s
  dsimp only
  wp_walk
  refine wpAny_askSetting (wpAny_pure ?_)
  dsimp only
  simp only [newObj]
  exact wpAny_bind (wpAny_alloc (wpAny_pure (wpAny_pure h)))
theorem setT_fresh {h : Heap} (w : World) (xs : List Str) : HoldsT w (h.push (freshSet w)) h.objs.size xs 0 := by
  refine ⟨fun _ => false, 0, ⟨_, #[], 0, _, Heap.get?_push_size _ rfl, ⟨rfl, rfl, rfl⟩, rfl, ⟨?_, ?_, ?_, ?_⟩, ?_, rfl, List.Pairwise.nil, ?_⟩, Nat.le_refl _, ?_⟩
  · intro e he
    simp at he
  · simp
  · intro k
    simp
  · decide
  · rfl
  · show _ ∨ (!w.params.followText "set-order") = true
    cases w.params.followText "set-order"
    · exact .inr rfl
    · exact .inl rfl
  · intro k
    simp

theorem call_set_texts {l : Addr} {items : Array Value} {xs : List Str} {Q : Value → Shared → Prop} (hh : A.handled = none)
    (hl : s.heap.IsList l items) (hi : ∀ (i : Nat) (v : Value), items[i]? = some v → ∃ x t, xs[i]? = some x ∧ v = Value.str x t) (hb : items.size + 1 < scanBound)
    (h : ∀ (h' : Heap) (tk : Nat), HoldsT w h' s.heap.objs.size xs items.size →
      (∀ b o, b < s.heap.objs.size → s.heap.get? b = some o → h'.get? b = some o) → Q (.ref s.heap.objs.size) { s with heap := h', toks := tk }) :
    wpAny (model P w) A (call (.type "set") [.ref l]) Q E s := by
  obtain ⟨c, tl, hmro⟩ := F.called_set.mro
  have hmade := F.called_set.made
  have hsub := F.called_set.sub
  refine wpAny_call (codeAny_of_tree ?_)
  show wpAny _ _ (callAny (.type "set") _) _ _ _
  refine wpAny_pure ⟨Code.quiet_builtin _ (by decide +kernel), ?_⟩
  refine codeAny_builtin F.entry_type_call ?_
  rw [Around.under_plain (weight_type_call_type "set" [.ref l] []) rfl]
  have h1 := F.called_set.notType
  have h2 := F.called_set.canCreate
  have hct := F.typeCall_set_1 (.ref l)
  repeat (any_goals (first | assumption | wp_step))
  refine codeAny_mono (set_new1 (.ref l) (E := E) (Q₁ := fun obj s₁ => obj = .ref s.heap.objs.size ∧ s₁ = { s with heap := s.heap.push (freshSet w) }) ⟨rfl, rfl⟩) ?_
  intro r s₁ hr
  cases r with
  | error e => exact hr
  | ok fl =>
    cases fl with
    | ret obj =>
      obtain ⟨rfl, rfl⟩ := hr
      have hS : (s.heap.push (freshSet w)).get? s.heap.objs.size = some (freshSet w) := Heap.get?_push_size _ rfl
      have hT : Shared.TypeIs { s with heap := s.heap.push (freshSet w) } (.ref s.heap.objs.size) "set" := ⟨_, hS, rfl⟩
      have hli := F.called_set.init.lookup
      have hbi := F.called_set.init.bind (.ref s.heap.objs.size)
      repeat (any_goals (first | assumption | wp_step))
      refine codeAny_mono (codeAny_call_builtin (R := wants (fun r s₂ => r = .none ∧ ∃ h' tk, s₂ = { s with heap := h', toks := tk } ∧
          HoldsT w h' s.heap.objs.size xs items.size ∧ (∀ b o, b < s.heap.objs.size → s.heap.get? b = some o → h'.get? b = some o)) E)
        F.called_set.init.plain F.entry_set_init (check_set_init_1 hT ?_)) ?_
      · obtain ⟨ol, hol, hcl, nl, hdl⟩ := hl
        obtain ⟨ocls, odict, odata, oslots⟩ := ol
        simp only at hcl hdl
        subst hcl
        subst hdl
        have hol' : (s.heap.push (freshSet w)).get? l = some { cls := .type "list", dict := odict, data := .seq items nl, slots := oslots } := Heap.get?_push_of_some _ hol
        have hsls := F.sub_list_set
        have hslf := F.sub_list_frozenset
        have hne : (Value.type "list" == Value.type "dict") = false := by decide
        have hl1 : (s.heap.push (freshSet w)).IsList l items := ⟨_, hol', rfl, nl, rfl⟩
        unfold Builtin.«set.__init__» noKeywords Builtin.Frozenset.updateFrom
        generalize hPI : pyIter = PI
        wp_walk
        subst hPI
        refine wpAny_pyIter_list hl1 ?_
        refine wpAny_bind (wpAny_runValue ?_)
        have hlS : l < s.heap.objs.size := Heap.lt_size hol
        have hh3 : A.in1.in1.in1.handled = none := by simp [hh]
        have hsz : (s.heap.push (freshSet w)).objs.size = s.heap.objs.size + 1 := Heap.size_push _ _
        have hneI : l ≠ (s.heap.push (freshSet w)).objs.size := by
          rw [hsz]
          exact Nat.ne_of_lt (Nat.lt_succ_of_lt hlS)
        have hSf : s.heap.objs.size ∉ [(s.heap.push (freshSet w)).objs.size, l] := by
          rw [hsz]
          simp only [List.mem_cons, List.not_mem_nil, or_false, not_or]
          exact ⟨Nat.ne_of_lt (Nat.lt_succ_self _), Nat.ne_of_gt hlS⟩
        refine update_texts ((Walks.list hh3 _ l hneI items).toS) s.heap.objs.size hSf xs hi hb (items.size - 0) 0 _ (by omega) (Nat.zero_le _)
          ⟨⟨_, Heap.get?_push_size _ rfl, rfl, rfl⟩, (hl1.push _)⟩ ?hS0 ?hR
        case hS0 =>
          obtain ⟨M, m, T, e1, e2⟩ := setT_fresh (h := s.heap) w xs
          exact ⟨M, m, T.at fun o ho => Heap.get?_push_of_some _ ho, e1, e2⟩
        case hR =>
          intro s' hm hS'
          obtain ⟨h', g', d', tk', os'⟩ := s'
          have eg : g' = s.gens := hm.gens
          have ed : d' = s.drawn := hm.drawn
          have eo : os' = s.os := hm.os
          subst eg
          subst ed
          subst eo
          show wpAny _ _ _ _ _ _
          refine wpAny_pure ?_
          show wpAny _ _ (ret Value.none) _ _ _
          refine wpAny_pure ⟨rfl, h', tk', rfl, hS', ?_⟩
          intro b o hb e
          have hb1 : b ≠ s.heap.objs.size := Nat.ne_of_lt hb
          have hb2 : b ≠ (s.heap.push (freshSet w)).objs.size := by
            rw [hsz]
            exact Nat.ne_of_lt (Nat.lt_succ_of_lt hb)
          refine hm.heap b o ?_ (Heap.get?_push_of_some _ (Heap.get?_push_of_some _ e))
          simp only [List.mem_cons, List.not_mem_nil, or_false, not_or]
          exact ⟨hb1, hb2⟩
      · intro r₂ s₂ hr₂
        cases r₂ with
        | error e => exact hr₂
        | ok fl₂ =>
          cases fl₂ with
          | ret r =>
            obtain ⟨rfl, h', tk, rfl, hS', hk'⟩ := hr₂
            repeat (any_goals (first | assumption | wp_step))
            exact h _ _ hS' hk'
          | _ => exact hr₂.elim
    | _ => exact hr.elim

/-! ### sorted(set) -/
def txtOf (v : Value) : Str := match v with
  | .str x _ => x
  | _ => Str.empty
theorem strs_of : ∀ (l : List Value), (∀ v ∈ l, ∃ x tk, v = Value.str x tk) → StrsAre l (l.map txtOf)
  | [], _ => .nil
  | v :: l, h => by
    obtain ⟨x, tk, rfl⟩ := h v List.mem_cons_self
    exact .cons x tk (strs_of l fun u hu => h u (List.mem_cons_of_mem _ hu))

theorem sorted_texts {a : Addr} {S : Str → Bool} {n : Nat} {Q : Value → Shared → Prop} (R : SetT w s.heap a S n) (hh : A.handled = none)
    (hQ : ∀ s' p (out : Array Value) (c : Nat) (ys : List Str), (∀ b o, s.heap.get? b = some o → s'.heap.get? b = some o) → s'.gens = s.gens → s'.os = s.os →
      s.heap.objs.size ≤ p → s'.heap.get? p = some (seqObj "list" out c) → StrsAre out.toList ys → sortedS ys = true → ys.Nodup → (∀ k, k ∈ ys ↔ S k = true) →
      ys.length = n → Q (.ref p) s') :
    wpAny (model P w) A (call (.builtin "sorted") [.ref a]) Q E s := by
  obtain ⟨o, es, ep, t, ho, hex, hd, T, hf, hn, hw⟩ := R
  refine Calls.call_function_entry kind_sorted plain_sorted entry_sorted (args_sorted1 _) ?_
  unfold Builtin.«sorted»
  refine wpAny_bind (m := checkCount "sorted" 1 1 _) (wpAny_pure ?_)
  refine wpAny_bind (collect_set (A := A.in1) hh ⟨o, ho, hex.1, hd⟩ hf T.few hw.1 hw.2 ?_)
  intro s1 vs k1 hz g1 o1 pm
  have hvl : vs.length = n := by
    rw [pm.length_eq, List.length_map, Array.length_toList]
    exact hn
  have hI : StrsAre vs (vs.map txtOf) := by
    refine strs_of vs fun v hv => ?_
    obtain ⟨e, he, q⟩ := List.mem_map.mp (pm.mem_iff.mp hv)
    obtain ⟨x, tk, h1, _⟩ := T.good e he
    exact ⟨x, tk, by rw [← q]; exact h1⟩
  have pk : (vs.map txtOf).Perm (es.toList.map tkey) := by
    have q := pm.map txtOf
    rw [List.map_map] at q
    exact q
  have hline : vs.length ≤ sizeLine := by
    rw [hvl, ← hn]
    exact fits_of_scanBound T.few
  refine wpAny_bind (wpAny_newList ?_ hline)
  have hoL : (s1.heap.push (seqObj "list" vs.toArray 0)).get? s1.heap.objs.size = some (seqObj "list" vs.toArray 0) := Heap.get?_push_size _ rfl
  refine wpAny_bind (wpAny_holding (wpAny_call_entry slot_list_sort ⟨_, hoL, rfl⟩ entry_list_sort
    (list_sort_treeKAny strKind_oneLt hoL hI.keysOf (fun v₁ v₂ rest e => keyKind_strs (by rw [← e]; exact hI)) hline ?_) (args_list_sort _)))
  intro st' hp hs
  obtain ⟨ys, a1, a2, a3⟩ := sorted_out_str hI hp hs
  refine ⟨_, rfl, ?_⟩
  obtain ⟨c, hc⟩ := sortedHeap_at (vs := vs) (out := (arrOf st').map (·.2)) hoL
  have pn : ys.Perm (es.toList.map tkey) := a2.trans pk
  refine wpAny_pure ⟨_, rfl, ?_⟩
  refine hQ _ s1.heap.objs.size _ c ys ?_ g1 o1 hz hc a1 a3 (pn.nodup_iff.mpr T.nd) (fun k => by rw [pn.mem_iff, ← T.mem k]) ?_
  · intro b u e
    have q := k1 b u e
    have hlt := Heap.lt_size q
    show (sortedHeap (s1.heap.push (seqObj "list" vs.toArray 0)) s1.heap.objs.size vs _).get? b = some u
    rw [sortedHeap_old (Nat.ne_of_lt hlt) (by rw [size_push']; exact Nat.lt_succ_of_lt hlt)]
    exact Heap.get?_push_of_some _ q
  · rw [pn.length_eq, List.length_map, Array.length_toList]
    exact hn
end

/-! ### over the layer -/
/-- a tracked set of just these texts -/
def TxS (w : World) (a : Addr) (xs : List Str) : HO := .ext fun h => HoldsT w h a xs xs.length
theorem txS_ok {P : Program} {w : World} {H : Hp} {h : Heap} {a : Addr} {xs : List Str} (T : HoldsT w h a xs xs.length) : ObjOk P w H h a (TxS w a xs) := by
  refine ⟨T, ?_, ?_⟩
  · obtain ⟨_, _, ⟨o, _, _, _, ho, _⟩, _⟩ := T
    exact ⟨o, ho⟩
  · rintro h1 h2 ⟨M, m, T1, e1, e2⟩ k
    exact ⟨M, m, T1.at k, e1, e2⟩
/-- sorted, each once, the same members -/
structure Sorted (ys xs : List Str) : Prop where
  up : sortedS ys = true
  nd : ys.Nodup
  mem : ∀ k, k ∈ ys ↔ k ∈ xs
  len : ys.length ≤ xs.length
def rSetT (w : World) : List V → Hp → VK → Prop := fun vs H Q => ∃ (l : Addr) (xs : List Str), vs = [.ref l] ∧ H l = some (.lst (xs.map V.str)) ∧ xs.length + 1 < scanBound ∧
  ∀ p, H p = none → Q (.ref p) (upd H p (TxS w p xs))
def rSortT (w : World) : List V → Hp → VK → Prop := fun vs H Q => ∃ (a : Addr) (xs : List Str), vs = [.ref a] ∧ H a = some (TxS w a xs) ∧
  ∀ ys p, Sorted ys xs → H p = none → Q (.ref p) (upd H p (.lst (ys.map V.str)))
theorem vals_str {xs : List Str} {us : List Value} (r : Vals (xs.map V.str) us) (i : Nat) (v : Value) (h : us[i]? = some v) : ∃ x t, xs[i]? = some x ∧ v = Value.str x t := by
  have hi : i < us.length := (List.getElem?_eq_some_iff.mp h).1
  have hx : i < xs.length := by
    have := r.length
    rw [List.length_map] at this
    omega
  obtain ⟨u, h1, h2⟩ := Vals.get (i := i) (x := V.str xs[i]) r (by rw [List.getElem?_map, List.getElem?_eq_getElem hx]; rfl)
  rw [h] at h1
  cases h1
  obtain ⟨t, e⟩ := h2
  exact ⟨xs[i], t, List.getElem?_eq_getElem hx, e⟩
section
variable {X : Cx}
theorem cr_setT (hc : X.calm = true) : CallR X (.type "set") (rSetT X.w) := by
  intro pins s σ H vs us Q I r h
  obtain ⟨l, xs, rfl, hl, hz, q⟩ := h
  obtain ⟨its, rv, pl, _⟩ := I.list (SqL.of hl)
  rw [Vals.ref1 r]
  have hlen : its.length = xs.length := by
    have := rv.length
    rw [List.length_map] at this
    exact this.symm
  refine call_set_texts (xs := xs) (I.ok.hd hc) pl.isList (fun i v hv => vals_str rv i v (by simpa using hv)) (by rw [List.size_toArray, hlen]; exact hz) ?_
  intro h' tk T k
  have ez : its.toArray.size = xs.length := by rw [List.size_toArray, hlen]
  rw [ez] at T
  have kk : ∀ b o, s.heap.get? b = some o → h'.get? b = some o := fun b o e => k b o (Heap.lt_size e) e
  exact ⟨.ref _, _, I.laid (t' := tk) kk (Nat.le_refl _) (txS_ok T), rfl, q _ (I.hok.fresh (Nat.le_refl _))⟩
theorem cr_sortT (hc : X.calm = true) : CallR X (.builtin "sorted") (rSortT X.w) := by
  intro pins s σ H vs us Q I r h
  obtain ⟨a, xs, rfl, ha, q⟩ := h
  have T : HoldsT X.w s.heap a xs xs.length := (I.hok a _ ha).1
  obtain ⟨M, m, T, hm, hM⟩ := T
  rw [List.take_length] at hM
  rw [Vals.ref1 r]
  refine sorted_texts T (I.ok.hd hc) ?_
  intro s' p out c ys k g o hp hg hs h1 h2 h3 h4
  have so : Sorted ys xs := ⟨h1, h2, fun j => (h3 j).trans (hM j), by rw [h4]; exact hm⟩
  have few : ys.length < scanBound := by
    obtain ⟨_, es, _, _, _, _, _, Tx, _, hn, _⟩ := T
    rw [h4, ← hn]
    exact Tx.few
  have hlen : (ys.map V.str).length ≤ sizeLine := by
    rw [List.length_map]
    exact fits_of_scanBound few
  have hn : H p = none := I.hok.fresh hp
  have J : Inv X pins σ (upd H p (.lst (ys.map V.str))) { s with heap := s'.heap, gens := s'.gens, drawn := s'.drawn, toks := s'.toks } :=
    I.call (ch := []) (Un.laid k hp hn) (I.hok.laid k hp ⟨hlen, out.toList, c, vals_of_strs hs, hg⟩) (by rw [g]; exact I.bare) (fun _ z => nomatch z)
  have e : s' = { s with heap := s'.heap, gens := s'.gens, drawn := s'.drawn, toks := s'.toks } := by
    cases s'
    cases s
    cases o
    rfl
  rw [e]
  exact ⟨.ref p, _, J, rfl, q ys p so hn⟩
end
end LP

set_option Elab.async false
set_option linter.all false
set_option maxRecDepth 100000
set_option maxHeartbeats 4000000
/-! LPX: further readings: texts repeated, signs of a text, tuples walked, all(..). -/
namespace LP
open PySem PySem.Spec L2
open PyProof.Rows hiding St

/-! ### a text repeated -/
def repS (z : Str) (n : Int) : Str := Txt.mul z n
theorem foldl_app {α : Type} : ∀ (l : List (Array α)) (a : Array α), (l.foldl (· ++ ·) a).toList = a.toList ++ (l.map Array.toList).flatten
  | [], a => by simp
  | x :: r, a => by
    rw [List.foldl_cons, foldl_app r (a ++ x)]
    simp
theorem tl_rep (z : Str) (n : Int) : TL.tl (repS z n) = (List.replicate n.toNat (TL.tl z)).flatten := by
  unfold repS Txt.mul
  by_cases h : n < 1
  · rw [if_pos h]
    have e : n.toNat = 0 := by omega
    rw [e]
    rfl
  · rw [if_neg h]
    by_cases h2 : (n == 1 || z.length == 0) = true
    · rw [if_pos h2]
      rw [Bool.or_eq_true, beq_iff_eq, beq_iff_eq] at h2
      rcases h2 with e | e
      · rw [e]
        simp
      · have e2 : TL.tl z = [] := List.length_eq_zero_iff.mp ((len_tl' z).symm.trans e)
        rw [e2]
        simp
    · rw [if_neg h2]
      show ((List.replicate n.toNat z.cps).foldl (· ++ ·) #[]).toList = _
      rw [foldl_app]
      simp
theorem len_rep (z : Str) (n : Int) : (repS z n).length = z.length * n.toNat := by
  rw [len_tl', tl_rep, List.length_flatten, len_tl']
  simp [Nat.mul_comm]
def rRepS : R2 := fun x y H Q => ∃ z n, x = .str z ∧ y = .int n ∧ (-(2 ^ 63) ≤ n ∧ n < 2 ^ 63 ∧ z.length * n.toNat ≤ sizeLine) ∧ Q (.str (repS z n)) H
section
variable {X : Cx}
theorem op_repS : OpR X (binaryOp .Mult) rRepS := by
  intro pins s σ H x y v u Q I rx ry h
  obtain ⟨z, n, rfl, rfl, ⟨h1, h2, h3⟩, q⟩ := h
  obtain ⟨t, rfl⟩ := rx
  obtain ⟨k, rfl⟩ := ry
  refine SB.mul ⟨?_, ?_, ?_⟩ (fun t' k' => ⟨.str _, H, I.tok _, ⟨_, rfl⟩, q⟩)
  · rw [Bool.or_eq_false_iff, decide_eq_false_iff_not, decide_eq_false_iff_not]
    omega
  · intro hn _ hc
    have e : sizeLine = 16777216 := sizeLine_eq
    rw [e] at h3
    have h5 : (z.length : Int) * n ≤ 16777216 := by
      have e2 : ((n.toNat : Nat) : Int) = n := Int.toNat_of_nonneg (by omega)
      have e3 := Int.ofNat_le.mpr h3
      rw [Int.natCast_mul, e2] at e3
      exact e3
    have h6 : (z.length : Int) ≤ (2 ^ 63 - 1) / n := by
      rw [Int.le_ediv_iff_mul_le (by omega)]
      omega
    omega
  · intro hn _
    show decide (z.length * n.toNat > sizeLine) = false
    rw [decide_eq_false_iff_not]
    exact Nat.not_lt_of_le h3
end

/-! ### the signs of a text -/
def sgn (c : Nat) : V := .str ⟨#[c]⟩
def signs (x : Str) : List V := x.cps.toList.map sgn
theorem signs_len (x : Str) : (signs x).length = x.length := by
  unfold signs
  rw [List.length_map, len_tl']
theorem walk_signs (x : Str) : Walk (Its x) (signs x).length (fun _ => True) (YAt (signs x)) := by
  have e : (signs x).length = x.cps.size := signs_len x
  refine ⟨fun i H hi _ => ?_, fun H _ => ?_, fun i H v H' hi _ y => ?_⟩
  · rw [e] at hi
    exact hi
  · exact Nat.le_of_eq e.symm
  · obtain ⟨e1, c, hc, e2⟩ := y
    refine ⟨e1, ?_⟩
    unfold signs
    rw [List.getElem?_map, Array.getElem?_toList, hc, e2]
    rfl

/-! ### comprehensions that leave what is known, over any walk -/
theorem lc_pureW {J : It} {G : Hp → Prop} {xs : List V} (W : Walk J xs.length G (YAt xs)) {j : Nat} {tt : TT} {te : TE} {vs : List Nat} {σ : St} {H : Hp} {Q : VK}
    (hG : ∀ H1, Same H H1 → G H1) (hz : xs.length ≤ 1000000) (f : V → Bool) (v : V → V)
    (hw : ∀ x, wipe ((wipe σ vs).set j (some x)) vs = wipe σ vs)
    (ht : ∀ x, x ∈ xs → ∀ H1, Same H H1 → ∀ R : Bool → Hp → Prop, (∀ H2, Same H1 H2 → R (f x) H2) → tt ((wipe σ vs).set j (some x)) H1 R)
    (he : ∀ x, x ∈ xs → f x = true → ∀ H1, Same H H1 → ∀ R : VK, (∀ H2, Same H1 H2 → R (v x) H2) → te ((wipe σ vs).set j (some x)) H1 R)
    (q : ∀ p H2, H p = none → Same H H2 → H2 p = some (.lst ((xs.filter f).map v)) → Q (.ref p) H2) : LcLoop J (gName j) tt te vs σ H Q := by
  intro D hD
  refine lc_it W (fun i H' => Same H H' ∧ H' D = some (.lst (((xs.take i).filter f).map v))) ⟨Same.new hD, upd_same⟩ (fun i H' _ p => hG H' p.1) ?_ ?_
  · rintro i x H1 H1' hi ⟨e1, d1⟩ ⟨rfl, hx⟩
    have hm : x ∈ xs := List.mem_of_getElem? hx
    have htk : xs.take (i + 1) = xs.take i ++ [x] := by rw [List.take_add_one, hx]; rfl
    refine ⟨hw x, ht x hm _ e1 _ fun H2 e2 => ?_⟩
    cases hf : f x with
    | true =>
      show te _ H2 _
      refine he x hm hf H2 (e1.trans e2) _ fun H3 e3 => ?_
      refine ⟨_, e3 _ _ (e2 _ _ d1), ?_, ?_, ?_⟩
      · have h1 : (((xs.take i).filter f).map v).length ≤ xs.length := by
          rw [List.length_map]
          exact Nat.le_trans (List.length_filter_le _ _) (by rw [List.length_take]; omega)
        exact Nat.lt_of_le_of_lt (Nat.le_trans h1 hz) (by decide)
      · intro b o e
        rw [upd_ne (ne_of_none e hD)]
        exact e3 _ _ (e2 _ _ (e1 _ _ e))
      · rw [htk, upd_same, List.filter_append, List.map_append, List.filter_cons, if_pos hf]
        rfl
    | false =>
      show Same H H2 ∧ _
      refine ⟨e1.trans e2, ?_⟩
      rw [htk, List.filter_append, List.filter_cons, if_neg (by rw [hf]; decide), List.map_append]
      show H2 D = some (.lst (_ ++ []))
      rw [List.append_nil]
      exact e2 _ _ d1
  · rintro H1 ⟨e1, d1⟩
    rw [List.take_length] at d1
    exact q D H1 hD e1 d1
/-- .. without a test -/
theorem lc_mapW {J : It} {G : Hp → Prop} {xs : List V} (W : Walk J xs.length G (YAt xs)) {j : Nat} {te : TE} {vs : List Nat} {σ : St} {H : Hp} {Q : VK}
    (hG : ∀ H1, Same H H1 → G H1) (hz : xs.length ≤ 1000000) (v : V → V)
    (hw : ∀ x, wipe ((wipe σ vs).set j (some x)) vs = wipe σ vs)
    (he : ∀ x, x ∈ xs → ∀ H1, Same H H1 → ∀ R : VK, (∀ H2, Same H1 H2 → R (v x) H2) → te ((wipe σ vs).set j (some x)) H1 R)
    (q : ∀ p H2, H p = none → Same H H2 → H2 p = some (.lst (xs.map v)) → Q (.ref p) H2) : LcLoop J (gName j) tYes te vs σ H Q := by
  refine lc_pureW W hG hz (fun _ => true) v hw (fun x _ H1 _ R h => h H1 (Same.refl _)) (fun x hx _ H1 e R h => he x hx H1 e R h) ?_
  intro p H2 hp e hl
  have ef : xs.filter (fun _ => true) = xs := List.filter_eq_self.mpr (fun _ _ => rfl)
  rw [ef] at hl
  exact q p H2 hp e hl

/-! ### loops over any walk -/
theorem loop_it {J : It} {n : Nat} {G : Hp → Prop} {Y : Nat → Hp → V → Hp → Prop} (W : Walk J n G Y) {g : TG} {tb : TS} {D : Ends} {σ : St} {H : Hp} (Pv : Nat → St → Hp → Prop) (h0 : Pv 0 σ H)
    (hG : ∀ i σ H, i ≤ n → Pv i σ H → G H)
    (hs : ∀ i x σ H H', i < n → Pv i σ H → Y i H x H' → g x σ H' fun σ2 H2 => Later tb { D with nx := Pv (i + 1), ct := Pv (i + 1), bk := D.nx } σ2 H2)
    (hd : ∀ σ H, Pv n σ H → D.nx σ H) : Loop J g tb D σ H := for_it W Pv h0 hG hs hd
theorem loop_tup {K : PySem.W.Frag} {a : Addr} {xs : List V} {g : TG} {tb : TS} {D : Ends} {σ : St} {H : Hp} (Pv : Nat → St → Hp → Prop) (h0 : Pv 0 σ H)
    (hl : ∀ i σ H, i ≤ xs.length → Pv i σ H → SqT K H a xs)
    (hs : ∀ (i : Nat) (x : V) (σ : St) (H : Hp), xs[i]? = some x → Pv i σ H → g x σ H fun σ2 H2 => Later tb { D with nx := Pv (i + 1), ct := Pv (i + 1), bk := D.nx } σ2 H2)
    (hd : ∀ σ H, Pv xs.length σ H → D.nx σ H) : Loop (Itt K a) g tb D σ H := for_tup (K := K) (a := a) (xs := xs) Pv h0 hl hs hd

/-! ### all(..), one sign in a text, ranges -/
def rAllM : List V → Hp → VK → Prop := fun vs H Q => ∃ (a : Addr) (bs : List Bool), vs = [V.ref a] ∧ H a = some (.lst (bs.map V.bl)) ∧ Q (.bl (bs.all id)) H
def rSgn : R2 := fun x y H Q => ∃ (c : Nat) (z : Str), x = sgn c ∧ y = .str z ∧ Q (.bl (decide (c ∈ z.cps.toList))) H
def rRng2 : List V → Hp → VK → Prop := fun vs H Q => ∃ i j, vs = [V.int i, V.int j] ∧ ∀ p, H p = none → Q (.ref p) (upd H p (.rng i j))
def rInRng : R2 := fun x y H Q => ∃ i a lo hi, x = V.int i ∧ y = V.ref a ∧ H a = some (.rng lo hi) ∧ Q (.bl (decide (lo ≤ i ∧ i < hi))) H
section
variable {X : Cx}
theorem op_eqK {K : PySem.W.Frag} (hK : X.K = K) (hu : X.A.units + 64 < cLine) : OpR X (compareOp .Eq) (rEqD K) := by
  subst hK
  exact op_eqD hu
theorem op_neK {K : PySem.W.Frag} (hK : X.K = K) (hu : X.A.units + 64 < cLine) : OpR X (compareOp .NotEq) (rNeD K) := by
  subst hK
  exact op_neD hu
theorem call_isiK' {K : PySem.W.Frag} (hK : X.K = K) : CallR X (.builtin "isinstance") (rIsi K) := by
  subst hK
  exact call_isi
theorem call_reprK {K : PySem.W.Frag} (hK : X.K = K) (gd : X.A.guards = some []) (hu : X.A.units + 64 < cLine) : CallR X (.builtin "repr") (rReprD K) := by
  subst hK
  exact call_reprD gd hu
theorem cr_allM (hc : X.calm = true) : CallR X (.builtin "all") rAllM := call_imp (cr_all hc) fun xs H Q ⟨a, bs, h1, h2, q⟩ => ⟨a, bs, h1, SqL.of h2, q⟩
theorem op_sgn : OpR X (compareOp .In) rSgn := op_imp op_in_sign fun x y H Q h => h
theorem cr_rng2 : CallR X (.type "range") rRng2 := cr_range2
theorem op_inRng : OpR X (compareOp .In) rInRng := op_in_rng
end
end LP

set_option Elab.async false
set_option linter.all false
set_option maxRecDepth 100000
set_option maxHeartbeats 2000000
/-! LPO: own operators of slotted instances: !=, binary operators, str(x), len(x), in. -/
namespace LPO
open PySem PySem.Spec PySem.W PyProof.Rows
section
variable {prog : Program} {w : World} {A : Around} {E : Value → Shared → Prop} {s : Shared} {K : Frag} {x C f : Addr} {ox : Obj} {od : Option Obj} {b tb : Value}
theorem bound_b {M : Model} {name : Str} {id : String} {args : List Value} {Q : Option Value → Shared → Prop} (X : K.In s.heap) (I : InstAt s.heap x ox C od) (hs : findIn K (.ref C) name = some (some (.builtin id)))
    (hb : ∀ self, bindSpecial (.builtin id) self = pure (.builtin id, [self])) (h : wpAny M A (call (.builtin id) (.ref x :: args)) (fun v => Q (some v)) E s) : wpAny M A (callSpecialIfBound? (.ref x) name args) Q E s := by
  simp only [callSpecialIfBound?, bindSpecialIfBound?]
  refine wpAny_holding (wpAny_bind (wpAny_bind (wpAny_bind (I.type.here ((looks_findIn X hs).here ?_)))))
  refine wpAny_bind (wpAny_askSetting (wpAny_ite ?_))
  have fin : wpAny M A (call (.builtin id) ([.ref x] ++ args) >>= fun v => pure (some v)) Q E s := wpAny_bind (wpAny_mono h (fun v s' h' => wpAny_pure h') fun _ _ h' => h')
  split
  · exact wpAny_bind ((Looks.of_pure (hb _)).here (wpAny_pure (by exact fin)))
  · exact wpAny_tryCatch (wpAny_bind ((Looks.of_pure (hb _)).here (wpAny_pure (by exact fin))))
theorem bind_ne (self : Value) : bindSpecial (.builtin "object.__ne__") self = pure (.builtin "object.__ne__", [self]) := by kernel_rfl
theorem plain_ne : plainId "object.__ne__" = true := by decide +kernel
/-- x != b by an own == -/
theorem ne_own {Q : Value → Shared → Prop} (hu : A.units + 1 < cLine) (X : K.In s.heap) (I : InstAt s.heap x ox C od) (hb : Looks (model prog w) s.heap (typeOf b) tb) (hn : notFirst K C tb = true) (hm : mroIn K C (.type "object") = some true)
    (hne : findIn K (.ref C) "__ne__" = some (some (.builtin "object.__ne__"))) (hs : findIn K (.ref C) "__eq__" = some (some (.ref f))) (hf : isFn K (.ref f) = true)
    (h : wpAny (model prog w) A.in1 (call (.ref f) [.ref x, b]) (fun v s' => ∃ c, v = .bool c ∧ Q (.bool (!c)) s') E s) : wpAny (model prog w) A (compareOp .NotEq (.ref x) b) Q E s := by
  have one : wpAny (model prog w) A (tryCompare (.ref x) "__ne__" b) (fun r s' => ∃ v, r = some v ∧ Q v s') E s := by
    unfold tryCompare
    refine wpAny_bind (bound_b X I hne bind_ne (wpAny_call (codeAny_call_builtin plain_ne F.cmpEntry_ne (check_slot (i := "object.__ne__") (owner := "object") (n := "__ne__") F.cmpKind_ne F.cmpSplit_ne (I.type.andThen (looks_mroIn X hm)) (F.cmpArgs_ne _ _) ?_))))
    unfold Builtin.«object.__ne__»
    refine wpAny_bind (m := slotArgs "__ne__" 1 _) (wpAny_pure ?_)
    refine wpAny_bind (m := cRoomFor _ _) (wpAny_cRoomFor hu ?_)
    refine wpAny_bind (m := callSpecialIfBound? (.ref x) (Str.ofString "__eq__") _) (ifBound_K X I hs hf (wpAny_mono h (fun v s' hq => ?_) fun _ _ y => y))
    obtain ⟨c, rfl, q⟩ := hq
    refine wpAny_bind (wpAny_truthy_bool (wpAny_pure ?_))
    exact wpAny_pure ⟨_, rfl, q⟩
  show wpAny (model prog w) A (richCompare .NotEq (.ref x) b) Q E s
  unfold richCompare
  simp only [oneThing_ref]
  refine wpAny_holding (wpAny_bind (wpAny_cRoomFor (Nat.lt_of_succ_lt hu) ?_))
  rw [cmpInfo_NotEq]
  refine wpAny_bind (I.type.here (wpAny_bind (hb.here ?_)))
  split
  · rename_i q
    have e : subIn K tb (.ref C) = some false := by
      rcases Bool.or_eq_true_iff.mp hn with e | e
      · rw [beq_iff_eq.mp e] at q; simp at q
      · exact beq_iff_eq.mp e
    refine wpAny_bind ((looks_subIn X e).here ?_)
    simp only [Bool.false_eq_true, if_false]
    refine wpAny_bind (wpAny_mono one (fun r s' z => ?_) fun _ _ e => e)
    obtain ⟨v, rfl, hq⟩ := z
    exact wpAny_pure hq
  · refine wpAny_bind (wpAny_pure ?_)
    simp only [Bool.false_eq_true, if_false]
    refine wpAny_bind (wpAny_mono one (fun r s' z => ?_) fun _ _ e => e)
    obtain ⟨v, rfl, hq⟩ := z
    exact wpAny_pure hq
end
end LPO
namespace LP
open PySem PySem.Spec L2 SlX
open PyProof.Rows hiding St signs
theorem toR {P : Program} {w : World} {K : PySem.W.Frag} {mg : Str → Option Value} {base : Heap} {CX : CXT} {k : Nat} {f : Addr} {sp : Sp} {fd : FuncData} {ps : List Str} (F : FnOk P w K mg base CX k f fd ps sp) (hb : Binds K fd ps []) :
    FnR P w K mg base CX k f sp := (F.raw hb .nil).imp fun vs H Q E h => by rw [List.append_nil]; exact h
section
variable {X : Cx} {CX : CXT} {C g : Addr} {n : Nat} {sp : Sp} {E : XK}
/-- x != y, x an instance of the class at C with an own == at g -/
def rOwnNe (K : PySem.W.Frag) (C : Addr) (sp : Sp) (E : XK) : R2 := fun x y H Q => ∃ a dx vs b C' dy ws, x = .ref a ∧ y = .ref b ∧ Slt H a C dx vs ∧ Slt H b C' dy ws ∧ PySem.W.notFirst K C (.ref C') = true ∧ sp [x, y] H (fun z H' => ∃ c, z = .bl c ∧ Q (.bl (!c)) H') E
theorem op_ownNe (hm : PySem.W.mroIn X.K C (.type "object") = some true) (hne : PySem.W.findIn X.K (.ref C) "__ne__" = some (some (.builtin "object.__ne__"))) (hs : PySem.W.findIn X.K (.ref C) "__eq__" = some (some (.ref g))) (hf : PySem.W.isFn X.K (.ref g) = true)
    (F : FnR X.prog X.w X.K X.mg X.base CX n g sp) (hr : Room (n + 1) X.A) (hx : Passes CX X E) : OpR X (compareOp .NotEq) (rOwnNe X.K C sp E) := by
  intro pins s σ H x y v u Q I rx ry h
  obtain ⟨a, dx, vs, b, C', dy, ws, rfl, rfl, ha, hb, hn, q⟩ := h
  cases (show v = Value.ref a from rx)
  cases (show u = Value.ref b from ry)
  obtain ⟨sl, od, _, J, _⟩ := slt_inst I ha
  obtain ⟨sl', od', _, J', _⟩ := slt_inst I hb
  refine LPO.ne_own (tb := .ref C') (by have := hr.units; omega) I.kIn J J'.type hn hm hne hs hf ?_
  refine wpAny_mono (wpAny_call (run_at (us := [.ref a, .ref b]) (ws := [.ref a, .ref b]) F hr.in1 I.env0.in1 hx I (.cons rfl (.cons rfl .nil)) q)) (fun w s' z => ?_) fun _ _ x => x
  obtain ⟨z', H', I', rz, c, ez, qz⟩ := z
  subst ez
  cases (show w = Value.bool c from rz)
  exact ⟨c, rfl, .bl (!c), H', I', rfl, qz⟩
/-- x op y, both instances of the class at C whose def for op is at g -/
def rOwnB (C : Addr) (sp : Sp) (E : XK) : R2 := fun x y H Q => ∃ a dx vs b dy ws, x = .ref a ∧ y = .ref b ∧ Slt H a C dx vs ∧ Slt H b C dy ws ∧ sp [x, y] H Q E
theorem op_ownB {op : Operator} (hc : PySem.W.selfFirst X.K C = true) (hs : PySem.W.findIn X.K (.ref C) (PySem.dunder op.info.2) = some (some (.ref g))) (hf : PySem.W.isFn X.K (.ref g) = true)
    (F : FnR X.prog X.w X.K X.mg X.base CX n g sp) (hr : Room n X.A) (hx : Passes CX X E) : OpR X (binaryOp op) (rOwnB C sp E) := by
  intro pins s σ H x y v u Q I rx ry h
  obtain ⟨a, dx, vs, b, dy, ws, rfl, rfl, ha, hb, q⟩ := h
  cases (show v = Value.ref a from rx)
  cases (show u = Value.ref b from ry)
  obtain ⟨sl, od, _, J, _⟩ := slt_inst I ha
  obtain ⟨sl', od', _, J', _⟩ := slt_inst I hb
  obtain ⟨m, hF⟩ := I.fr
  refine PySem.W.binop_K (op := op) hF I.ok.mod.kin J J'.type hc hs hf ?_
  refine wpAny_mono (wpAny_call (run_fnR (us := [.ref a, .ref b]) (vs := [.ref a, .ref b]) F hr hx I (.cons rfl (.cons rfl .nil)) q)) (fun w s' z => ?_) fun _ _ x => x
  obtain ⟨z', H', I', rz, qz⟩ := z
  exact cmpback rz ⟨z', H', I', rz, qz⟩
/-- str(x) by an own __str__ -/
def rStrOwn (C : Addr) (sp : Sp) (E : XK) : List V → Hp → VK → Prop := fun xs H Q => ∃ a dx vs, xs = [V.ref a] ∧ Slt H a C dx vs ∧ sp [.ref a] H (fun z H' => ∃ y, z = .str y ∧ Q z H') E
theorem call_strOwn (hs : PySem.W.findIn X.K (.ref C) "__str__" = some (some (.ref g))) (hf : PySem.W.isFn X.K (.ref g) = true) (F : FnR X.prog X.w X.K X.mg X.base CX n g sp) (hr : Room (n + 2) X.A) (hx : Passes CX X E) : CallR X (.type "str") (rStrOwn C sp E) := by
  intro pins s σ H xs us Q I r h
  obtain ⟨a, dx, vs, rfl, hsl, q⟩ := h
  obtain ⟨u, rfl, ru⟩ := r.one
  cases (show u = Value.ref a from ru)
  obtain ⟨sl, od, _, J, _⟩ := slt_inst I hsl
  have hr2 : Room n X.A.in1.in1 := (show Room (n + 1) X.A.in1 from Room.in1 hr).in1
  refine PySem.W.kso_call hr2.units0 I.kIn J hs hf (wpAny_mono (wpAny_call (run_at (us := [.ref a]) (ws := [.ref a]) F hr2 I.env0.in1.in1 hx I (.cons rfl .nil) q)) (fun w s' z => ?_) fun _ _ x => x)
  obtain ⟨z', H', I', rz, y, ey, qz⟩ := z
  subst ey
  obtain ⟨t, e⟩ := (show ∃ t, w = Value.str y t from rz)
  cases e
  exact ⟨.str y, H', I', ⟨t, rfl⟩, qz⟩
end
end LP

set_option Elab.async false
set_option linter.all false
set_option maxRecDepth 100000
set_option maxHeartbeats 2000000
/-! ZN0: zip over any number of lists, tuples, texts, at the library's level. -/
namespace LZ
open PySem
open PySem.Sem (wp)

/-- what an iterator goes over -/
inductive Sk
  | lst (a : Addr)
  | tup (a : Addr)
  | asc (x : Str) (t : Tok)
  | wid (x : Str) (t : Tok)
def Sk.at : Sk → Nat → Nat → Heap → Prop
  | .lst a, it, i, h => h.IsListIter it a i
  | .tup a, it, i, h => h.IsTupleIter it a i
  | .asc x t, it, i, h => h.IsStrIter it "str_ascii_iterator" x t i
  | .wid x t, it, i, h => h.IsStrIter it "str_iterator" x t i
def Sk.gives : Sk → Heap → Nat → (Value → Prop) → Prop
  | .lst a, h, i, P => ∃ its v, h.IsList a its ∧ its[i]? = some v ∧ P v
  | .tup a, h, i, P => ∃ its v, h.IsTuple a its ∧ its[i]? = some v ∧ P v
  | .asc x _, _, i, P => ∃ c, x.cps[i]? = some c ∧ ∀ u, P (.str ⟨#[c]⟩ u)
  | .wid x _, _, i, P => ∃ c, x.cps[i]? = some c ∧ ∀ u, P (.str ⟨#[c]⟩ u)
def Sk.ends : Sk → Heap → Nat → Prop
  | .lst a, h, i => ∃ its, h.IsList a its ∧ its[i]? = none
  | .tup a, h, i => ∃ its, h.IsTuple a its ∧ its[i]? = none
  | .asc x _, _, i => x.cps[i]? = none
  | .wid x _, _, i => x.cps[i]? = none
/-- the thing itself does not lie at c -/
def Sk.apart : Sk → Nat → Prop
  | .lst a, c => a ≠ c
  | .tup a, c => a ≠ c
  | _, _ => True
theorem Sk.at.over {sk : Sk} {it x : Nat} {i : Nat} {h h' : Heap} (st : sk.at it i h) (hs : Heap.ExtBut x h h') (hx : it ≠ x) : sk.at it i h' := by
  cases sk with
  | lst a => exact Heap.IsListIter.at st fun o e => hs _ _ hx e
  | tup a => exact Heap.IsTupleIter.at st fun o e => hs _ _ hx e
  | asc z t => exact let ⟨o, ho, r⟩ := st; ⟨o, hs _ _ hx ho, r⟩
  | wid z t => exact let ⟨o, ho, r⟩ := st; ⟨o, hs _ _ hx ho, r⟩
theorem Sk.at.over' {sk : Sk} {it : Nat} {i : Nat} {h h' : Heap} (st : sk.at it i h) (hs : ∀ o, h.get? it = some o → h'.get? it = some o) : sk.at it i h' := by
  cases sk with
  | lst a => exact Heap.IsListIter.at st fun o e => hs o e
  | tup a => exact Heap.IsTupleIter.at st fun o e => hs o e
  | asc z t => exact let ⟨o, ho, r⟩ := st; ⟨o, hs o ho, r⟩
  | wid z t => exact let ⟨o, ho, r⟩ := st; ⟨o, hs o ho, r⟩
theorem Sk.at.obj {sk : Sk} {it : Nat} {i : Nat} {h : Heap} (st : sk.at it i h) : ∃ o, h.get? it = some o ∧ ∀ v, o.data ≠ .cell v := by
  cases sk with
  | lst a => exact let ⟨o, ho, _, hd⟩ := st; ⟨o, ho, fun v q => by rw [hd] at q; cases q⟩
  | tup a => exact let ⟨o, ho, _, hd⟩ := st; ⟨o, ho, fun v q => by rw [hd] at q; cases q⟩
  | asc z t => exact let ⟨o, ho, _, hd⟩ := st; ⟨o, ho, fun v q => by rw [hd] at q; cases q⟩
  | wid z t => exact let ⟨o, ho, _, hd⟩ := st; ⟨o, ho, fun v q => by rw [hd] at q; cases q⟩
theorem Sk.gives.over {sk : Sk} {x : Nat} {i : Nat} {h h' : Heap} {P : Value → Prop} (g : sk.gives h i P) (hs : Heap.ExtBut x h h') (hx : sk.apart x) : sk.gives h' i P := by
  cases sk with
  | lst a => exact let ⟨its, v, l, r⟩ := g; ⟨its, v, l.extBut hs hx, r⟩
  | tup a => exact let ⟨its, v, l, r⟩ := g; ⟨its, v, l.extBut hs hx, r⟩
  | asc z t => exact g
  | wid z t => exact g
theorem Sk.ends.over {sk : Sk} {x : Nat} {i : Nat} {h h' : Heap} (g : sk.ends h i) (hs : Heap.ExtBut x h h') (hx : sk.apart x) : sk.ends h' i := by
  cases sk with
  | lst a => exact let ⟨its, l, r⟩ := g; ⟨its, l.extBut hs hx, r⟩
  | tup a => exact let ⟨its, l, r⟩ := g; ⟨its, l.extBut hs hx, r⟩
  | asc z t => exact g
  | wid z t => exact g
section
variable {prog : Program} {w : World} {A : Around} {E : Value → Shared → Prop} {s : Shared}
theorem draw_item {sk : Sk} {it : Nat} {i : Nat} {P : Value → Prop} {Q : Value → Shared → Prop} (st : sk.at it i s.heap) (g : sk.gives s.heap i P)
    (hQ : ∀ u h' tk, P u → sk.at it (i + 1) h' → Heap.SameBut it s.heap h' → Q u { s with heap := h', toks := tk }) : wpAny (model prog w) A (Builtin.SmallTypes.nextOf (.ref it)) Q E s := by
  cases sk with
  | lst a =>
    obtain ⟨its, v, l, e, p⟩ := g
    exact wpAny_nextOf_list_item st l e fun h' a b => hQ v h' s.toks p a b
  | tup a =>
    obtain ⟨its, v, l, e, p⟩ := g
    exact RZ.nextOf_tuple_item st l e fun h' a b => hQ v h' s.toks p a b
  | asc z t =>
    obtain ⟨c, e, p⟩ := g
    exact wpAny_nextOf_ascii_item st e fun h' a b => hQ _ h' _ (p _) a b
  | wid z t =>
    obtain ⟨c, e, p⟩ := g
    exact wpAny_nextOf_wide_item st e fun h' a b => hQ _ h' _ (p _) a b
theorem draw_end {sk : Sk} {it : Nat} {i : Nat} {Q : Value → Shared → Prop} (hh : A.handled = none) (st : sk.at it i s.heap) (g : sk.ends s.heap i)
    (hE : ∀ h' e, Heap.ExtBut it s.heap h' → (∃ o, h'.get? e = some o ∧ o.cls = .type "StopIteration") → E (.ref e) { s with heap := h' }) : wpAny (model prog w) A (Builtin.SmallTypes.nextOf (.ref it)) Q E s := by
  cases sk with
  | lst a =>
    obtain ⟨its, l, e⟩ := g
    exact wpAny_nextOf_list_end hh st l e hE
  | tup a =>
    obtain ⟨its, l, e⟩ := g
    exact RZ.nextOf_tuple_end hh st l e hE
  | asc z t => exact wpAny_nextOf_ascii_end hh st g hE
  | wid z t => exact wpAny_nextOf_wide_end hh st g hE
end
section
variable {M : Model} {A : Around} {E : Value → Shared → Prop} {α β : Type}
theorem forIn_run {f : α → β → Sem (ForInStep β)} {Q : β → Shared → Prop} (Iv : Nat → β → Shared → Prop) : ∀ {l : List α} {j : Nat} {b : β} {s : Shared}, Iv j b s →
    (∀ j' a b s, l[j']? = some a → Iv (j + j') b s → wpAny M A (f a b) (fun r s' => ∃ b', r = .yield b' ∧ Iv (j + j' + 1) b' s') E s) → (∀ b s, Iv (j + l.length) b s → Q b s) → wpAny M A (forIn l b f) Q E s
  | [], j, b, s, h0, _, hq => by
    rw [List.forIn_nil]
    exact wpAny_pure (hq b s h0)
  | a :: l, j, b, s, h0, hs, hq => by
    rw [List.forIn_cons]
    refine wpAny_bind (wpAny_mono (hs 0 a b s rfl h0) (fun r s' z => ?_) fun _ _ x => x)
    obtain ⟨b', rfl, z⟩ := z
    refine forIn_run Iv (j := j + 1) z (fun j' a b s e i => ?_) (fun b s i => hq b s ?_)
    · have z := hs (j' + 1) a b s e (by rw [show j + (j' + 1) = j + 1 + j' by omega]; exact i)
      rw [show j + (j' + 1) + 1 = j + 1 + j' + 1 by omega] at z
      exact z
    · rw [List.length_cons, show j + (l.length + 1) = j + 1 + l.length by omega]
      exact i
theorem forIn_raise {f : α → β → Sem (ForInStep β)} {Q : β → Shared → Prop} (Iv : Nat → β → Shared → Prop) (j0 : Nat) : ∀ {l : List α} {j : Nat} {b : β} {s : Shared}, Iv j b s → j ≤ j0 → j0 < j + l.length →
    (∀ j' a b s, l[j']? = some a → j + j' < j0 → Iv (j + j') b s → wpAny M A (f a b) (fun r s' => ∃ b', r = .yield b' ∧ Iv (j + j' + 1) b' s') E s) → (∀ j' a b s, l[j']? = some a → j + j' = j0 → Iv j0 b s → wpAny M A (f a b) (fun _ _ => False) E s) → wpAny M A (forIn l b f) Q E s
  | [], j, b, s, h0, h1, h2, _, _ => by
    rw [List.length_nil] at h2
    omega
  | a :: l, j, b, s, h0, h1, h2, hs, he => by
    rw [List.forIn_cons]
    rcases Nat.lt_or_eq_of_le h1 with h | h
    · refine wpAny_bind (wpAny_mono (hs 0 a b s rfl h h0) (fun r s' z => ?_) fun _ _ x => x)
      obtain ⟨b', rfl, z⟩ := z
      refine forIn_raise Iv j0 (j := j + 1) z h (by rw [List.length_cons] at h2; omega) (fun j' a b s e hj i => ?_) (fun j' a b s e hj i => ?_)
      · have z := hs (j' + 1) a b s e (by omega) (by rw [show j + (j' + 1) = j + 1 + j' by omega]; exact i)
        rw [show j + (j' + 1) + 1 = j + 1 + j' + 1 by omega] at z
        exact z
      · exact he (j' + 1) a b s e (by omega) i
    · exact wpAny_bind (wpAny_mono (he 0 a b s rfl h (by rw [← h]; exact h0)) (fun r s' z => z.elim) fun _ _ x => x)
end
end LZ

set_option Elab.async false
set_option linter.all false
set_option maxRecDepth 100000
set_option maxHeartbeats 2000000
namespace LZ
open PySem
open PySem.Sem (wp)

abbrev TupAt (h : Heap) (T : Nat) (vs : Array Value) : Prop := h.get? T = some { cls := .type "tuple", data := .seq vs }
abbrev ZipObj (h : Heap) (z TI TO : Nat) (f0 : Value) (f : Bool) : Prop := h.get? z = some { cls := .type "zip", dict := none, data := .fields #[f0, .bool f, .bool false, .ref TI, .ref TO], slots := #[] }
/-- a zip ahead of a turn -/
def ZipAt (h : Heap) (z TI TO : Nat) : Prop := ∃ f0 f, ZipObj h z TI TO f0 f ∧ (f0 = .none ∨ ∃ T : Nat, f0 = rawInt T)
def itsAt (m k : Nat) : Array Value := ((List.range k).map fun j => Value.ref (m + j)).toArray
theorem itsAt_get {m k j : Nat} {v : Value} (h : (itsAt m k).toList[j]? = some v) : j < k ∧ v = .ref (m + j) := by
  unfold itsAt at h
  simp only [List.getElem?_map, List.getElem?_range] at h
  obtain ⟨a, e, rfl⟩ := Option.map_eq_some_iff.mp h
  obtain ⟨hl, rfl⟩ := List.getElem?_eq_some_iff.mp e
  simp at hl ⊢
  exact hl
theorem itsAt_len {m k : Nat} : (itsAt m k).toList.length = k := by simp [itsAt]




theorem ane {a b : Nat} (h : a = b → False) : a ≠ b := h






section
variable {prog : Program} {w : World} {A : Around} {E : Value → Shared → Prop} {s : Shared}
theorem alive_any {a : Addr} {Q : Option Obj → Shared → Prop} (h : Q (s.heap.get? a) s) : wpAny (model prog w) A (loadIfAlive a) Q E s := fun _ _ _ => h
/-- whether the tuple is free: both ways are open -/
theorem free_any {z TI TO : Addr} {f0 : Value} {f : Bool} {Q : Bool → Shared → Prop} (hz : ZipObj s.heap z TI TO f0 f) (h0 : f0 = .none ∨ ∃ T : Nat, f0 = rawInt T)
    (h1 : Q true s) (h2 : ∀ h', ZipObj h' z TI TO f0 true → (∃ T : Nat, f0 = rawInt T) → Heap.SameBut z s.heap h' → Q false { s with heap := h' }) : wpAny (model prog w) A (Builtin.SmallTypes.ownedTupleIsFree (.ref z)) Q E s := by
  unfold Builtin.SmallTypes.ownedTupleIsFree
  rcases h0 with rfl | ⟨T, rfl⟩
  · exact wpAny_bind (wpAny_field hz rfl (x := .none) rfl (wpAny_pure h1))
  · refine wpAny_bind (wpAny_field hz rfl (x := rawInt T) rfl ?_)
    show wpAny _ _ (loadIfAlive ((T : Int).toNat) >>= _) _ _ _
    rw [Int.toNat_natCast]
    refine wpAny_bind (alive_any ?_)
    cases s.heap.get? T with
    | none =>
      simp only [Option.isNone_none, if_true]
      exact wpAny_pure h1
    | some o =>
      simp only [Option.isNone_some, Bool.false_eq_true, if_false]
      refine wpAny_bind (wpAny_field hz rfl (x := .bool f) rfl ?_)
      cases f with
      | true =>
        rw [if_neg (show ¬ ((Value.bool true != Value.bool true) = true) from Bool.false_ne_true)]
        exact wpAny_pure (h2 s.heap hz ⟨T, rfl⟩ (Heap.SameBut.refl _ _))
      | false =>
        rw [if_pos (show (Value.bool false != Value.bool true) = true from rfl)]
        exact wpAny_bind (wpAny_setField_rec hz (by simp) fun h₁ hz₁ hs₁ => wpAny_pure (h2 h₁ hz₁ ⟨T, rfl⟩ hs₁))

/-- the cells of a zip that has just been made: its iterators at m, .., then the tuples, then itself -/
structure ZSt (m : Nat) (ss : List Sk) (i : Nat) (h : Heap) : Prop where
  z : ZipAt h (m + ss.length + 2) (m + ss.length) (m + ss.length + 1)
  ti : TupAt h (m + ss.length) (itsAt m ss.length)
  to : ∃ vs : Array Value, vs.size = ss.length ∧ TupAt h (m + ss.length + 1) vs
  it : ∀ (j : Nat) (sk : Sk), ss[j]? = some sk → sk.at (m + j) i h
def Outs (m k : Nat) (h h' : Heap) : Prop := ∀ (c : Nat) o, (c < m ∨ m + k + 3 ≤ c) → h.get? c = some o → h'.get? c = some o
theorem Outs.refl (m k : Nat) (h : Heap) : Outs m k h h := fun _ _ _ e => e
theorem Outs.trans {m k : Nat} {h h' h'' : Heap} (a : Outs m k h h') (b : Outs m k h' h'') : Outs m k h h'' := fun c o hc e => b c o hc (a c o hc e)
theorem Outs.ext {m k : Nat} {h h' : Heap} {x : Nat} (e : Heap.ExtBut x h h') (h1 : m ≤ x) (h2 : x < m + k + 3) : Outs m k h h' := fun c o hc q => e c o (fun z => by have z' : (c : Nat) = x := z; omega) q

/-- within a turn: j iterators have gone on -/
structure ZMid (m : Nat) (ss : List Sk) (i j : Nat) (f0 : Value) (f : Bool) (vs : Array Value) (P : Nat → Value → Prop) (h0 h : Heap) : Prop where
  z : ZipObj h (m + ss.length + 2) (m + ss.length) (m + ss.length + 1) f0 f
  ti : TupAt h (m + ss.length) (itsAt m ss.length)
  sz : vs.size = ss.length
  to : TupAt h (m + ss.length + 1) vs
  it : ∀ (j' : Nat) (sk : Sk), ss[j']? = some sk → sk.at (m + j') (if j' < j then i + 1 else i) h
  out : Outs m ss.length h0 h
  size : h.objs.size = h0.objs.size
theorem len_of {α : Type} {l : List α} {j : Nat} {a : α} (h : l[j]? = some a) : j < l.length := (List.getElem?_eq_some_iff.mp h).1
/-- one iterator goes on -/
theorem ZMid.drawn {m i j : Nat} {ss : List Sk} {f0 : Value} {f : Bool} {vs : Array Value} {P : Nat → Value → Prop} {h0 h h' : Heap} (Z : ZMid m ss i j f0 f vs P h0 h) {sk : Sk} (e : ss[j]? = some sk) (st : sk.at (m + j) (i + 1) h') (hs : Heap.SameBut (m + j : Nat) h h') :
    ZMid m ss i (j + 1) f0 f vs P h0 h' := by
  have hj := len_of e
  refine ⟨hs.extBut _ _ (by first | omega | exact ane (by intro z; omega)) Z.z, hs.extBut _ _ (by first | omega | exact ane (by intro z; omega)) Z.ti, Z.sz, hs.extBut _ _ (by first | omega | exact ane (by intro z; omega)) Z.to, fun j' sk' e' => ?_, Z.out.trans (Outs.ext hs.extBut (by first | omega | exact ane (by intro z; omega)) (by first | omega | exact ane (by intro z; omega))), hs.1.trans Z.size⟩
  by_cases hc : j' = j
  · subst hc
    rw [e] at e'
    cases e'
    rw [if_pos (show j' < j' + 1 by omega)]
    exact st
  · have q := (Z.it j' sk' e').over hs.extBut (by first | omega | exact ane (by intro z; omega))
    by_cases hl : j' < j
    · rw [if_pos (show j' < j + 1 by omega)]
      rw [if_pos hl] at q
      exact q
    · rw [if_neg (show ¬ j' < j + 1 by omega)]
      rw [if_neg hl] at q
      exact q
/-- one cell of the owned tuple is written -/
theorem ZMid.wrote {m i j : Nat} {ss : List Sk} {f0 : Value} {f : Bool} {vs vs' : Array Value} {P : Nat → Value → Prop} {h0 h h' : Heap} (Z : ZMid m ss i j f0 f vs P h0 h) (st : TupAt h' (m + ss.length + 1) vs') (sz : vs'.size = ss.length) (hs : Heap.SameBut (m + ss.length + 1 : Nat) h h') :
    ZMid m ss i j f0 f vs' P h0 h' := by
  refine ⟨hs.extBut _ _ (by first | omega | exact ane (by intro z; omega)) Z.z, hs.extBut _ _ (by first | omega | exact ane (by intro z; omega)) Z.ti, sz, st, fun j' sk' e' => ?_, Z.out.trans (Outs.ext hs.extBut (by first | omega | exact ane (by intro z; omega)) (by first | omega | exact ane (by intro z; omega))), hs.1.trans Z.size⟩
  have hj := len_of e'
  exact (Z.it j' sk' e').over hs.extBut (by first | omega | exact ane (by intro z; omega))
/-- the zip itself is written -/
theorem ZMid.own {m i j : Nat} {ss : List Sk} {f0 f1 : Value} {f f' : Bool} {vs : Array Value} {P : Nat → Value → Prop} {h0 h h' : Heap} (Z : ZMid m ss i j f0 f vs P h0 h) (st : ZipObj h' (m + ss.length + 2) (m + ss.length) (m + ss.length + 1) f1 f') (hs : Heap.SameBut (m + ss.length + 2 : Nat) h h') :
    ZMid m ss i j f1 f' vs P h0 h' := by
  refine ⟨st, hs.extBut _ _ (by first | omega | exact ane (by intro z; omega)) Z.ti, Z.sz, hs.extBut _ _ (by first | omega | exact ane (by intro z; omega)) Z.to, fun j' sk' e' => ?_, Z.out.trans (Outs.ext hs.extBut (by first | omega | exact ane (by intro z; omega)) (by first | omega | exact ane (by intro z; omega))), hs.1.trans Z.size⟩
  have hj := len_of e'
  exact (Z.it j' sk' e').over hs.extBut (by first | omega | exact ane (by intro z; omega))
theorem ZSt.mid {m i : Nat} {ss : List Sk} {h : Heap} {f0 : Value} {f : Bool} (Z : ZSt m ss i h) {vs : Array Value} (P : Nat → Value → Prop) (hz : ZipObj h (m + ss.length + 2) (m + ss.length) (m + ss.length + 1) f0 f) (sz : vs.size = ss.length) (to : TupAt h (m + ss.length + 1) vs) :
    ZMid m ss i 0 f0 f vs P h h := ⟨hz, Z.ti, sz, to, fun j sk e => by rw [if_neg (Nat.not_lt_zero j)]; exact Z.it j sk e, Outs.refl _ _ _, rfl⟩
theorem ZMid.ends {m i : Nat} {ss : List Sk} {h0 h h' : Heap} {f0 f1 : Value} {f f' : Bool} {vs : Array Value} {P : Nat → Value → Prop} (Z : ZMid m ss i ss.length f0 f vs P h0 h) (st : ZipObj h' (m + ss.length + 2) (m + ss.length) (m + ss.length + 1) f1 f')
    (hf : f1 = .none ∨ ∃ T : Nat, f1 = rawInt T) (hs : Heap.ExtBut (m + ss.length + 2 : Nat) h h') : ZSt m ss (i + 1) h' := by
  refine ⟨⟨f1, f', st, hf⟩, hs _ _ (by first | omega | exact ane (by intro z; omega)) Z.ti, ⟨vs, Z.sz, hs _ _ (by first | omega | exact ane (by intro z; omega)) Z.to⟩, fun j sk e => ?_⟩
  have hj := len_of e
  have q := (Z.it j sk e).over hs (by first | omega | exact ane (by intro z; omega))
  rw [if_pos hj] at q
  exact q
theorem gives_out {m k i : Nat} {sk : Sk} {h h' : Heap} {P : Value → Prop} (ap : ∀ c : Nat, m ≤ c → sk.apart c) (g : sk.gives h i P) (o : Outs m k h h') : sk.gives h' i P := by
  have lt : ∀ a : Nat, (∀ c : Nat, m ≤ c → a ≠ c) → a < m := fun a h => Nat.lt_of_not_le fun q => h a q rfl
  cases sk with
  | lst a =>
    obtain ⟨its, v, l, r⟩ := g
    exact ⟨its, v, l.at fun ob e => o a ob (.inl (lt a ap)) e, r⟩
  | tup a =>
    obtain ⟨its, v, l, r⟩ := g
    obtain ⟨ob, e, q⟩ := l
    exact ⟨its, v, ⟨ob, o a ob (.inl (lt a ap)) e, q⟩, r⟩
  | asc z t => exact g
  | wid z t => exact g
theorem ends_out {m k i : Nat} {sk : Sk} {h h' : Heap} (ap : ∀ c : Nat, m ≤ c → sk.apart c) (g : sk.ends h i) (o : Outs m k h h') : sk.ends h' i := by
  have lt : ∀ a : Nat, (∀ c : Nat, m ≤ c → a ≠ c) → a < m := fun a h => Nat.lt_of_not_le fun q => h a q rfl
  cases sk with
  | lst a =>
    obtain ⟨its, l, r⟩ := g
    exact ⟨its, l.at fun ob e => o a ob (.inl (lt a ap)) e, r⟩
  | tup a =>
    obtain ⟨its, l, r⟩ := g
    obtain ⟨ob, e, q⟩ := l
    exact ⟨its, ⟨ob, o a ob (.inl (lt a ap)) e, q⟩, r⟩
  | asc z t => exact g
  | wid z t => exact g
theorem zipIdx_get {α : Type} {l : List α} {j : Nat} {p : α × Nat} (h : l.zipIdx[j]? = some p) : l[j]? = some p.1 ∧ p.2 = j := by
  rw [List.getElem?_zipIdx] at h
  obtain ⟨a, e, rfl⟩ := Option.map_eq_some_iff.mp h
  exact ⟨e, by simp⟩
theorem tup_set {T k : Nat} {vs : Array Value} {x : Value} {Q : Unit → Shared → Prop} (hT : TupAt s.heap T vs) (hl : vs.size ≤ 1000)
    (h : ∀ h', TupAt h' T (vs.setIfInBounds k x) → Heap.SameBut T s.heap h' → Q () { s with heap := h' }) : wpAny (model prog w) A (updateSeq T (·.setIfInBounds k x)) Q E s := by
  refine wpAny_updateSeq hT rfl (h _ ?_ (Heap.SameBut.update ..)) (Nat.le_trans hl (by decide)) (by rw [Array.size_setIfInBounds]; exact Nat.le_trans hl (by decide))
  unfold TupAt
  rw [Heap.get?_update_self _ hT rfl]
  simp [Obj.mapSeq]

theorem zip_item {m i : Nat} {ss : List Sk} {P : Nat → Value → Prop} {Q : Value → Shared → Prop} (hk : 0 < ss.length) (hl : ss.length ≤ 1000) (ap : ∀ sk : Sk, sk ∈ ss → ∀ c : Nat, m ≤ c → sk.apart c) (Z : ZSt m ss i s.heap)
    (g : ∀ (j : Nat) (sk : Sk), ss[j]? = some sk → sk.gives s.heap i (P j))
    (hQ : ∀ vs h' tk, vs.size = ss.length → (∀ j u, vs[j]? = some u → P j u) → ZSt m ss (i + 1) h' → TupAt h' s.heap.objs.size vs → Outs m ss.length s.heap h' → Q (.ref s.heap.objs.size) { s with heap := h', toks := tk }) :
    wpAny (model prog w) A (Builtin.«zip.__next__» ⟨[.ref (m + ss.length + 2 : Nat)], []⟩) (fun fin s' => ∃ v, fin = .done (.ret v) ∧ Q v s') E s := by
  obtain ⟨hp, gg, d, tk0, os⟩ := s
  obtain ⟨f0, f, hz, hf⟩ := Z.z
  obtain ⟨vs0, sz0, to0⟩ := Z.to
  have hzl : (m + ss.length + 2 : Nat) < hp.objs.size := Heap.lt_size hz
  show wpAny _ _ (field (.ref (m + ss.length + 2 : Nat)) 2 >>= _) _ _ _
  refine wpAny_bind (wpAny_field hz rfl (x := .bool false) rfl ?_)
  show wpAny _ _ (field (.ref (m + ss.length + 2 : Nat)) 3 >>= _) _ _ _
  refine wpAny_bind (wpAny_field hz rfl (x := .ref (m + ss.length : Nat)) rfl ?_)
  refine wpAny_bind (wpAny_seqItems Z.ti rfl ?_)
  have hne : (itsAt m ss.length).isEmpty = false := by
    rw [Array.isEmpty_eq_false_iff]
    intro z
    have := itsAt_len (m := m) (k := ss.length)
    rw [z] at this
    simp at this
    omega
  simp only [hne, Bool.false_eq_true, if_false]
  refine wpAny_bind (free_any hz hf ?_ fun h1 hz1 hT hs1 => ?_)
  · -- the owned tuple
    simp only [if_true]
    refine wpAny_bind (wpAny_rule ?_)
    refine wpAny_bind (wpAny_field hz rfl (x := .ref (m + ss.length + 1 : Nat)) rfl ?_)
    refine wpAny_bind (wpAny_setField_rec hz (by simp) fun g0 hz0 hs0 => ?_)
    have M0 : ZMid m ss i 0 .ellipsis f vs0 P hp g0 := (Z.mid P hz sz0 to0).own hz0 hs0
    refine wpAny_bind ?_
    refine forIn_run (fun j b s' => b = _ ∧ ∃ h' tk vs, s' = ⟨h', gg, d, tk, os⟩ ∧ ZMid m ss i j .ellipsis f vs P hp h' ∧ ∀ j', j' < j → ∃ u, vs[j']? = some u ∧ P j' u) (j := 0) ⟨rfl, g0, tk0, vs0, rfl, M0, fun j' z => absurd z (Nat.not_lt_zero _)⟩ ?_ ?_
    · rintro n ⟨v, j⟩ b s' e ⟨rfl, h', tk, vs, rfl, M, hv⟩
      obtain ⟨e1, e2⟩ := zipIdx_get e
      obtain ⟨hj, ev⟩ := itsAt_get e1
      dsimp only at e2 ev
      subst e2 ev
      rw [Nat.zero_add] at M hv ⊢
      obtain ⟨sk, hsk⟩ : ∃ sk, ss[j]? = some sk := ⟨_, List.getElem?_eq_getElem hj⟩
      have st := M.it j sk hsk
      rw [if_neg (Nat.lt_irrefl _)] at st
      have gv := gives_out (ap sk (List.mem_of_getElem? hsk)) (g j sk hsk) M.out
      refine wpAny_bind (wpAny_onRaise ?_)
      show wpAny _ _ (Builtin.SmallTypes.nextOf (.ref (m + j : Nat)) >>= _) _ _ ⟨h', gg, d, tk, os⟩
      refine wpAny_bind (draw_item (s := ⟨h', gg, d, tk, os⟩) st gv fun u h1 tk1 pu st1 hs1 => wpAny_pure ?_)
      have M1 := M.drawn hsk st1 hs1
      refine wpAny_bind (wpAny_seqItems (s := ⟨h1, gg, d, tk1, os⟩) M1.to rfl ?_)
      refine wpAny_bind (tup_set (s := ⟨h1, gg, d, tk1, os⟩) M1.to (by rw [M1.sz]; exact hl) fun h2 hT2 hs2 => ?_)
      have M2 := M1.wrote hT2 (by rw [Array.size_setIfInBounds]; exact M1.sz) hs2
      refine wpAny_bind (wpAny_letGo (wpAny_pure ⟨_, rfl, rfl, h2, tk1, _, rfl, M2, fun j' hj' => ?_⟩))
      by_cases ej : j' = j
      · subst ej
        refine ⟨u, ?_, pu⟩
        rw [Array.getElem?_setIfInBounds, if_pos rfl, if_pos (by rw [M1.sz]; exact hj)]
      · obtain ⟨u', e', p'⟩ := hv j' (by omega)
        refine ⟨u', ?_, p'⟩
        rw [Array.getElem?_setIfInBounds, if_neg (Ne.symm ej)]
        exact e'
    · rintro b s' ⟨rfl, h', tk, vs, rfl, M, hv⟩
      rw [Nat.zero_add, List.length_zipIdx, itsAt_len] at M hv
      show wpAny _ _ (seqItems? (.ref (m + ss.length + 1 : Nat)) >>= _) _ _ _
      refine wpAny_bind (wpAny_seqItems (s := ⟨h', gg, d, tk, os⟩) M.to rfl ?_)
      refine wpAny_bind (wpAny_newTuple ?_ (by rw [Array.length_toList, M.sz]; exact Nat.le_trans hl (by decide)))
      show wpAny _ _ (Builtin.SmallTypes.ownedTupleHandOut (.ref (m + ss.length + 2 : Nat)) (.ref h'.objs.size) >>= _) _ _ _
      refine wpAny_bind ?_
      unfold Builtin.SmallTypes.ownedTupleHandOut
      have hz6 : ZipObj (h'.push { cls := .type "tuple", data := .seq vs.toList.toArray }) (m + ss.length + 2) (m + ss.length) (m + ss.length + 1) .ellipsis f := Heap.get?_push_of_some _ M.z
      refine wpAny_bind (wpAny_setField_rec hz6 (by simp) fun h7 hz7 hs7 => ?_)
      replace hz7 : ZipObj h7 (m + ss.length + 2) (m + ss.length) (m + ss.length + 1) (rawInt h'.objs.size) f := hz7
      refine wpAny_setField_rec hz7 (by simp) fun h8 hz8 hs8 => ?_
      replace hz8 : ZipObj h8 (m + ss.length + 2) (m + ss.length) (m + ss.length + 1) (rawInt h'.objs.size) false := hz8
      have up : Heap.ExtBut (m + ss.length + 2 : Nat) h' h8 := fun c o c1 e => hs8.extBut _ _ c1 (hs7.extBut _ _ c1 (Heap.get?_push_of_some _ e))
      have hsz : h'.objs.size = hp.objs.size := M.size
      have hT8 : TupAt h8 hp.objs.size vs := by
        have z : (h'.push { cls := .type "tuple", data := .seq vs.toList.toArray }).get? h'.objs.size = some { cls := .type "tuple", data := .seq vs.toList.toArray } := Heap.get?_push_size _ rfl
        rw [hsz] at z
        have z2 := hs8.extBut _ _ (show (hp.objs.size : Nat) ≠ m + ss.length + 2 by omega) (hs7.extBut _ _ (show (hp.objs.size : Nat) ≠ m + ss.length + 2 by omega) z)
        simpa using z2
      refine wpAny_pure ⟨_, rfl, ?_⟩
      show Q (.ref h'.objs.size) ⟨h8, gg, d, tk, os⟩
      rw [hsz]
      refine hQ vs h8 tk M.sz (fun j u e => ?_) (M.ends hz8 (.inr ⟨_, rfl⟩) up) hT8 (M.out.trans (Outs.ext up (by omega) (by omega)))
      obtain ⟨u', e', p'⟩ := hv j (by rw [← M.sz]; exact (Array.getElem?_eq_some_iff.mp e).1)
      rw [e] at e'
      cases e'
      exact p'
  · simp only [Bool.false_eq_true, if_false]
    have M0 : ZMid m ss i 0 f0 true vs0 P hp h1 := (Z.mid P hz sz0 to0).own hz1 hs1
    refine wpAny_bind ?_
    rw [← Array.forIn_toList]
    refine forIn_run (fun j b s' => ∃ (items : Array Value) (h' : Heap) (tk : Nat), b = (none, items) ∧ s' = ⟨h', gg, d, tk, os⟩ ∧ ZMid m ss i j f0 true vs0 P hp h' ∧ items.size = j ∧ ∀ j' u, items[j']? = some u → P j' u) (j := 0)
      ⟨#[], h1, tk0, rfl, rfl, M0, rfl, fun j' u z => by simp at z⟩ ?_ ?_
    · rintro j v b s' e ⟨items, h', tk, rfl, rfl, M, hsz, hv⟩
      obtain ⟨hj, rfl⟩ := itsAt_get e
      rw [Nat.zero_add] at M hsz ⊢
      obtain ⟨sk, hsk⟩ : ∃ sk, ss[j]? = some sk := ⟨_, List.getElem?_eq_getElem hj⟩
      have st := M.it j sk hsk
      rw [if_neg (Nat.lt_irrefl _)] at st
      have gv := gives_out (ap sk (List.mem_of_getElem? hsk)) (g j sk hsk) M.out
      refine wpAny_bind (wpAny_holding ?_)
      show wpAny _ _ (Builtin.SmallTypes.nextOf (.ref (m + j : Nat)) >>= _) _ _ ⟨h', gg, d, tk, os⟩
      refine wpAny_bind (draw_item (s := ⟨h', gg, d, tk, os⟩) st gv fun u h2 tk1 pu st1 hs2 => wpAny_pure ?_)
      have M1 := M.drawn hsk st1 hs2
      refine wpAny_pure ⟨_, rfl, items.push u, h2, tk1, rfl, rfl, M1, by rw [Array.size_push, hsz], fun j' u' e' => ?_⟩
      rw [Array.getElem?_push] at e'
      by_cases ej : j' = items.size
      · rw [if_pos ej] at e'
        cases e'
        rw [ej, hsz]
        exact pu
      · rw [if_neg ej] at e'
        exact hv j' u' e'
    · rintro b s' ⟨items, h', tk, rfl, rfl, M, hsz, hv⟩
      rw [Nat.zero_add, itsAt_len] at M hsz
      dsimp only
      refine wpAny_bind (wpAny_newTuple ?_ (by rw [Array.length_toList, hsz]; exact Nat.le_trans hl (by decide)))
      have es : h'.objs.size = hp.objs.size := M.size
      refine wpAny_pure ⟨_, rfl, ?_⟩
      show Q (.ref h'.objs.size) ⟨h'.push { cls := .type "tuple", data := .seq items.toList.toArray }, gg, d, tk, os⟩
      have up : Heap.ExtBut (m + ss.length + 2 : Nat) h' (h'.push { cls := .type "tuple", data := .seq items.toList.toArray }) := fun c o _ e => Heap.get?_push_of_some _ e
      have hT8 : TupAt (h'.push { cls := .type "tuple", data := .seq items.toList.toArray }) h'.objs.size items := by
        have z : (h'.push { cls := .type "tuple", data := .seq items.toList.toArray }).get? h'.objs.size = some { cls := .type "tuple", data := .seq items.toList.toArray } := Heap.get?_push_size _ rfl
        simpa using z
      rw [es] at hT8 ⊢
      exact hQ items _ tk hsz hv (M.ends (Heap.get?_push_of_some _ M.z) (.inr hT) up) hT8 (M.out.trans (Outs.ext up (by omega) (by omega)))

theorem zip_end {m i : Nat} {ss : List Sk} {Q : Fin → Shared → Prop} (hh : A.handled = none) (hl : ss.length ≤ 1000) (ap : ∀ sk : Sk, sk ∈ ss → ∀ c : Nat, m ≤ c → sk.apart c) (Z : ZSt m ss i s.heap)
    (j0 : Nat) (hj0 : j0 < ss.length) (g : ∀ (j : Nat) (sk : Sk), j < j0 → ss[j]? = some sk → sk.gives s.heap i (fun _ => True)) (ge : ∀ sk : Sk, ss[j0]? = some sk → sk.ends s.heap i)
    (hE : ∀ h' e tk, Outs m ss.length s.heap h' → (∃ o, h'.get? e = some o ∧ o.cls = .type "StopIteration") → E (.ref e) { s with heap := h', toks := tk }) :
    wpAny (model prog w) A (Builtin.«zip.__next__» ⟨[.ref (m + ss.length + 2 : Nat)], []⟩) Q E s := by
  obtain ⟨hp, gg, d, tk0, os⟩ := s
  obtain ⟨f0, f, hz, hf⟩ := Z.z
  obtain ⟨vs0, sz0, to0⟩ := Z.to
  have hzl : (m + ss.length + 2 : Nat) < hp.objs.size := Heap.lt_size hz
  show wpAny _ _ (field (.ref (m + ss.length + 2 : Nat)) 2 >>= _) _ _ _
  refine wpAny_bind (wpAny_field hz rfl (x := .bool false) rfl ?_)
  show wpAny _ _ (field (.ref (m + ss.length + 2 : Nat)) 3 >>= _) _ _ _
  refine wpAny_bind (wpAny_field hz rfl (x := .ref (m + ss.length : Nat)) rfl ?_)
  refine wpAny_bind (wpAny_seqItems Z.ti rfl ?_)
  have hne : (itsAt m ss.length).isEmpty = false := by
    rw [Array.isEmpty_eq_false_iff]
    intro z
    have := itsAt_len (m := m) (k := ss.length)
    rw [z] at this
    simp at this
    omega
  simp only [hne, Bool.false_eq_true, if_false]
  refine wpAny_bind (free_any hz hf ?_ fun h1 hz1 hT hs1 => ?_)
  · simp only [if_true]
    refine wpAny_bind (wpAny_rule ?_)
    refine wpAny_bind (wpAny_field hz rfl (x := .ref (m + ss.length + 1 : Nat)) rfl ?_)
    refine wpAny_bind (wpAny_setField_rec hz (by simp) fun g0 hz0 hs0 => ?_)
    have M0 : ZMid m ss i 0 .ellipsis f vs0 (fun _ _ => True) hp g0 := (Z.mid _ hz sz0 to0).own hz0 hs0
    refine wpAny_bind ?_
    refine forIn_raise (fun j b s' => b = _ ∧ ∃ h' tk vs, s' = ⟨h', gg, d, tk, os⟩ ∧ ZMid m ss i j .ellipsis f vs (fun _ _ => True) hp h') j0 (j := 0) ⟨rfl, g0, tk0, vs0, rfl, M0⟩ (Nat.zero_le _) (by rw [Nat.zero_add, List.length_zipIdx, itsAt_len]; exact hj0) ?_ ?_
    · rintro n ⟨v, j⟩ b s' e hlt ⟨rfl, h', tk, vs, rfl, M⟩
      obtain ⟨e1, e2⟩ := zipIdx_get e
      obtain ⟨hj, ev⟩ := itsAt_get e1
      dsimp only at e2 ev
      subst e2 ev
      rw [Nat.zero_add] at M hlt ⊢
      obtain ⟨sk, hsk⟩ : ∃ sk, ss[j]? = some sk := ⟨_, List.getElem?_eq_getElem hj⟩
      have st := M.it j sk hsk
      rw [if_neg (Nat.lt_irrefl _)] at st
      have gv := gives_out (ap sk (List.mem_of_getElem? hsk)) (g j sk hlt hsk) M.out
      refine wpAny_bind (wpAny_onRaise ?_)
      show wpAny _ _ (Builtin.SmallTypes.nextOf (.ref (m + j : Nat)) >>= _) _ _ ⟨h', gg, d, tk, os⟩
      refine wpAny_bind (draw_item (s := ⟨h', gg, d, tk, os⟩) st gv fun u h1 tk1 pu st1 hs1 => wpAny_pure ?_)
      have M1 := M.drawn hsk st1 hs1
      refine wpAny_bind (wpAny_seqItems (s := ⟨h1, gg, d, tk1, os⟩) M1.to rfl ?_)
      refine wpAny_bind (tup_set (s := ⟨h1, gg, d, tk1, os⟩) M1.to (by rw [M1.sz]; exact hl) fun h2 hT2 hs2 => ?_)
      have M2 := M1.wrote hT2 (by rw [Array.size_setIfInBounds]; exact M1.sz) hs2
      exact wpAny_bind (wpAny_letGo (wpAny_pure ⟨_, rfl, rfl, h2, tk1, _, rfl, M2⟩))
    · rintro n ⟨v, j⟩ b s' e hlt ⟨rfl, h', tk, vs, rfl, M⟩
      obtain ⟨e1, e2⟩ := zipIdx_get e
      obtain ⟨hj, ev⟩ := itsAt_get e1
      dsimp only at e2 ev
      subst e2 ev
      rw [Nat.zero_add] at hlt
      subst hlt
      obtain ⟨sk, hsk⟩ : ∃ sk, ss[j]? = some sk := ⟨_, List.getElem?_eq_getElem hj⟩
      have st := M.it j sk hsk
      rw [if_neg (Nat.lt_irrefl _)] at st
      have gv := ends_out (ap sk (List.mem_of_getElem? hsk)) (ge sk hsk) M.out
      refine wpAny_bind (wpAny_onRaise ?_)
      show wpAny _ _ (Builtin.SmallTypes.nextOf (.ref (m + j : Nat)) >>= _) _ _ ⟨h', gg, d, tk, os⟩
      refine wpAny_bind (draw_end (s := ⟨h', gg, d, tk, os⟩) hh st gv fun h1 ex he hx => ?_)
      obtain ⟨oe, hoe, hce⟩ := hx
      have hzq : ZipObj h1 (m + ss.length + 2) (m + ss.length) (m + ss.length + 1) .ellipsis f := he _ _ (by first | omega | exact ane (by intro z; omega)) M.z
      have hez : ex ≠ (m + ss.length + 2 : Nat) := fun x => by
        subst x
        rw [hzq] at hoe
        cases hoe
        simp at hce
      refine wpAny_setField_rec (s := ⟨h1, gg, d, tk, os⟩) hzq (by simp) fun q' _ hq' => ?_
      exact hE q' ex tk (M.out.trans ((Outs.ext he (by omega) (by omega)).trans (Outs.ext hq'.extBut (by omega) (by omega)))) ⟨oe, hq'.extBut _ _ hez hoe, hce⟩
  · simp only [Bool.false_eq_true, if_false]
    have M0 : ZMid m ss i 0 f0 true vs0 (fun _ _ => True) hp h1 := (Z.mid _ hz sz0 to0).own hz1 hs1
    refine wpAny_bind ?_
    rw [← Array.forIn_toList]
    refine forIn_raise (fun j b s' => ∃ (items : Array Value) (h' : Heap) (tk : Nat), b = (none, items) ∧ s' = ⟨h', gg, d, tk, os⟩ ∧ ZMid m ss i j f0 true vs0 (fun _ _ => True) hp h') j0 (j := 0)
      ⟨#[], h1, tk0, rfl, rfl, M0⟩ (Nat.zero_le _) (by rw [Nat.zero_add, itsAt_len]; exact hj0) ?_ ?_
    · rintro j v b s' e hlt ⟨items, h', tk, rfl, rfl, M⟩
      obtain ⟨hj, rfl⟩ := itsAt_get e
      rw [Nat.zero_add] at M hlt ⊢
      obtain ⟨sk, hsk⟩ : ∃ sk, ss[j]? = some sk := ⟨_, List.getElem?_eq_getElem hj⟩
      have st := M.it j sk hsk
      rw [if_neg (Nat.lt_irrefl _)] at st
      have gv := gives_out (ap sk (List.mem_of_getElem? hsk)) (g j sk hlt hsk) M.out
      refine wpAny_bind (wpAny_holding ?_)
      show wpAny _ _ (Builtin.SmallTypes.nextOf (.ref (m + j : Nat)) >>= _) _ _ ⟨h', gg, d, tk, os⟩
      refine wpAny_bind (draw_item (s := ⟨h', gg, d, tk, os⟩) st gv fun u h2 tk1 pu st1 hs2 => wpAny_pure ?_)
      exact wpAny_pure ⟨_, rfl, items.push u, h2, tk1, rfl, rfl, M.drawn hsk st1 hs2⟩
    · rintro n v b s' e hlt ⟨items, h', tk, rfl, rfl, M⟩
      obtain ⟨hj, rfl⟩ := itsAt_get e
      rw [Nat.zero_add] at hlt
      subst hlt
      obtain ⟨sk, hsk⟩ : ∃ sk, ss[n]? = some sk := ⟨_, List.getElem?_eq_getElem hj⟩
      have st := M.it n sk hsk
      rw [if_neg (Nat.lt_irrefl _)] at st
      have gv := ends_out (ap sk (List.mem_of_getElem? hsk)) (ge sk hsk) M.out
      refine wpAny_bind (wpAny_holding ?_)
      show wpAny _ _ (Builtin.SmallTypes.nextOf (.ref (m + n : Nat)) >>= _) _ _ ⟨h', gg, d, tk, os⟩
      refine wpAny_bind (draw_end (s := ⟨h', gg, d, tk, os⟩) hh st gv fun h2 ex he hx => ?_)
      exact hE h2 ex tk (M.out.trans (Outs.ext he (by omega) (by omega))) hx

theorem next_item {m i : Nat} {ss : List Sk} {P : Nat → Value → Prop} {Q : Option Value → Shared → Prop} (hk : 0 < ss.length) (hl : ss.length ≤ 1000) (ap : ∀ sk : Sk, sk ∈ ss → ∀ c : Nat, m ≤ c → sk.apart c) (Z : ZSt m ss i s.heap)
    (g : ∀ (j : Nat) (sk : Sk), ss[j]? = some sk → sk.gives s.heap i (P j))
    (hQ : ∀ vs h' tk, vs.size = ss.length → (∀ j u, vs[j]? = some u → P j u) → ZSt m ss (i + 1) h' → TupAt h' s.heap.objs.size vs → Outs m ss.length s.heap h' → Q (some (.ref s.heap.objs.size)) { s with heap := h', toks := tk }) :
    wpAny (model prog w) A (pyNext (.ref (m + ss.length + 2 : Nat))) Q E s := by
  have hT : s.TypeIs (.ref (m + ss.length + 2 : Nat)) "zip" := let ⟨f0, f, hz, _⟩ := Z.z; ⟨_, hz, rfl⟩
  unfold pyNext
  exact wpAny_bind (wpAny_attempt (wpAny_callSpecial?_slot (name := Str.ofString "__next__") hT F.slot_zip_next
    (wpAny_call_entry F.slot_zip_next hT F.entry_zip_next (zip_item hk hl ap Z g fun vs h' tk a b c d e => wpAny_pure (hQ vs h' tk a b c d e)) (F.args_zip_next_1 _))))
theorem next_end {m i : Nat} {ss : List Sk} {Q : Option Value → Shared → Prop} (hh : A.handled = none) (hl : ss.length ≤ 1000) (ap : ∀ sk : Sk, sk ∈ ss → ∀ c : Nat, m ≤ c → sk.apart c) (Z : ZSt m ss i s.heap)
    (j0 : Nat) (hj0 : j0 < ss.length) (g : ∀ (j : Nat) (sk : Sk), j < j0 → ss[j]? = some sk → sk.gives s.heap i (fun _ => True)) (ge : ∀ sk : Sk, ss[j0]? = some sk → sk.ends s.heap i)
    (hQ : ∀ h' tk, Outs m ss.length s.heap h' → Q none { s with heap := h', toks := tk }) :
    wpAny (model prog w) A (pyNext (.ref (m + ss.length + 2 : Nat))) Q E s := by
  have hT : s.TypeIs (.ref (m + ss.length + 2 : Nat)) "zip" := let ⟨f0, f, hz, _⟩ := Z.z; ⟨_, hz, rfl⟩
  unfold pyNext
  refine wpAny_bind (wpAny_attempt (wpAny_callSpecial?_slot (name := Str.ofString "__next__") hT F.slot_zip_next
    (wpAny_call_entry F.slot_zip_next hT F.entry_zip_next (zip_end hh hl ap Z j0 hj0 g ge fun h' e tk hk he => ?_) (F.args_zip_next_1 _))))
  obtain ⟨o, ho, hc⟩ := he
  refine wpAny_bind (wpAny_isInstance (T := "StopIteration") (b := true) ⟨o, ho, hc⟩ isSubtype_stop ?_)
  exact wpAny_pure (hQ _ _ hk)
/-- ahead of the store: the tuple that is unpacked is let go -/
theorem zip_go {tg : Expr} {m i : Nat} {ss : List Sk} {T : Addr} {Q : Unit → Shared → Prop} (Z : ZSt m ss i s.heap)
    (hQ : ∀ h', ZSt m ss i h' → Heap.SameBut (m + ss.length + 2 : Nat) s.heap h' → Q () { s with heap := h' }) : wpAny (model prog w) A (letOwnedTupleGo tg (.ref (m + ss.length + 2 : Nat)) (.ref T)) Q E s := by
  obtain ⟨f0, f, hz, hf⟩ := Z.z
  have q0 : Q () s := hQ s.heap Z (Heap.SameBut.refl _ _)
  have q1 : wpAny (model prog w) A (do
      let o ← load (m + ss.length + 2 : Nat)
      match o.cls, o.data with
      | .type n, .fields vs =>
        if ["enumerate", "zip", "dict_itemiterator", "dict_reverseitemiterator", "odict_iterator", "itertools.zip_longest", "itertools.pairwise"].contains n && vs[0]? == some (rawInt T) then
          rule "for.unpacks-the-owned-tuple"
          updateField (m + ss.length + 2 : Nat) 0 .none
      | _, _ => pure ()) Q E s := by
    refine wpAny_bind (wpAny_load hz ?_)
    show wpAny _ _ (if (true && (#[f0, Value.bool f, .bool false, .ref (m + ss.length : Nat), .ref (m + ss.length + 1 : Nat)] : Array Value)[0]? == some (rawInt T)) = true then _ else _) _ _ _
    by_cases hc : (true && (#[f0, Value.bool f, .bool false, .ref (m + ss.length : Nat), .ref (m + ss.length + 1 : Nat)] : Array Value)[0]? == some (rawInt T)) = true
    · rw [if_pos hc]
      refine wpAny_bind (wpAny_rule ?_)
      show wpAny _ _ (setField (.ref (m + ss.length + 2 : Nat)) 0 .none) Q E s
      refine wpAny_setField_rec hz (by simp) fun h' hz' hs' => hQ h' ?_ hs'
      refine ⟨⟨.none, f, hz', .inl rfl⟩, hs'.extBut _ _ (by first | omega | exact ane (by intro z; omega)) Z.ti, ?_, fun j sk e => ?_⟩
      · obtain ⟨vs, sz, to⟩ := Z.to
        exact ⟨vs, sz, hs'.extBut _ _ (by first | omega | exact ane (by intro z; omega)) to⟩
      · have hj := len_of e
        exact (Z.it j sk e).over hs'.extBut (by first | omega | exact ane (by intro z; omega))
    · rw [if_neg hc]
      exact wpAny_pure q0
  unfold letOwnedTupleGo
  cases tg <;> first
    | exact wpAny_pure q0
    | exact q1
end
end LZ

set_option Elab.async false
set_option linter.all false
set_option maxRecDepth 100000
set_option maxHeartbeats 2000000
namespace LZ
open PySem
open PySem.Sem (wp)
theorem typeCall_zip (us : List Value) : checkTypeCall "zip" ⟨us, []⟩ = pure () := by kernel_rfl
theorem newCall_zip (a : Value) (us : List Value) : checkBuiltinCall "zip.__new__" ⟨.type "zip" :: a :: us, []⟩ = pure () := by kernel_rfl
theorem args_init (a : Value) (us : List Value) : argsOk "object.__init__" ⟨a :: us, []⟩ := by
  unfold argsOk; rw [signature?_of (id := "object.__init__") (n := ['_', '_', 't', 'i', 'n', 'i', '_', '_']) (o := ['t', 'c', 'e', 'j', 'b', 'o']) (by kernel_rfl) F.owner_object]; kernel_rfl
/-- the value that is iterated over -/
def Sk.of : Sk → Value → Heap → Prop
  | .lst a, v, h => v = .ref a ∧ ∃ its, h.IsList a its
  | .tup a, v, h => v = .ref a ∧ ∃ its, h.IsTuple a its
  | .asc x t, v, _ => v = .str x t ∧ x.cps.all (· < 128) = true
  | .wid x t, v, _ => v = .str x t ∧ x.cps.all (· < 128) = false
theorem Sk.of.over {sk : Sk} {v : Value} {h h' : Heap} (p : sk.of v h) (k : ∀ c o, h.get? c = some o → h'.get? c = some o) : sk.of v h' := by
  cases sk with
  | lst a => exact let ⟨e, its, l⟩ := p; ⟨e, its, l.at fun o q => k _ o q⟩
  | tup a => exact let ⟨e, its, ⟨o, q, r⟩⟩ := p; ⟨e, its, ⟨o, k _ o q, r⟩⟩
  | asc z t => exact p
  | wid z t => exact p
section
variable {prog : Program} {w : World} {A : Around} {E : Value → Shared → Prop} {s : Shared}
theorem iter_any {sk : Sk} {v : Value} {Q : Value → Shared → Prop} (p : sk.of v s.heap) (h : ∀ o : Obj, sk.at s.heap.objs.size 0 (s.heap.push o) → (s.heap.push o).objs.size = s.heap.objs.size + 1 → Q (.ref s.heap.objs.size) { s with heap := s.heap.push o }) :
    wpAny (model prog w) A (pyIter v) Q E s := by
  have sz : ∀ o : Obj, (s.heap.push o).objs.size = s.heap.objs.size + 1 := fun o => Heap.size_push ..
  cases sk with
  | lst a =>
    obtain ⟨rfl, its, l⟩ := p
    exact wpAny_pyIter_list l (h _ ⟨_, Heap.get?_push_size _ rfl, rfl, rfl⟩ (sz _))
  | tup a =>
    obtain ⟨rfl, its, l⟩ := p
    exact wpAny_pyIter_tuple l (h _ ⟨_, Heap.get?_push_size _ rfl, rfl, rfl⟩ (sz _))
  | asc z t =>
    obtain ⟨rfl, l⟩ := p
    exact wpAny_pyIter_ascii l (h _ ⟨_, Heap.get?_push_size _ rfl, rfl, rfl⟩ (sz _))
  | wid z t =>
    obtain ⟨rfl, l⟩ := p
    exact wpAny_pyIter_wide l (h _ ⟨_, Heap.get?_push_size _ rfl, rfl, rfl⟩ (sz _))
theorem itsAt_push (m k : Nat) : (itsAt m k).push (.ref (m + k : Nat)) = itsAt m (k + 1) := by
  unfold itsAt
  rw [List.range_succ, List.map_append]
  simp
theorem iterAll_any {ss : List Sk} {us : List Value} {Q : List Value → Shared → Prop} (hl : ss.length = us.length) (hp : ∀ (j : Nat) (sk : Sk) v, ss[j]? = some sk → us[j]? = some v → sk.of v s.heap)
    (h : ∀ h', h'.objs.size = s.heap.objs.size + ss.length → (∀ (j : Nat) (sk : Sk), ss[j]? = some sk → sk.at (s.heap.objs.size + j) 0 h') → (∀ c o, s.heap.get? c = some o → h'.get? c = some o) → Q (itsAt s.heap.objs.size ss.length).toList { s with heap := h' }) :
    wpAny (model prog w) A (Builtin.SmallTypes.iterAll us) Q E s := by
  obtain ⟨hp0, gg, d, tk0, os⟩ := s
  unfold Builtin.SmallTypes.iterAll
  refine wpAny_bind ?_
  refine forIn_run (fun j b s' => b = itsAt hp0.objs.size j ∧ ∃ h', s' = ⟨h', gg, d, tk0, os⟩ ∧ h'.objs.size = hp0.objs.size + j ∧ (∀ c o, hp0.get? c = some o → h'.get? c = some o) ∧ ∀ (j' : Nat) (sk : Sk), j' < j → ss[j']? = some sk → sk.at (hp0.objs.size + j') 0 h') (j := 0)
    ⟨rfl, hp0, rfl, rfl, fun _ _ e => e, fun j' sk z => absurd z (Nat.not_lt_zero _)⟩ ?_ ?_
  · rintro j v b s' e ⟨rfl, h', rfl, hsz, hk, ha⟩
    rw [Nat.zero_add] at hsz ha ⊢
    have hj : j < ss.length := by rw [hl]; exact len_of e
    obtain ⟨sk, hsk⟩ : ∃ sk, ss[j]? = some sk := ⟨_, List.getElem?_eq_getElem hj⟩
    refine wpAny_bind (wpAny_holding (iter_any (sk := sk) (s := ⟨h', gg, d, tk0, os⟩) ((hp j sk v hsk e).over hk) fun o st sz => wpAny_pure ⟨_, rfl, ?_, h'.push o, rfl, ?_, fun c ob q => Heap.get?_push_of_some _ (hk c ob q), fun j' sk' hj' e' => ?_⟩))
    · show (itsAt hp0.objs.size j).push (.ref h'.objs.size) = _
      rw [hsz]
      exact itsAt_push _ _
    · rw [sz]
      show h'.objs.size + 1 = _
      rw [hsz]
      omega
    · by_cases ej : j' = j
      · subst ej
        rw [hsk] at e'
        cases e'
        rw [← hsz]
        exact st
      · have q := ha j' sk' (by omega) e'
        have lt : hp0.objs.size + j' ≠ h'.objs.size := by rw [hsz]; omega
        exact q.over (x := h'.objs.size) (fun c ob _ z => Heap.get?_push_of_some _ z) lt
  · rintro b s' ⟨rfl, h', rfl, hsz, hk, ha⟩
    rw [Nat.zero_add, ← hl] at hsz ha ⊢
    exact wpAny_pure (h h' hsz (fun j sk e => ha j sk (len_of e) e) hk)
theorem size_itsAt {m k : Nat} : (itsAt m k).size = k := by simp [itsAt]
theorem meets_zip {ss : List Sk} (us : List Value) :
    Meets (Builtin.«zip.__new__» ⟨.type "zip" :: us, []⟩) (fun _ R s => (ss.length = us.length ∧ ss.length ≤ 1000) ∧ (∀ (j : Nat) (sk : Sk) v, ss[j]? = some sk → us[j]? = some v → sk.of v s.heap) ∧
      ∀ h', ZSt s.heap.objs.size ss 0 h' → (∀ c o, s.heap.get? c = some o → h'.get? c = some o) → R (.ok (.ret (.ref (s.heap.objs.size + ss.length + 2 : Nat)))) { s with heap := h' }) :=
  .of_wp fun prog w A R s h => by
    obtain ⟨⟨hl, h1000⟩, hp, h⟩ := h
    obtain ⟨hp0, gg, d, tk0, os⟩ := s
    have hsub := sub_zip
    have e0 : Builtin.SmallTypes.newClass "zip" ⟨.type "zip" :: us, []⟩ = pure (.type "zip", us) := by
      unfold Builtin.SmallTypes.newClass
      simp only [show isType (.type "zip") = pure true from rfl, pure_bind, hsub]
      rfl
    unfold Builtin.«zip.__new__»
    refine wpAny_bind (wpAny_of_eq e0 ?_)
    dsimp only
    refine wpAny_bind (iterAll_any (s := ⟨hp0, gg, d, tk0, os⟩) hl hp fun h' hsz ha hk => ?_)
    refine wpAny_bind (wpAny_newTuple ?_ (by rw [Array.length_toList, size_itsAt]; exact Nat.le_trans h1000 (by decide)))
    refine wpAny_bind (wpAny_newTuple ?_ (by rw [List.length_map, Array.length_toList, size_itsAt]; exact Nat.le_trans h1000 (by decide)))
    show wpAny _ _ (newObj (.type "zip") (.fields #[.none, .bool false, .bool false, _, _]) >>= _) _ _ _
    refine wpAny_bind (wpAny_newObj_type (wpAny_pure ⟨_, rfl, ?_⟩) (by size_fits))
    have s1 : ∀ o : Obj, (h'.push o).objs.size = hp0.objs.size + ss.length + 1 := fun o => by rw [Heap.size_push, hsz]
    have s2 : ∀ o o2 : Obj, ((h'.push o).push o2).objs.size = hp0.objs.size + ss.length + 2 := fun o o2 => by rw [Heap.size_push, s1]
    have k3 : ∀ (o o2 o3 : Obj) c ob, h'.get? c = some ob → (((h'.push o).push o2).push o3).get? c = some ob := fun o o2 o3 c ob q => Heap.get?_push_of_some _ (Heap.get?_push_of_some _ (Heap.get?_push_of_some _ q))
    have g3 : ∀ o o2 o3 : Obj, o3.isFreed = false → (((h'.push o).push o2).push o3).get? (hp0.objs.size + ss.length + 2 : Nat) = some o3 := fun o o2 o3 hf => by
      rw [← s2 o o2]
      exact Heap.get?_push_size _ hf
    have g2 : ∀ o o2 o3 : Obj, o2.isFreed = false → (((h'.push o).push o2).push o3).get? (hp0.objs.size + ss.length + 1 : Nat) = some o2 := fun o o2 o3 hf => by
      refine Heap.get?_push_of_some _ ?_
      rw [← s1 o]
      exact Heap.get?_push_size _ hf
    have g1 : ∀ o o2 o3 : Obj, o.isFreed = false → (((h'.push o).push o2).push o3).get? (hp0.objs.size + ss.length : Nat) = some o := fun o o2 o3 hf => by
      refine Heap.get?_push_of_some _ (Heap.get?_push_of_some _ ?_)
      rw [← hsz]
      exact Heap.get?_push_size _ hf
    have r := h (((h'.push { cls := .type "tuple", data := .seq (itsAt hp0.objs.size ss.length).toList.toArray }).push { cls := .type "tuple", data := .seq ((itsAt hp0.objs.size ss.length).toList.map fun _ => Value.none).toArray }).push
      { cls := .type "zip", data := .fields #[.none, .bool false, .bool false, .ref (hp0.objs.size + ss.length : Nat), .ref (hp0.objs.size + ss.length + 1 : Nat)] })
      ⟨⟨.none, false, g3 _ _ _ rfl, .inl rfl⟩, by have z := g1 { cls := .type "tuple", data := .seq (itsAt hp0.objs.size ss.length).toList.toArray } { cls := .type "tuple", data := .seq ((itsAt hp0.objs.size ss.length).toList.map fun _ => Value.none).toArray } { cls := .type "zip", data := .fields #[.none, .bool false, .bool false, .ref (hp0.objs.size + ss.length : Nat), .ref (hp0.objs.size + ss.length + 1 : Nat)] } rfl; simpa using z,
        ⟨_, by rw [List.size_toArray, List.length_map, Array.length_toList, size_itsAt], g2 _ _ _ rfl⟩, fun j sk e => (ha j sk e).over (x := (hp0.objs.size + ss.length : Nat)) (fun c ob _ q => k3 _ _ _ c ob q) (by have := len_of e; show (hp0.objs.size + j : Nat) ≠ _; omega)⟩
      (fun c o q => k3 _ _ _ c o (hk c o q))
    simp only [s1, s2, hsz]
    exact r
theorem call_zipN {ss : List Sk} {us : List Value} {Q : Value → Shared → Prop} (hl : ss.length = us.length) (h0 : 0 < ss.length) (h1000 : ss.length ≤ 1000) (hp : ∀ (j : Nat) (sk : Sk) v, ss[j]? = some sk → us[j]? = some v → sk.of v s.heap)
    (h : ∀ h', ZSt s.heap.objs.size ss 0 h' → (∀ c o, s.heap.get? c = some o → h'.get? c = some o) → Q (.ref (s.heap.objs.size + ss.length + 2 : Nat)) { s with heap := h' }) :
    wpAny (model prog w) A (call (.type "zip") us) Q E s := by
  obtain ⟨u, us', rfl⟩ : ∃ u us', us = u :: us' := by
    cases us with
    | nil => rw [List.length_nil] at hl; omega
    | cons u us' => exact ⟨u, us', rfl⟩
  refine callType_new F.called_zip (by decide) (typeCall_zip _) (newCall_zip _ _) (fun obj => args_init obj _) F.entry_zip_new (meets_zip (ss := ss) _) ⟨⟨hl, h1000⟩, hp, fun h' Z k => ?_⟩
  obtain ⟨f0, f, hz, _⟩ := id Z.z
  exact ⟨⟨_, hz, rfl⟩, h h' Z k⟩
theorem iter_zip {m i : Nat} {ss : List Sk} {Q : Value → Shared → Prop} (Z : ZSt m ss i s.heap) (h : Q (.ref (m + ss.length + 2 : Nat)) s) : wpAny (model prog w) A (pyIter (.ref (m + ss.length + 2 : Nat))) Q E s := by
  have hT : s.TypeIs (.ref (m + ss.length + 2 : Nat)) "zip" := let ⟨f0, f, hz, _⟩ := Z.z; ⟨_, hz, rfl⟩
  refine wpAny_pyIter_slot hT F.slot_zip_iter (wpAny_call_entry F.slot_zip_iter hT F.entry_zip_iter ?_ (F.args_zip_iter_1 _))
  show wpAny _ _ (ret (.ref (m + ss.length + 2 : Nat))) _ _ s
  exact wpAny_pure ⟨_, rfl, "zip", _, hT, F.slot_zip_next.lookup, h⟩
end
end LZ

set_option Elab.async false
set_option linter.all false
set_option maxRecDepth 100000
set_option maxHeartbeats 2000000
/-! ZN3: zip of any number of lists, tuples and texts, in for and comprehensions, any target; zip( *e). -/
namespace LZ
open PySem PySem.Spec L2 LP
open PyProof.Rows hiding St signs

inductive Sv
  | lst (a : Addr)
  | tup (a : Addr)
  | str (x : Str)
def Sv.v : Sv → V
  | .lst a => .ref a
  | .tup a => .ref a
  | .str x => .str x
def Sv.has (K : PySem.W.Frag) (H : Hp) : Sv → List V → Prop
  | .lst a, xs => SqL K H a xs
  | .tup a, xs => SqT K H a xs
  | .str x, xs => xs = signs x
inductive Skv : Sv → Sk → Prop
  | lst (a : Addr) : Skv (.lst a) (.lst a)
  | tup (a : Addr) : Skv (.tup a) (.tup a)
  | asc (x : Str) (t : Tok) : Skv (.str x) (.asc x t)
  | wid (x : Str) (t : Tok) : Skv (.str x) (.wid x t)
theorem sign_at {x : Str} {i : Nat} {v : V} (h : (signs x)[i]? = some v) : ∃ c, x.cps[i]? = some c ∧ v = .str ⟨#[c]⟩ := by
  unfold signs at h
  rw [List.getElem?_map] at h
  obtain ⟨c, e, rfl⟩ := Option.map_eq_some_iff.mp h
  exact ⟨c, by simpa using e, rfl⟩
theorem sign_len (x : Str) : (signs x).length = x.cps.size := by simp [signs]
section
variable {X : Cx} {pins : List (Addr × Obj)} {σ : L2.St} {H : Hp} {s : Shared} {sv : Sv} {sk : Sk} {xs ys : List V} {i : Nat}
theorem sv_gives (I : Inv X pins σ H s) (r : Skv sv sk) (h : sv.has X.K H xs) {x : V} (e : xs[i]? = some x) : sk.gives s.heap i (fun u => RelV x u) := by
  cases r with
  | lst a =>
    obtain ⟨its, rv, p, _⟩ := I.list h
    obtain ⟨u, hu, ru⟩ := rv.get e
    exact ⟨_, u, p.isList, by simpa using hu, ru⟩
  | tup a =>
    obtain ⟨its, rv, p, _⟩ := I.tuple h
    obtain ⟨u, hu, ru⟩ := rv.get e
    exact ⟨_, u, p, by simpa using hu, ru⟩
  | asc x t =>
    cases (show xs = signs x from h)
    obtain ⟨c, q, rfl⟩ := sign_at e
    exact ⟨c, q, fun u => ⟨u, rfl⟩⟩
  | wid x t =>
    cases (show xs = signs x from h)
    obtain ⟨c, q, rfl⟩ := sign_at e
    exact ⟨c, q, fun u => ⟨u, rfl⟩⟩
theorem sv_ends (I : Inv X pins σ H s) (r : Skv sv sk) (h : sv.has X.K H xs) (e : xs.length ≤ i) : sk.ends s.heap i := by
  cases r with
  | lst a =>
    obtain ⟨its, rv, p, _⟩ := I.list h
    have l := rv.length
    exact ⟨_, p.isList, by simp; omega⟩
  | tup a =>
    obtain ⟨its, rv, p, _⟩ := I.tuple h
    have l := rv.length
    exact ⟨_, p, by simp; omega⟩
  | asc x t =>
    cases (show xs = signs x from h)
    rw [sign_len] at e
    exact Array.getElem?_eq_none e
  | wid x t =>
    cases (show xs = signs x from h)
    rw [sign_len] at e
    exact Array.getElem?_eq_none e
theorem sv_inj (I : Inv X pins σ H s) (h : sv.has X.K H xs) (h' : sv.has X.K H ys) : xs = ys := by
  cases sv with
  | lst a => exact I.list_inj h h'
  | tup a => exact I.tuple_inj h h'
  | str x => exact h.trans h'.symm
theorem sv_of (I : Inv X pins σ H s) (h : sv.has X.K H xs) {u : Value} (ru : RelV sv.v u) : ∃ sk, Skv sv sk ∧ sk.of u s.heap ∧ ∀ c : Nat, s.heap.objs.size ≤ c → sk.apart c := by
  cases sv with
  | lst a =>
    cases ru
    obtain ⟨its, rv, p, _⟩ := I.list h
    refine ⟨.lst a, .lst a, ⟨rfl, _, p.isList⟩, fun c hc z => ?_⟩
    exact Nat.ne_of_lt (Nat.lt_of_lt_of_le p.lt hc) z
  | tup a =>
    cases ru
    obtain ⟨its, rv, p, _⟩ := I.tuple h
    obtain ⟨o, ho, _⟩ := id p
    refine ⟨.tup a, .tup a, ⟨rfl, _, p⟩, fun c hc z => ?_⟩
    exact Nat.ne_of_lt (Nat.lt_of_lt_of_le (Heap.lt_size ho) hc) z
  | str x =>
    obtain ⟨t, rfl⟩ := ru
    cases ha : x.cps.all (· < 128)
    · exact ⟨.wid x t, .wid x t, ⟨rfl, ha⟩, fun _ _ => True.intro⟩
    · exact ⟨.asc x t, .asc x t, ⟨rfl, ha⟩, fun _ _ => True.intro⟩
end
/-- one for each -/
theorem pick_each {α β : Type} {P : Nat → β → Prop} : ∀ {l : List α}, (∀ (j : Nat) a, l[j]? = some a → ∃ b, P j b) → ∃ bs : List β, bs.length = l.length ∧ ∀ (j : Nat) b, bs[j]? = some b → P j b
  | [], _ => ⟨[], rfl, fun j b z => by simp at z⟩
  | a :: l, h => by
    obtain ⟨b, hb⟩ := h 0 a rfl
    obtain ⟨bs, hl, hp⟩ := pick_each (P := fun j b => P (j + 1) b) (l := l) fun j a e => h (j + 1) a e
    refine ⟨b :: bs, by rw [List.length_cons, List.length_cons, hl], fun j c e => ?_⟩
    cases j with
    | zero => cases e; exact hb
    | succ j => exact hp j c e
theorem vals_each : ∀ {xs : List V} {us : List Value}, xs.length = us.length → (∀ (j : Nat) x u, xs[j]? = some x → us[j]? = some u → RelV x u) → Vals xs us
  | [], [], _, _ => .nil
  | x :: xs, u :: us, hl, h => .cons (h 0 x u rfl rfl) (vals_each (by simpa using hl) fun j x u e1 e2 => h (j + 1) x u e1 e2)
  | [], u :: us, hl, _ => by simp at hl
  | x :: xs, [], hl, _ => by simp at hl

/-- the things as they stand at each turn, their items in a new tuple -/
def ItzN (K : PySem.W.Frag) (ss : List Sv) : It :=
  ⟨fun i H => ∀ (j : Nat) (s : Sv), ss[j]? = some s → ∃ xs x, s.has K H xs ∧ xs[i]? = some x,
    fun i H v H' => ∃ T xs, v = .ref T ∧ H T = none ∧ H' = upd H T (.tup xs) ∧ xs.length = ss.length ∧ ∀ (j : Nat) (s : Sv) ys, ss[j]? = some s → s.has K H ys → xs[j]? = ys[i]?,
    fun i H => ∃ j0, j0 < ss.length ∧ (∀ s : Sv, ss[j0]? = some s → ∃ xs, s.has K H xs ∧ xs.length ≤ i) ∧ ∀ (j : Nat) (s : Sv), j < j0 → ss[j]? = some s → ∃ xs x, s.has K H xs ∧ xs[i]? = some x⟩
def cellsOf (m k : Nat) : List Addr := (List.range (k + 3)).map (m + ·)
theorem mem_cells {m k : Nat} {c : Addr} : c ∈ cellsOf m k ↔ ∃ j : Nat, j < k + 3 ∧ c = m + j := by
  unfold cellsOf
  simp only [List.mem_map, List.mem_range]
  exact ⟨fun ⟨a, h, e⟩ => ⟨a, h, e.symm⟩, fun ⟨a, h, e⟩ => ⟨a, h, e.symm⟩⟩
theorem turn_zipN {P : Program} {w : World} {K : PySem.W.Frag} {tg : Expr} {m : Nat} {ss : List Sv} {ks : List Sk} (hl : ss.length = ks.length) (h0 : 0 < ks.length) (h1000 : ks.length ≤ 1000)
    (hr : ∀ (j : Nat) sv sk, ss[j]? = some sv → ks[j]? = some sk → Skv sv sk) (ap : ∀ sk : Sk, sk ∈ ks → ∀ c : Nat, m ≤ c → sk.apart c) :
    Turn P w K tg (ItzN K ss) (cellsOf m ks.length) (m + ks.length + 2 : Nat) (fun i h => ZSt m ks i h) where
  mem := mem_cells.mpr ⟨ks.length + 2, by omega, by show (_ : Nat) = _; omega⟩
  obj := fun i h st c hc => by
    obtain ⟨j, hj, rfl⟩ := mem_cells.mp hc
    by_cases h1 : j < ks.length
    · exact (st.it j _ (List.getElem?_eq_getElem h1)).obj
    · by_cases h2 : j = ks.length
      · subst h2
        exact ⟨_, st.ti, fun v q => nomatch q⟩
      · by_cases h3 : j = ks.length + 1
        · subst h3
          obtain ⟨vs, _, to⟩ := st.to
          exact ⟨_, to, fun v q => nomatch q⟩
        · obtain rfl : j = ks.length + 2 := by omega
          obtain ⟨f0, f, hz, _⟩ := st.z
          exact ⟨_, hz, fun v q => nomatch q⟩
  keep := fun i h h' st k => by
    have kk : ∀ j : Nat, j < ks.length + 3 → ∀ o, h.get? (m + j : Nat) = some o → h'.get? (m + j : Nat) = some o := fun j hj o e => k _ (mem_cells.mpr ⟨j, hj, rfl⟩) o e
    obtain ⟨f0, f, hz, hf⟩ := st.z
    obtain ⟨vs, sz, to⟩ := st.to
    refine ⟨⟨f0, f, kk (ks.length + 2) (by omega) _ hz, hf⟩, kk ks.length (by omega) _ st.ti, ⟨vs, sz, kk (ks.length + 1) (by omega) _ to⟩, fun j sk e => ?_⟩
    have hj := len_of e
    have q := st.it j sk e
    obtain ⟨o, ho, _⟩ := q.obj
    refine q.over' fun o e => kk j (by omega) o e
  item := by
    intro X hP hw hK hc i pins s σ H E I hf st hg
    subst hP hw hK
    obtain ⟨xs, hxl, hxs⟩ := pick_each (l := ss) (P := fun j x => ∀ sv : Sv, ss[j]? = some sv → ∃ ys, sv.has X.K H ys ∧ ys[i]? = some x) fun j a e => by
      obtain ⟨ys, x, h1, h2⟩ := hg j a e
      exact ⟨x, fun sv e' => by rw [e] at e'; cases e'; exact ⟨ys, h1, h2⟩⟩
    refine next_item (P := fun j u => ∀ x, xs[j]? = some x → RelV x u) h0 h1000 ap st (fun j sk e => ?_) fun vs h' tk hvs hp Z hT out => ?_
    · have hj : j < ss.length := by rw [hl]; exact len_of e
      have e1 : ss[j]? = some ss[j] := List.getElem?_eq_getElem hj
      have hj2 : j < xs.length := by omega
      have e2 : xs[j]? = some xs[j] := List.getElem?_eq_getElem hj2
      obtain ⟨ys, h1, h2⟩ := hxs j _ e2 _ e1
      have g := sv_gives I (hr j _ _ e1 e) h1 h2
      have mono : ∀ {sk : Sk} {P Q : Value → Prop}, (∀ u, P u → Q u) → sk.gives s.heap i P → sk.gives s.heap i Q := fun {sk P Q} hpq g => by
        cases sk with
        | lst a => obtain ⟨its, v, l, e, p⟩ := g; exact ⟨its, v, l, e, hpq _ p⟩
        | tup a => obtain ⟨its, v, l, e, p⟩ := g; exact ⟨its, v, l, e, hpq _ p⟩
        | asc z t => obtain ⟨c, e, p⟩ := g; exact ⟨c, e, fun u => hpq _ (p u)⟩
        | wid z t => obtain ⟨c, e, p⟩ := g; exact ⟨c, e, fun u => hpq _ (p u)⟩
      refine mono (fun u ru x ex => ?_) g
      rw [e2] at ex
      cases ex
      exact ru
    · refine ⟨_, rfl, zip_go (s := { s with heap := h', toks := tk }) Z fun h'' Z' sb => ?_⟩
      have hzl : (m + ks.length + 2 : Nat) < s.heap.objs.size := by
        obtain ⟨f0, f, hz, _⟩ := st.z
        exact Heap.lt_size hz
      have hT2 : TupAt h'' s.heap.objs.size vs := (sb.2 _ (Nat.ne_of_gt hzl)).trans hT
      have hlen : xs.length = vs.toList.length := (hxl.trans (hl.trans hvs.symm)).trans Array.length_toList.symm
      have rv : Vals xs vs.toList := vals_each hlen fun j x u e1 e2 => hp j u (by simpa using e2) x e1
      have new : ObjOk X.prog X.w (upd H s.heap.objs.size (.tup xs)) h'' s.heap.objs.size (.tup xs) :=
        ⟨by rw [hxl, hl]; exact Nat.le_trans h1000 (by decide), vs.toList, rv, ⟨_, hT2, rfl, 0, by simp⟩⟩
      have I1 : Inv X pins σ (upd H s.heap.objs.size (.tup xs)) { s with heap := h'', toks := tk } :=
        I.turnedNew (t' := tk) (ch := cellsOf m ks.length) (fun (c : Nat) o hb q => by
          have no : ∀ j : Nat, j < ks.length + 3 → c ≠ m + j := fun j hj z => hb (mem_cells.mpr ⟨j, hj, z⟩)
          refine (sb.2 c (no (ks.length + 2) (by omega))).trans (out c o ?_ q)
          by_cases hcm : c < m
          · exact .inl hcm
          · by_cases hcm2 : c < m + ks.length + 3
            · refine absurd ?_ (no (c - m) (by omega))
              show (c : Nat) = m + (c - m)
              omega
            · exact .inr (by omega)) hf (Nat.le_refl _) new
      refine ⟨.ref s.heap.objs.size, _, I1, rfl, ⟨_, xs, rfl, I.hok.fresh (Nat.le_refl _), rfl, hxl, fun j sv ys e1 e2 => ?_⟩, Z', fun c hcm => ?_⟩
      · have hj2 : j < xs.length := by rw [hxl]; exact len_of e1
        have e3 : xs[j]? = some xs[j] := List.getElem?_eq_getElem hj2
        obtain ⟨ys', h1, h2⟩ := hxs j _ e3 _ e1
        rw [sv_inj I e2 h1, h2, e3]
      · have hlt : c < s.heap.objs.size := by
          obtain ⟨j, hj, rfl⟩ := mem_cells.mp hcm
          show m + j < _
          omega
        rw [upd_ne (Nat.ne_of_lt hlt)]
        exact (hf c hcm).1
  done := by
    intro X hP hw hK hc i pins s σ H E I hf st hg
    subst hP hw hK
    obtain ⟨j0, hj0, he, hg⟩ := hg
    refine next_end (I.ok.hd hc) h1000 ap st j0 (by omega) (fun j sk hj e => ?_) (fun sk e => ?_) fun h' tk out => ⟨rfl, I.turnedL (t' := tk) (ch := cellsOf m ks.length) (fun (c : Nat) o hb q => ?_) hf⟩
    · have hj1 : j < ss.length := by omega
      have e1 : ss[j]? = some ss[j] := List.getElem?_eq_getElem hj1
      obtain ⟨ys, x, h1, h2⟩ := hg j _ hj e1
      have g := sv_gives I (hr j _ _ e1 e) h1 h2
      cases sk with
      | lst a => obtain ⟨its, v, l, e, p⟩ := g; exact ⟨its, v, l, e, True.intro⟩
      | tup a => obtain ⟨its, v, l, e, p⟩ := g; exact ⟨its, v, l, e, True.intro⟩
      | asc z t => obtain ⟨c, e, p⟩ := g; exact ⟨c, e, fun u => True.intro⟩
      | wid z t => obtain ⟨c, e, p⟩ := g; exact ⟨c, e, fun u => True.intro⟩
    · have e1 : ss[j0]? = some ss[j0] := List.getElem?_eq_getElem hj0
      obtain ⟨ys, h1, h2⟩ := he _ e1
      exact sv_ends I (hr j0 _ _ e1 e) h1 h2
    · have no : ∀ j : Nat, j < ks.length + 3 → c ≠ m + j := fun j hj z => hb (mem_cells.mpr ⟨j, hj, z⟩)
      refine out c o ?_ q
      by_cases hcm : c < m
      · exact .inl hcm
      · by_cases hcm2 : c < m + ks.length + 3
        · refine absurd ?_ (no (c - m) (by omega))
          show (c : Nat) = m + (c - m)
          omega
        · exact .inr (by omega)
  self := fun A i s Q E st h => iter_zip st h

/-! ### the rules -/
/-- the values are such things -/
inductive Svs (K : PySem.W.Frag) (H : Hp) : List V → List Sv → Prop
  | nil : Svs K H [] []
  | cons {v : V} {vs : List V} {s : Sv} {ss : List Sv} {xs : List V} (h : v = s.v) (h2 : s.has K H xs) (r : Svs K H vs ss) : Svs K H (v :: vs) (s :: ss)
theorem Svs.at {K : PySem.W.Frag} {H : Hp} : ∀ {vs : List V} {ss : List Sv}, Svs K H vs ss → vs.length = ss.length ∧ ∀ (j : Nat) s, ss[j]? = some s → vs[j]? = some s.v ∧ ∃ xs, s.has K H xs
  | _, _, .nil => ⟨rfl, fun j s z => by simp at z⟩
  | _, _, .cons (xs := xs) h h2 r => by
    obtain ⟨h3, h4⟩ := Svs.at r
    refine ⟨by rw [List.length_cons, List.length_cons, h3], fun j s e => ?_⟩
    cases j with
    | zero => cases e; exact ⟨by rw [h]; rfl, xs, h2⟩
    | succ j => exact h4 j s e
section
variable {X : Cx} {pins : List (Addr × Obj)} {σ : L2.St} {H : Hp} {s : Shared}
/-- zip has been called -/
theorem made_zip {tg : Expr} {vs : List V} {us : List Value} {ss : List Sv} {R : It → Hp → Prop} (I : Inv X pins σ H s) (r : Vals vs us) (hs : Svs X.K H vs ss) (h0 : 0 < ss.length) (h1000 : ss.length ≤ 1000) (q : R (ItzN X.K ss) H) :
    wpAny (model X.prog X.w) X.A (call (.type "zip") us) (fun v s1 => wpAny (model X.prog X.w) X.A (pyIter v) (PIE X pins σ tg R) X.xe s1) X.xe s := by
  obtain ⟨hl, hat⟩ := hs.at
  have hl2 := r.length
  obtain ⟨ks, hk, hks⟩ := pick_each (l := ss) (P := fun j sk => ∀ sv u, ss[j]? = some sv → us[j]? = some u → Skv sv sk ∧ sk.of u s.heap ∧ ∀ c : Nat, s.heap.objs.size ≤ c → sk.apart c) fun j a e => by
    obtain ⟨e1, xs, h2⟩ := hat j a e
    obtain ⟨u, hu, ru⟩ := r.get e1
    obtain ⟨sk, h3, h4, h5⟩ := sv_of I h2 ru
    refine ⟨sk, fun sv u' e3 e4 => ?_⟩
    rw [e] at e3
    rw [hu] at e4
    cases e3
    cases e4
    exact ⟨h3, h4, h5⟩
  have full : ∀ (j : Nat) sk, ks[j]? = some sk → ∃ sv u, ss[j]? = some sv ∧ us[j]? = some u ∧ Skv sv sk ∧ sk.of u s.heap ∧ ∀ c : Nat, s.heap.objs.size ≤ c → sk.apart c := fun j sk e => by
    have hj : j < ss.length := by rw [← hk]; exact len_of e
    have hj2 : j < us.length := by rw [← hl2, hl]; exact hj
    have e1 : ss[j]? = some ss[j] := List.getElem?_eq_getElem hj
    have e2 : us[j]? = some us[j] := List.getElem?_eq_getElem hj2
    obtain ⟨a, b, c⟩ := hks j sk e _ _ e1 e2
    exact ⟨_, _, e1, e2, a, b, c⟩
  have ap : ∀ sk : Sk, sk ∈ ks → ∀ c : Nat, s.heap.objs.size ≤ c → sk.apart c := fun sk hm c hc => by
    obtain ⟨j, hj, e⟩ := List.mem_iff_getElem.mp hm
    obtain ⟨_, _, _, _, _, _, h⟩ := full j sk (by rw [← e]; exact List.getElem?_eq_getElem hj)
    exact h c hc
  refine call_zipN (ss := ks) (by rw [hk, ← hl, hl2]) (by omega) (by omega) (fun j sk v e1 e2 => ?_) fun h' Z k => iter_zip (s := { s with heap := h' }) Z ?_
  · obtain ⟨sv, u, h1, h2, _, h4, _⟩ := full j sk e1
    rw [h2] at e2
    cases e2
    exact h4
  · have I2 : Inv X pins σ H { s with heap := h' } := I.kept (t' := s.toks) k
    refine ⟨_, cellsOf s.heap.objs.size ks.length, _, _, H, rfl, I2, turn_zipN hk.symm (by omega) (by omega) (fun j sv sk e1 e2 => ?_) ap, Z, fun c hc => ?_, q⟩
    · obtain ⟨sv', u, h1, _, h3, _⟩ := full j sk e2
      rw [h1] at e1
      cases e1
      exact h3
    · obtain ⟨j, hj, rfl⟩ := mem_cells.mp hc
      exact I.fpOk (Nat.le_add_right _ _) (I.hok.fresh (Nat.le_add_right _ _))
end
/-- zip(e, ..) -/
def iZipN (K : PySem.W.Frag) (ta : TA) : TI := fun σ H R => ta σ H fun vs H1 => ∃ ss, Svs K H1 vs ss ∧ 0 < ss.length ∧ ss.length ≤ 1000 ∧ R (ItzN K ss) H1
theorem pi_zipN {X : Cx} {tg e : Expr} {es : List Expr} {ta : TA} {p pos : Pos} (hg : Gl X "zip") (hm : X.mg "zip" = none) (ha : PA X (e :: es) ta)
    (hs : starEach (e :: es) X.env = (false, eval e X.env) :: starEach es X.env := by rfl) (hpl : (backTo pos (starEach es X.env)).any (·.1) = false := by rfl) :
    PI X tg (.Call (.Name "zip" p) (e :: es) [] pos) (iZipN X.K ta) := by
  refine ⟨fun pins s σ H R I h => ?_⟩
  refine Call_ (ld_blt I hg hm PyProof.Rows.boot_zip (PyProof.Rows.callWith_type1 (thn (ha.run pos pins s σ H _ I h) fun us s1 ⟨vs, H1, I1, r1, ss, q1, q2, q3, q4⟩ => ?_) hs hpl))
  exact made_zip I1 r1 q1 q2 q3 q4
theorem keeper_type {M : Model} {T : String} (h : Heap) : ∃ k, (k = Keeper.frame ∨ k = Keeper.machine ∨ k = Keeper.boundFrame) ∧ PySem.W.Looks M h (keeperOf (.type T)) k := by
  exact ⟨.machine, .inr (.inl rfl), PySem.W.Looks.of_pure rfl⟩
/-- zip( *e) -/
def iZipS (K : PySem.W.Frag) (te : TE) : TI := fun σ H R => te σ H fun y H1 => ∃ a xs ss, y = V.ref a ∧ (SqT K H1 a xs ∨ SqL K H1 a xs) ∧ Svs K H1 xs ss ∧ 0 < ss.length ∧ ss.length ≤ 1000 ∧ R (ItzN K ss) H1
theorem pi_zipS {X : Cx} {tg e : Expr} {te : TE} {p sp_ pos : Pos} (hg : Gl X "zip") (hm : X.mg "zip" = none) (he : PE X e te)
    (hst : starEach [.Starred e sp_] X.env = [(true, eval e X.env)] := by rfl) :
    PI X tg (.Call (.Name "zip" p) [.Starred e sp_] [] pos) (iZipS X.K te) := by
  refine ⟨fun pins s σ H R I h => ?_⟩
  refine Call_ (ld_blt I hg hm PyProof.Rows.boot_zip ?_)
  rw [hst]
  refine PySem.W.ks_call (P := fun _ => True) rfl (fun h _ => keeper_type h) (PySem.W.ks_lone ?_)
  refine thn (he.run pins s σ H _ I h) fun v s1 ⟨y, H1, I1, ry, a, xs, ss, ey, hxs, q1, q2, q3, q4⟩ => ?_
  subst ey
  obtain rfl : v = Value.ref a := ry
  exact StX.star_any I1 hxs fun us s2 I2 rv => ⟨True.intro, made_zip I2 rv q1 q2 q3 q4⟩
end LZ

set_option Elab.async false
set_option linter.all false
set_option maxRecDepth 100000
set_option maxHeartbeats 2000000
/-! EN: enumerate of a list, a tuple, a text. -/
namespace LZ
open PySem PySem.Spec L2 LP
open PyProof.Rows hiding St signs

abbrev EnObj (h : Heap) (e it : Nat) (f0 : Value) (f : Bool) (i : Int) (old : Value) : Prop :=
  h.get? e = some { cls := .type "enumerate", dict := none, data := .fields #[f0, .bool f, .ref it, rawInt i, .none, old], slots := #[] }
structure ESt (m : Nat) (sk : Sk) (i : Nat) (h : Heap) : Prop where
  e : ∃ f0 f old, EnObj h (m + 1) m f0 f (i : Nat) old ∧ (f0 = .none ∨ ∃ T : Nat, f0 = rawInt T)
  it : sk.at m i h
section
variable {prog : Program} {w : World} {A : Around} {E : Value → Shared → Prop} {s : Shared}
theorem efree_any {e it : Nat} {f0 old : Value} {f : Bool} {i : Int} {Q : Bool → Shared → Prop} (hz : EnObj s.heap e it f0 f i old) (h0 : f0 = .none ∨ ∃ T : Nat, f0 = rawInt T)
    (h1 : Q true s) (h2 : ∀ h', EnObj h' e it f0 true i old → Heap.SameBut e s.heap h' → Q false { s with heap := h' }) : wpAny (model prog w) A (Builtin.SmallTypes.ownedTupleIsFree (.ref e)) Q E s := by
  unfold Builtin.SmallTypes.ownedTupleIsFree
  rcases h0 with rfl | ⟨T, rfl⟩
  · exact wpAny_bind (wpAny_field hz rfl (x := .none) rfl (wpAny_pure h1))
  · refine wpAny_bind (wpAny_field hz rfl (x := rawInt T) rfl ?_)
    show wpAny _ _ (loadIfAlive ((T : Int).toNat) >>= _) _ _ _
    rw [Int.toNat_natCast]
    refine wpAny_bind (alive_any ?_)
    cases s.heap.get? T with
    | none =>
      simp only [Option.isNone_none, if_true]
      exact wpAny_pure h1
    | some o =>
      simp only [Option.isNone_some, Bool.false_eq_true, if_false]
      refine wpAny_bind (wpAny_field hz rfl (x := .bool f) rfl ?_)
      cases f with
      | true =>
        rw [if_neg (show ¬ ((Value.bool true != Value.bool true) = true) from Bool.false_ne_true)]
        exact wpAny_pure (h2 s.heap hz (Heap.SameBut.refl _ _))
      | false =>
        rw [if_pos (show (Value.bool false != Value.bool true) = true from rfl)]
        exact wpAny_bind (wpAny_setField_rec hz (by simp) fun h₁ hz₁ hs₁ => wpAny_pure (h2 h₁ hz₁ hs₁))
theorem enum_item {m i : Nat} {sk : Sk} {P : Value → Prop} {Q : Value → Shared → Prop} (Z : ESt m sk i s.heap) (g : sk.gives s.heap i P)
    (hQ : ∀ u t h' tk, P u → ESt m sk (i + 1) h' → TupAt h' s.heap.objs.size #[.int i t, u] → (∀ (c : Nat) o, c ≠ m → c ≠ m + 1 → s.heap.get? c = some o → h'.get? c = some o) → Q (.ref s.heap.objs.size) { s with heap := h', toks := tk }) :
    wpAny (model prog w) A (Builtin.«enumerate.__next__» ⟨[.ref (m + 1 : Nat)], []⟩) (fun fin s' => ∃ v, fin = .done (.ret v) ∧ Q v s') E s := by
  obtain ⟨hp, gg, d, tk0, os⟩ := s
  obtain ⟨f0, f, old, he, hf⟩ := Z.e
  have hel : (m + 1 : Nat) < hp.objs.size := Heap.lt_size he
  show wpAny _ _ (field (.ref (m + 1 : Nat)) 2 >>= _) _ _ _
  refine wpAny_bind (wpAny_field he rfl (x := .ref m) rfl ?_)
  refine wpAny_bind (draw_item Z.it g fun u h1 tk1 pu st1 hs1 => ?_)
  replace hs1 : Heap.SameBut m hp h1 := hs1
  have he1 : EnObj h1 (m + 1) m f0 f i old := (hs1.2 (m + 1 : Nat) (Nat.succ_ne_self _)).trans he
  show wpAny _ _ (field (.ref (m + 1 : Nat)) 3 >>= _) _ _ ⟨h1, gg, d, tk1, os⟩
  refine wpAny_bind (wpAny_field he1 rfl (x := rawInt i) rfl ?_)
  show wpAny _ _ (field (.ref (m + 1 : Nat)) 4 >>= _) _ _ ⟨h1, gg, d, tk1, os⟩
  refine wpAny_bind (wpAny_field he1 rfl (x := .none) rfl ?_)
  show wpAny _ _ (mkInt i >>= _) _ _ ⟨h1, gg, d, tk1, os⟩
  refine wpAny_bind (wpAny_mkInt ?_)
  show wpAny _ _ (setField (.ref (m + 1 : Nat)) 3 (rawInt ((i : Int) + 1)) >>= _) _ _ ⟨h1, gg, d, tk1 + 1, os⟩
  refine wpAny_bind (wpAny_setField_rec he1 (by simp) fun h2 he2 hs2 => ?_)
  replace hs2 : Heap.SameBut (m + 1 : Nat) h1 h2 := hs2
  replace he2 : EnObj h2 (m + 1) m f0 f ((i : Int) + 1) old := he2
  show wpAny _ _ (setField (.ref (m + 1 : Nat)) 4 .none >>= _) _ _ ⟨h2, gg, d, tk1 + 1, os⟩
  refine wpAny_bind (wpAny_setField_rec he2 (by simp) fun h3 he3 hs3 => ?_)
  replace hs3 : Heap.SameBut (m + 1 : Nat) h2 h3 := hs3
  replace he3 : EnObj h3 (m + 1) m f0 f ((i : Int) + 1) old := he3
  show wpAny _ _ (newTuple [.int i tk1, u] >>= _) _ _ ⟨h3, gg, d, tk1 + 1, os⟩
  refine wpAny_bind (wpAny_newTuple ?_)
  have hsz : h3.objs.size = hp.objs.size := by rw [hs3.1, hs2.1, hs1.1]
  have ex : ((i + 1 : Nat) : Int) = (i : Int) + 1 := by omega
  have he4 : EnObj (h3.push { cls := .type "tuple", data := .seq #[.int i tk1, u] }) (m + 1) m f0 f ((i : Int) + 1) old := Heap.get?_push_of_some _ he3
  have ht4 : TupAt (h3.push { cls := .type "tuple", data := .seq #[.int i tk1, u] }) hp.objs.size #[.int i tk1, u] := by rw [← hsz]; exact Heap.get?_push_size _ rfl
  have hk4 : ∀ (c : Nat) o, c ≠ m → c ≠ m + 1 → hp.get? c = some o → (h3.push { cls := .type "tuple", data := .seq #[.int i tk1, u] }).get? c = some o := fun c o c1 c2 e =>
    Heap.get?_push_of_some _ (hs3.extBut _ _ c2 (hs2.extBut _ _ c2 (hs1.extBut _ _ c1 e)))
  have st4 : sk.at m (i + 1) (h3.push { cls := .type "tuple", data := .seq #[.int i tk1, u] }) :=
    st1.over' fun o e => Heap.get?_push_of_some _ (hs3.extBut _ _ (Nat.ne_of_lt (Nat.lt_succ_self _)) (hs2.extBut _ _ (Nat.ne_of_lt (Nat.lt_succ_self _)) e))
  generalize h3.push { cls := .type "tuple", data := .seq #[.int i tk1, u] } = h4 at he4 ht4 hk4 st4
  show wpAny _ _ (Builtin.SmallTypes.ownedTupleIsFree (.ref (m + 1 : Nat)) >>= _) _ _ ⟨h4, gg, d, tk1 + 1, os⟩
  rw [hsz]
  clear he3 hs3 he2 hs2 he1 hs1 st1 hsz h3 h2 h1
  refine wpAny_bind (efree_any (s := ⟨h4, gg, d, tk1 + 1, os⟩) he4 hf ?_ fun h5 he5 hs5 => ?_)
  · simp only [if_true]
    refine wpAny_bind (wpAny_rule ?_)
    refine wpAny_bind (wpAny_field he4 rfl (x := old) rfl ?_)
    refine wpAny_bind (wpAny_setField_rec he4 (by simp) fun h5 he5 hs5 => ?_)
    replace he5 : EnObj h5 (m + 1) m f0 f ((i : Int) + 1) u := he5
    show wpAny _ _ (Builtin.SmallTypes.ownedTupleHandOut (.ref (m + 1 : Nat)) (.ref hp.objs.size) >>= _) _ _ ⟨h5, gg, d, tk1 + 1, os⟩
    refine wpAny_bind ?_
    unfold Builtin.SmallTypes.ownedTupleHandOut
    refine wpAny_bind (wpAny_setField_rec he5 (by simp) fun h6 he6 hs6 => ?_)
    replace he6 : EnObj h6 (m + 1) m (rawInt hp.objs.size) f ((i : Int) + 1) u := he6
    refine wpAny_setField_rec he6 (by simp) fun h7 he7 hs7 => ?_
    replace he7 : EnObj h7 (m + 1) m (rawInt hp.objs.size) false ((i : Int) + 1) u := he7
    have up : Heap.ExtBut (m + 1 : Nat) h4 h7 := fun c o hc e => hs7.extBut _ _ hc (hs6.extBut _ _ hc (hs5.extBut _ _ hc e))
    refine wpAny_bind (wpAny_letGo (wpAny_pure ⟨_, rfl, hQ u tk1 h7 _ pu ⟨⟨rawInt hp.objs.size, false, u, by rw [ex]; exact he7, .inr ⟨_, rfl⟩⟩, ?_⟩ (up _ _ (Nat.ne_of_gt hel) ht4) fun c o c1 c2 e => up _ _ c2 (hk4 c o c1 c2 e)⟩))
    exact st4.over' fun o e => up _ _ (Nat.ne_of_lt (Nat.lt_succ_self _)) e
  · simp only [Bool.false_eq_true, if_false]
    have up : Heap.ExtBut (m + 1 : Nat) h4 h5 := fun c o hc e => hs5.extBut _ _ hc e
    refine wpAny_pure ⟨_, rfl, hQ u tk1 h5 _ pu ⟨⟨f0, true, old, by rw [ex]; exact he5, hf⟩, ?_⟩ (up _ _ (Nat.ne_of_gt hel) ht4) fun c o c1 c2 e => up _ _ c2 (hk4 c o c1 c2 e)⟩
    exact st4.over' fun o e => up _ _ (Nat.ne_of_lt (Nat.lt_succ_self _)) e
theorem enext_item {m i : Nat} {sk : Sk} {P : Value → Prop} {Q : Option Value → Shared → Prop} (Z : ESt m sk i s.heap) (g : sk.gives s.heap i P)
    (hQ : ∀ u t h' tk, P u → ESt m sk (i + 1) h' → TupAt h' s.heap.objs.size #[.int i t, u] → (∀ (c : Nat) o, c ≠ m → c ≠ m + 1 → s.heap.get? c = some o → h'.get? c = some o) → Q (some (.ref s.heap.objs.size)) { s with heap := h', toks := tk }) :
    wpAny (model prog w) A (pyNext (.ref (m + 1 : Nat))) Q E s := by
  have hT : s.TypeIs (.ref (m + 1 : Nat)) "enumerate" := let ⟨f0, f, old, hz, _⟩ := Z.e; ⟨_, hz, rfl⟩
  unfold pyNext
  exact wpAny_bind (wpAny_attempt (wpAny_callSpecial?_slot (name := Str.ofString "__next__") hT F.slot_enumerate_next
    (wpAny_call_entry F.slot_enumerate_next hT F.entry_enumerate_next (enum_item Z g fun u t h' tk a b c d => wpAny_pure (hQ u t h' tk a b c d)) (F.args_enumerate_next_1 _))))
theorem enext_end {m i : Nat} {sk : Sk} {Q : Option Value → Shared → Prop} (hh : A.handled = none) (Z : ESt m sk i s.heap) (ge : sk.ends s.heap i)
    (hQ : ∀ h', Heap.ExtBut m s.heap h' → Q none { s with heap := h' }) : wpAny (model prog w) A (pyNext (.ref (m + 1 : Nat))) Q E s := by
  obtain ⟨f0, f, old, he, hf⟩ := Z.e
  have hT : s.TypeIs (.ref (m + 1 : Nat)) "enumerate" := ⟨_, he, rfl⟩
  unfold pyNext
  refine wpAny_bind (wpAny_attempt (wpAny_callSpecial?_slot (name := Str.ofString "__next__") hT F.slot_enumerate_next
    (wpAny_call_entry F.slot_enumerate_next hT F.entry_enumerate_next ?_ (F.args_enumerate_next_1 _))))
  show wpAny _ _ (field (.ref (m + 1 : Nat)) 2 >>= _) _ _ _
  refine wpAny_bind (wpAny_field he rfl (x := .ref m) rfl ?_)
  refine wpAny_bind (draw_end hh Z.it ge fun h' x he' hx' => ?_)
  obtain ⟨o, ho, hc⟩ := hx'
  refine wpAny_bind (wpAny_isInstance (T := "StopIteration") (b := true) ⟨o, ho, hc⟩ isSubtype_stop ?_)
  exact wpAny_pure (hQ _ he')
theorem enum_go {tg : Expr} {m i : Nat} {sk : Sk} {T : Addr} {Q : Unit → Shared → Prop} (Z : ESt m sk i s.heap)
    (hQ : ∀ h', ESt m sk i h' → Heap.SameBut (m + 1 : Nat) s.heap h' → Q () { s with heap := h' }) : wpAny (model prog w) A (letOwnedTupleGo tg (.ref (m + 1 : Nat)) (.ref T)) Q E s := by
  obtain ⟨f0, f, old, hz, hf⟩ := Z.e
  have q0 : Q () s := hQ s.heap Z (Heap.SameBut.refl _ _)
  have q1 : wpAny (model prog w) A (do
      let o ← load (m + 1 : Nat)
      match o.cls, o.data with
      | .type n, .fields vs =>
        if ["enumerate", "zip", "dict_itemiterator", "dict_reverseitemiterator", "odict_iterator", "itertools.zip_longest", "itertools.pairwise"].contains n && vs[0]? == some (rawInt T) then
          rule "for.unpacks-the-owned-tuple"
          updateField (m + 1 : Nat) 0 .none
      | _, _ => pure ()) Q E s := by
    refine wpAny_bind (wpAny_load hz ?_)
    show wpAny _ _ (if (true && (#[f0, Value.bool f, .ref m, rawInt i, .none, old] : Array Value)[0]? == some (rawInt T)) = true then _ else _) _ _ _
    by_cases hc : (true && (#[f0, Value.bool f, .ref m, rawInt i, .none, old] : Array Value)[0]? == some (rawInt T)) = true
    · rw [if_pos hc]
      refine wpAny_bind (wpAny_rule ?_)
      show wpAny _ _ (setField (.ref (m + 1 : Nat)) 0 .none) Q E s
      refine wpAny_setField_rec hz (by simp) fun h' hz' hs' => hQ h' ?_ hs'
      exact ⟨⟨.none, f, old, hz', .inl rfl⟩, Z.it.over' fun o e => hs'.extBut _ _ (Nat.ne_of_lt (Nat.lt_succ_self _)) e⟩
    · rw [if_neg hc]
      exact wpAny_pure q0
  unfold letOwnedTupleGo
  cases tg <;> first
    | exact wpAny_pure q0
    | exact q1
theorem iter_enum {m i : Nat} {sk : Sk} {Q : Value → Shared → Prop} (Z : ESt m sk i s.heap) (h : Q (.ref (m + 1 : Nat)) s) : wpAny (model prog w) A (pyIter (.ref (m + 1 : Nat))) Q E s := by
  have hT : s.TypeIs (.ref (m + 1 : Nat)) "enumerate" := let ⟨f0, f, old, hz, _⟩ := Z.e; ⟨_, hz, rfl⟩
  refine wpAny_pyIter_slot hT F.slot_enumerate_iter (wpAny_call_entry F.slot_enumerate_iter hT F.entry_enumerate_iter ?_ (F.args_enumerate_iter_1 _))
  show wpAny _ _ (ret (.ref (m + 1 : Nat))) _ _ s
  exact wpAny_pure ⟨_, rfl, "enumerate", _, hT, F.slot_enumerate_next.lookup, h⟩
end
open PySem.AutoSeq1 (wpAny_loadPart') in
theorem meets_enumT (t : Addr) (o : Obj) (items : Array Value) :
    Meets (Builtin.«enumerate.__new__» ⟨[.type "enumerate", .ref t], []⟩) (fun _ R s => s.heap.get? t = some o ∧ s.heap.IsTuple t items ∧
      R (.ok (.ret (.ref (s.heap.push { cls := .type "tuple_iterator", data := .fields #[.ref t, .int 0 0] }).objs.size)))
        { s with heap := (s.heap.push { cls := .type "tuple_iterator", data := .fields #[.ref t, .int 0 0] }).push { cls := .type "enumerate", data := .fields #[.none, .bool false, .ref s.heap.objs.size, rawInt 0, .none, .none] } }) :=
  .of_wp fun prog w A R s h => by
    obtain ⟨hp, g, d, tk, os⟩ := s
    obtain ⟨hl, hL, h⟩ := h
    have hsub := sub_enumerate
    wp_walk using wpAny_loadPart' hl
    refine wpAny_stack_any fun st => wpAny_pure ?_
    split
    · rename_i c _ _ _ _ _
      cases (c == Value.type "enumerate")
      · wp_walk using wpAny_loadPart' hl, wpAny_pyIter_tuple hL
        exact ⟨_, rfl, h⟩
      · wp_walk using wpAny_loadPart' hl, wpAny_pyIter_tuple hL
        exact ⟨_, rfl, h⟩
    · wp_walk using wpAny_loadPart' hl, wpAny_pyIter_tuple hL
      exact ⟨_, rfl, h⟩
section
variable {prog : Program} {w : World} {A : Around} {E : Value → Shared → Prop} {s : Shared}
theorem call_enumN {sk : Sk} {u : Value} {Q : Value → Shared → Prop} (p : sk.of u s.heap)
    (h : ∀ h', ESt s.heap.objs.size sk 0 h' → (∀ b o, s.heap.get? b = some o → h'.get? b = some o) → Q (.ref (s.heap.objs.size + 1 : Nat)) { s with heap := h' }) :
    wpAny (model prog w) A (call (.type "enumerate") [u]) Q E s := by
  cases sk with
  | lst a =>
    obtain ⟨rfl, its, l⟩ := p
    exact call_enumerate_list l fun h' he hit _ k => h h' ⟨⟨_, _, _, he, .inl rfl⟩, hit⟩ k
  | asc x t =>
    obtain ⟨rfl, ha⟩ := p
    refine call_enumerate_str fun h' he hit _ k => h h' ⟨⟨_, _, _, he, .inl rfl⟩, ?_⟩ k
    rw [show strIterType x = "str_ascii_iterator" by simp [strIterType, ha]] at hit
    exact hit
  | wid x t =>
    obtain ⟨rfl, ha⟩ := p
    refine call_enumerate_str fun h' he hit _ k => h h' ⟨⟨_, _, _, he, .inl rfl⟩, ?_⟩ k
    rw [show strIterType x = "str_iterator" by simp [strIterType, ha]] at hit
    exact hit
  | tup a =>
    obtain ⟨rfl, its, l⟩ := p
    obtain ⟨o, ho, hc, n, hd⟩ := id l
    refine callType_new F.called_enumerate (by decide) (F.typeCall_enumerate_1 _) (F.newCall_enumerate_1 _) (fun obj => F.args_object_init_2 obj _) F.entry_enumerate_new (meets_enumT a o its) ⟨ho, l, ?_⟩
    have hz : (s.heap.push { cls := .type "tuple_iterator", data := .fields #[.ref a, .int 0 0] }).objs.size = s.heap.objs.size + 1 := Heap.size_push ..
    have he := Heap.get?_push_size (s.heap.push { cls := .type "tuple_iterator", data := .fields #[.ref a, .int 0 0] })
      (o := { cls := .type "enumerate", data := .fields #[.none, .bool false, .ref s.heap.objs.size, rawInt 0, .none, .none] }) rfl
    show _ ∧ _
    rw [hz] at he ⊢
    exact ⟨⟨_, he, rfl⟩, h _ ⟨⟨_, _, _, he, .inl rfl⟩, ⟨_, Heap.get?_push_of_some _ (Heap.get?_push_size _ rfl), rfl, rfl⟩⟩ fun b o x => Heap.get?_push_of_some _ (Heap.get?_push_of_some _ x)⟩
end

/-- the thing as it stands at each turn, each item in a new pair -/
def ItnE (K : PySem.W.Frag) (sv : Sv) : It :=
  ⟨fun i H => ∃ xs x, sv.has K H xs ∧ xs[i]? = some x,
    fun i H v H' => ∃ T x, v = .ref T ∧ H T = none ∧ H' = upd H T (.tup [.int (i : Nat), x]) ∧ ∀ ys, sv.has K H ys → ys[i]? = some x,
    fun i H => ∃ xs, sv.has K H xs ∧ xs.length ≤ i⟩
theorem turn_enumN {P : Program} {w : World} {K : PySem.W.Frag} {tg : Expr} {m : Nat} {sv : Sv} {sk : Sk} (hr : Skv sv sk) :
    Turn P w K tg (ItnE K sv) [(m : Addr), m + 1] (m + 1 : Nat) (fun i h => ESt m sk i h) where
  mem := by simp
  obj := fun i h st c hc => by
    have e' : c = m ∨ c = m + 1 := by simpa using hc
    rcases e' with rfl | rfl
    · exact st.it.obj
    · obtain ⟨f0, f, old, hz, _⟩ := st.e
      exact ⟨_, hz, fun v q => nomatch q⟩
  keep := fun i h h' st k => by
    obtain ⟨f0, f, old, hz, hf⟩ := st.e
    exact ⟨⟨f0, f, old, k _ (by simp) _ hz, hf⟩, st.it.over' fun o e => k _ (by simp) o e⟩
  item := by
    intro X hP hw hK hc i pins s σ H E I hf st hg
    subst hP hw hK
    obtain ⟨xs, x, h1, h2⟩ := hg
    have hel : (m + 1 : Nat) < s.heap.objs.size := by
      obtain ⟨f0, f, old, hz, _⟩ := st.e
      exact Heap.lt_size hz
    refine enext_item st (sv_gives I hr h1 h2) fun u t h' tk ru Z hT k => ⟨_, rfl, enum_go (s := { s with heap := h', toks := tk }) Z fun h'' Z' sb => ?_⟩
    have hT2 : TupAt h'' s.heap.objs.size #[.int i t, u] := (sb.2 _ (Nat.ne_of_gt hel)).trans hT
    have new : ObjOk X.prog X.w (upd H s.heap.objs.size (.tup [.int (i : Nat), x])) h'' s.heap.objs.size (.tup [.int (i : Nat), x]) :=
      ⟨by show 2 ≤ sizeLine; decide, [.int i t, u], .cons ⟨_, rfl⟩ (.cons ru .nil), ⟨_, hT2, rfl, _, rfl⟩⟩
    have I1 : Inv X pins σ (upd H s.heap.objs.size (.tup [.int (i : Nat), x])) { s with heap := h'', toks := tk } :=
      I.turnedNew (t' := tk) (ch := [(m : Addr), m + 1]) (fun b ob hb q => (sb.2 b (fun z => hb (by simp [z]))).trans (k b ob (fun z => hb (by simp [z])) (fun z => hb (by simp [z])) q)) hf (Nat.le_refl _) new
    refine ⟨.ref s.heap.objs.size, _, I1, rfl, ⟨_, x, rfl, I.hok.fresh (Nat.le_refl _), rfl, fun ys hy => by rw [sv_inj I hy h1]; exact h2⟩, Z', fun b hb => ?_⟩
    have hb' : b < s.heap.objs.size := by
      have e' : b = m ∨ b = m + 1 := by simpa using hb
      rcases e' with rfl | rfl
      · exact Nat.lt_of_succ_lt hel
      · exact hel
    rw [upd_ne (Nat.ne_of_lt hb')]
    exact (hf b hb).1
  done := by
    intro X hP hw hK hc i pins s σ H E I hf st hg
    subst hP hw hK
    obtain ⟨xs, h1, h2⟩ := hg
    exact enext_end (I.ok.hd hc) st (sv_ends I hr h1 h2) fun h' k => ⟨rfl, I.turnedL (t' := s.toks) (ch := [(m : Addr), m + 1]) (fun c o hb q => k c o (fun z => hb (by simp [z])) q) hf⟩
  self := fun A i s Q E st h => iter_enum st h
def iEnumN (K : PySem.W.Frag) (ta : TA) : TI := fun σ H R => ta σ H fun vs H1 => ∃ sv xs, vs = [Sv.v sv] ∧ sv.has K H1 xs ∧ R (ItnE K sv) H1
theorem pi_enumN {X : Cx} {tg e : Expr} {ta : TA} {p pos : Pos} (hg : Gl X "enumerate") (hm : X.mg "enumerate" = none) (ha : PA X [e] ta) (hs : starEach [e] X.env = [(false, eval e X.env)] := by rfl) :
    PI X tg (.Call (.Name "enumerate" p) [e] [] pos) (iEnumN X.K ta) := by
  refine ⟨fun pins s σ H R I h => ?_⟩
  refine Call_ (ld_blt I hg hm boot_enumerate (PyProof.Rows.callWith_type1 (thn (ha.run pos pins s σ H _ I h) fun us s1 ⟨vs, H1, I1, r1, q1⟩ => ?_) hs rfl))
  obtain ⟨sv, xs, rfl, hq, q⟩ := q1
  cases r1 with
  | cons r rr =>
    cases rr
    obtain ⟨sk, hr, ho, _⟩ := sv_of I1 hq r
    refine call_enumN ho fun h' Z k => iter_enum (s := { s1 with heap := h' }) Z ?_
    have I2 : Inv X pins σ H1 { s1 with heap := h' } := I1.kept (t' := s1.toks) k
    refine ⟨_, [(s1.heap.objs.size : Addr), s1.heap.objs.size + 1], _, _, H1, rfl, I2, turn_enumN hr, Z, fun b hb => ?_, q⟩
    have hle : s1.heap.objs.size ≤ b := by
      have e' : b = s1.heap.objs.size ∨ b = s1.heap.objs.size + 1 := by simpa using hb
      rcases e' with rfl | rfl
      · exact Nat.le_refl _
      · exact Nat.le_add_right _ _
    exact I1.fpOk hle (I1.hok.fresh hle)

/-! ### walks -/
theorem walk_enumN {K : PySem.W.Frag} {sv : Sv} {xs : List V} : Walk (ItnE K sv) xs.length (fun H => sv.has K H xs) (YPair (fun i => some (.int (i : Nat))) (fun i => xs[i]?)) := by
  refine ⟨fun i _ hi q => ⟨xs, xs[i], q, by simp [hi]⟩, fun _ q => ⟨xs, q, Nat.le_refl _⟩, fun i H v H' _ q y => ?_⟩
  obtain ⟨T, x, h1, h2, h3, h4⟩ := y
  exact ⟨T, .int (i : Nat), x, h1, h2, h3, rfl, h4 xs q⟩
/-- a new tuple of the i-th of each -/
def YTup (xss : List (List V)) : Nat → Hp → V → Hp → Prop := fun i H v H' => ∃ T xs, v = .ref T ∧ H T = none ∧ H' = upd H T (.tup xs) ∧ xs.length = xss.length ∧ ∀ (j : Nat) ys, xss[j]? = some ys → xs[j]? = ys[i]?
/-- all of them are there -/
def Alls (K : PySem.W.Frag) (ss : List Sv) (xss : List (List V)) (H : Hp) : Prop := ss.length = xss.length ∧ ∀ (j : Nat) s xs, ss[j]? = some s → xss[j]? = some xs → Sv.has K H s xs
theorem walk_zipN {K : PySem.W.Frag} {ss : List Sv} {xss : List (List V)} {n : Nat} (hn : ∀ xs, xs ∈ xss → xs.length = n) (h0 : 0 < xss.length) : Walk (ItzN K ss) n (fun H => Alls K ss xss H) (YTup xss) := by
  have atx : ∀ {j : Nat} {xs : List V}, xss[j]? = some xs → xs.length = n := fun e => hn _ (List.mem_of_getElem? e)
  refine ⟨fun i H hi q j s e => ?_, fun H q => ⟨0, by rw [q.1]; exact h0, fun s e => ?_, fun j s z => absurd z (Nat.not_lt_zero _)⟩, fun i H v H' hi q y => ?_⟩
  · have hj : j < xss.length := by rw [← q.1]; exact len_of e
    have e2 := List.getElem?_eq_getElem hj
    have hl := atx e2
    exact ⟨_, _, q.2 j s _ e e2, List.getElem?_eq_getElem (by omega)⟩
  · have e2 := List.getElem?_eq_getElem h0
    exact ⟨_, q.2 0 s _ e e2, by rw [atx e2]; exact Nat.le_refl _⟩
  · obtain ⟨T, xs, h1, h2, h3, h4, h5⟩ := y
    refine ⟨T, xs, h1, h2, h3, by rw [h4, q.1], fun j ys e => ?_⟩
    have hj : j < ss.length := by rw [q.1]; exact len_of e
    have e2 := List.getElem?_eq_getElem hj
    exact h5 j _ ys e2 (q.2 j _ ys e2 e)
/-- two of them -/
theorem walk_zip2 {K : PySem.W.Frag} {s1 s2 : Sv} {xs ys : List V} (hl : xs.length = ys.length) : Walk (ItzN K [s1, s2]) xs.length (fun H => s1.has K H xs ∧ s2.has K H ys) (YPair (fun i => xs[i]?) (fun i => ys[i]?)) := by
  refine (walk_zipN (K := K) (ss := [s1, s2]) (xss := [xs, ys]) (n := xs.length) (fun zs h => ?_) (Nat.succ_pos _)).mono (fun H h => ⟨rfl, fun j s zs e1 e2 => ?_⟩) (fun i H x H' hi h y => ?_)
  · rcases List.mem_cons.mp h with rfl | h
    · rfl
    · rw [List.mem_singleton.mp h, hl]
  · match j with
    | 0 => cases e1; cases e2; exact h.1
    | 1 => cases e1; cases e2; exact h.2
    | j + 2 => cases e1
  · obtain ⟨T, zs, h1, h2, h3, h4, h5⟩ := y
    have a := h5 0 xs rfl
    have b := h5 1 ys rfl
    have hx := List.getElem?_eq_getElem hi
    have hy := List.getElem?_eq_getElem (show i < ys.length by omega)
    rw [hx] at a
    rw [hy] at b
    obtain ⟨z1, z2, rfl⟩ : ∃ z1 z2, zs = [z1, z2] := by
      match zs, h4 with
      | [z1, z2], _ => exact ⟨z1, z2, rfl⟩
    have a' : z1 = xs[i] := Option.some.inj a
    have b' : z2 = ys[i] := Option.some.inj b
    exact ⟨T, z1, z2, h1, h2, h3, by rw [a']; exact hx, by rw [b']; exact hy⟩
end LZ

set_option Elab.async false
set_option linter.all false
set_option maxRecDepth 100000
set_option maxHeartbeats 2000000
/-! LPR: comprehensions whose items are told by a relation that new objects keep; two generators; s.index(t) that is found. -/
namespace LP
open PySem PySem.Spec L2
open PyProof.Rows hiding St signs

/-- all but lists stays -/
def NL (H H' : Hp) : Prop := ∀ b o, (∀ xs, o ≠ HO.lst xs) → H b = some o → H' b = some o
theorem Same.nl {H H' : Hp} (h : Same H H') : NL H H' := fun b o _ e => h b o e
theorem NL.refl (H : Hp) : NL H H := fun _ _ _ e => e
theorem NL.trans {A B C : Hp} (h : NL A B) (k : NL B C) : NL A C := fun b o n e => k b o n (h b o n e)
theorem NL.put {H : Hp} {a : Addr} {xs ys : List V} (h : H a = some (.lst xs)) : NL H (upd H a (.lst ys)) := fun b o n e => by
  rw [upd_ne (fun z => ?_)]
  · exact e
  · rw [z, h] at e
    cases e
    exact n xs rfl
theorem NL.tup {K : PySem.W.Frag} {H H' : Hp} {a : Addr} {xs : List V} (e : NL H H') (h : SqT K H a xs) : SqT K H' a xs := by
  rcases h with (h | ⟨o, h⟩) | h
  · exact .inl (.inl (e _ _ (fun _ z => nomatch z) h))
  · exact .inl (.inr ⟨o, e _ _ (fun _ z => nomatch z) h⟩)
  · exact .inr h
/-- the list that is being written is new -/
theorem Same.lay {H H' : Hp} {D : Addr} {o : HO} (h : Same H H') (hD : H D = none) : Same H (upd H' D o) := fun b u e => by
  rw [upd_ne (ne_of_none e hD)]
  exact h b u e
theorem lc_rel {J : It} {n : Nat} {G : Hp → Prop} {Y : Nat → Hp → V → Hp → Prop} (W : Walk J n G Y) {g : TG} {te : TE} {vs : List Nat} {σ : St} {H : Hp} {Q : VK} (Rl : Nat → V → Hp → Prop)
    (mono : ∀ i y H1 H2, NL H1 H2 → Rl i y H1 → Rl i y H2) (hG : ∀ H1, Same H H1 → G H1) (hn : n ≤ 1000000)
    (he : ∀ i x H1 H2, i < n → Same H H1 → Y i H1 x H2 → ∀ R : VK, (∀ y H3, Same H1 H3 → Rl i y H3 → R y H3) → g x (wipe σ vs) H2 fun σ2 H3 => wipe σ2 vs = wipe σ vs ∧ te σ2 H3 R)
    (q : ∀ p ys H2, H p = none → Same H H2 → H2 p = some (.lst ys) → ys.length = n → (∀ i y, ys[i]? = some y → Rl i y H2) → Q (.ref p) H2) : LcLoop J g tYes te vs σ H Q := by
  intro D hD
  obtain ⟨Pv, hP⟩ : ∃ Pv : Nat → Hp → Prop, ∀ i H', Pv i H' ↔ (Same H H' ∧ ∃ ys, H' D = some (.lst ys) ∧ ys.length = i ∧ ∀ (j : Nat) y, ys[j]? = some y → Rl j y H') := ⟨_, fun _ _ => Iff.rfl⟩
  refine lc_it W Pv ((hP _ _).mpr ⟨Same.new hD, [], upd_same, rfl, fun j y z => by simp at z⟩) (fun i H' _ p => hG H' ((hP _ _).mp p).1) ?_ ?_
  · intro i x H1 H2 hi p hy
    obtain ⟨sm, ys, hd, hl, hr⟩ := (hP _ _).mp p
    refine he i x H1 H2 hi sm hy (fun y H4 => ∃ acc, H4 D = some (.lst acc) ∧ acc.length < sizeLine ∧ Pv (i + 1) (upd H4 D (.lst (acc ++ [y])))) fun y H3 s3 r => ⟨ys, s3 _ _ hd, ?_, (hP _ _).mpr ?_⟩
    · exact Nat.lt_of_le_of_lt (by omega : ys.length ≤ 1000000) (by decide)
    · have nl : NL H3 (upd H3 D (.lst (ys ++ [y]))) := NL.put (s3 _ _ hd)
      refine ⟨Same.lay (sm.trans s3) hD, ys ++ [y], upd_same, by rw [List.length_append, hl]; rfl, fun j z e => ?_⟩
      rw [List.getElem?_append] at e
      by_cases hj : j < ys.length
      · rw [if_pos hj] at e
        exact mono j z _ _ ((Same.nl s3).trans nl) (hr j z e)
      · rw [if_neg hj] at e
        have hz : j - ys.length = 0 := by
          have := (List.getElem?_eq_some_iff.mp e).1
          rw [List.length_singleton] at this
          omega
        rw [hz] at e
        have ej : j = i := by omega
        rw [ej]
        have ey : y = z := Option.some.inj e
        rw [← ey]
        exact mono i y _ _ nl r
  · intro H' p
    obtain ⟨sm, ys, hd, hl, hr⟩ := (hP _ _).mp p
    exact q D ys H' hD sm hd hl hr
/-- items that are values: the i-th is f i -/
theorem lc_val {J : It} {n : Nat} {G : Hp → Prop} {Y : Nat → Hp → V → Hp → Prop} (W : Walk J n G Y) {g : TG} {te : TE} {vs : List Nat} {σ : St} {H : Hp} {Q : VK} (f : Nat → V)
    (hG : ∀ H1, Same H H1 → G H1) (hn : n ≤ 1000000)
    (he : ∀ i x H1 H2, i < n → Same H H1 → Y i H1 x H2 → ∀ R : VK, (∀ H3, Same H1 H3 → R (f i) H3) → g x (wipe σ vs) H2 fun σ2 H3 => wipe σ2 vs = wipe σ vs ∧ te σ2 H3 R)
    (q : ∀ p H2, H p = none → Same H H2 → H2 p = some (.lst ((List.range n).map f)) → Q (.ref p) H2) : LcLoop J g tYes te vs σ H Q := by
  refine lc_rel W (fun i y _ => y = f i) (fun _ _ _ _ _ h => h) hG hn (fun i x H1 H2 hi sm hy R hR => he i x H1 H2 hi sm hy R fun H3 s3 => hR _ _ s3 rfl) fun p ys H2 hp sm hl hlen hr => q p H2 hp sm ?_
  rw [hl]
  congr 2
  refine List.ext_getElem? fun j => ?_
  rw [List.getElem?_map]
  by_cases hj : j < n
  · rw [List.getElem?_range hj]
    have e : ys[j]? = some ys[j] := List.getElem?_eq_getElem (by omega)
    rw [e, hr j _ e]
    rfl
  · rw [List.getElem?_eq_none (by omega), List.getElem?_eq_none (by rw [List.length_range]; omega)]
    rfl
/-- two generators, the test of each item true: all(..) of it -/
def Lc2Loop (J : It) (g : TG) (wi1 : TI) (g1 : TG) (te : TE) (vs vs1 : List Nat) (σ : St) (H1 : Hp) (Q : VK) : Prop := ∀ D, H1 D = none → ∃ W : Nat → Nat → Hp → Prop, (∃ m, W 0 m (upd H1 D (.lst []))) ∧ ∀ i m H, W i m H →
  (J.stop i H ∧ Q (.ref D) H) ∨ (J.go i H ∧ ∃ Nx : Hp → Prop, (∀ H', Nx H' → ∃ m', m' < m ∧ W (i + 1) m' H') ∧ ∀ x H', J.yld i H x H' → g x (wipe σ vs) H' fun σ2 H2 => wipe σ2 vs = wipe σ vs ∧ tYes σ2 H2 fun b H3 =>
    if b = true then wi1 σ2 H3 fun J1 H4 => ∃ W1 : Nat → Nat → Hp → Prop, (∃ m, W1 0 m H4) ∧ ∀ j k H, W1 j k H →
      (J1.stop j H ∧ Nx H) ∨ (J1.go j H ∧ ∃ Nx1 : Hp → Prop, (∀ H', Nx1 H' → ∃ k', k' < k ∧ W1 (j + 1) k' H') ∧ ∀ x H', J1.yld j H x H' → g1 x (wipe σ2 vs1) H' fun σ3 H5 => wipe σ3 vs1 = wipe σ2 vs1 ∧ tYes σ3 H5 fun b H6 =>
        if b = true then te σ3 H6 fun y H7 => ∃ acc, H7 D = some (.lst acc) ∧ acc.length < sizeLine ∧ Nx1 (upd H7 D (.lst (acc ++ [y]))) else Nx1 H6)
    else Nx H3)
theorem tLc2_eq (wi : TI) (g : TG) (wi1 : TI) (g1 : TG) (te : TE) (vs vs1 : List Nat) (σ : St) (H : Hp) (Q : VK) : tLc2 wi g tYes wi1 g1 tYes te vs vs1 σ H Q = wi σ H fun J H1 => Lc2Loop J g wi1 g1 te vs vs1 σ H1 Q := rfl
/-- every item is v -/
theorem lc2_all {J : It} {k : Nat} {G : Hp → Prop} {xs : List V} (W : Walk J xs.length G (YAt xs)) {j j1 : Nat} {wi1 : TI} {te : TE} {vs vs1 : List Nat} {σ : St} {H : Hp} {Q : VK} (v : V)
    (hG : ∀ H1, Same H H1 → G H1) (hn : xs.length * k ≤ 1000000) (hw : ∀ x, wipe ((wipe σ vs).set j (some x)) vs = wipe σ vs) (hw1 : ∀ x y, wipe ((wipe ((wipe σ vs).set j (some x)) vs1).set j1 (some y)) vs1 = wipe ((wipe σ vs).set j (some x)) vs1)
    (he : ∀ x, x ∈ xs → ∀ H1, Same H H1 → ∀ R : It → Hp → Prop, (∀ J1 G1 ys, Walk J1 ys.length G1 (YAt ys) → ys.length = k → (∀ H5, Same H H5 → G1 H5) →
      (∀ y, y ∈ ys → ∀ H5, Same H H5 → ∀ R' : VK, (∀ H7, Same H5 H7 → R' v H7) → te ((wipe ((wipe σ vs).set j (some x)) vs1).set j1 (some y)) H5 R') → R J1 H1) → wi1 ((wipe σ vs).set j (some x)) H1 R)
    (q : ∀ p H2, H p = none → Same H H2 → H2 p = some (.lst (List.replicate (xs.length * k) v)) → Q (.ref p) H2) : Lc2Loop J (gName j) wi1 (gName j1) te vs vs1 σ H Q := by
  intro D hD
  obtain ⟨Pv, hP⟩ : ∃ Pv : Nat → Hp → Prop, ∀ i H', Pv i H' ↔ (Same H H' ∧ H' D = some (.lst (List.replicate (i * k) v))) := ⟨_, fun _ _ => Iff.rfl⟩
  refine ⟨fun i m H' => m = xs.length - i ∧ i ≤ xs.length ∧ Pv i H', ⟨xs.length, rfl, Nat.zero_le _, (hP _ _).mpr ⟨Same.new hD, by rw [Nat.zero_mul]; exact upd_same⟩⟩, ?_⟩
  rintro i m H1 ⟨rfl, hi, p⟩
  obtain ⟨sm, hd⟩ := (hP _ _).mp p
  by_cases hlt : i < xs.length
  · refine .inr ⟨W.goes i H1 hlt (hG H1 sm), Pv (i + 1), fun H' p' => ⟨xs.length - (i + 1), by omega, rfl, hlt, p'⟩, fun x H' y => ?_⟩
    obtain ⟨rfl, ex⟩ := W.yields i H1 x H' hlt (hG H1 sm) y
    refine ⟨hw x, he x (List.mem_of_getElem? ex) H' sm _ fun J1 G1 ys W1 hl hG1 hte => ?_⟩
    obtain ⟨P1, hP1⟩ : ∃ P1 : Nat → Hp → Prop, ∀ j' H'', P1 j' H'' ↔ (Same H H'' ∧ H'' D = some (.lst (List.replicate (i * k + j') v))) := ⟨_, fun _ _ => Iff.rfl⟩
    refine ⟨fun j' m' H'' => m' = ys.length - j' ∧ j' ≤ ys.length ∧ P1 j' H'', ⟨ys.length, rfl, Nat.zero_le _, (hP1 _ _).mpr ⟨sm, hd⟩⟩, ?_⟩
    rintro j' m' H2 ⟨rfl, hj, p1⟩
    obtain ⟨sm2, hd2⟩ := (hP1 _ _).mp p1
    by_cases hlt2 : j' < ys.length
    · refine .inr ⟨W1.goes j' H2 hlt2 (hG1 H2 sm2), P1 (j' + 1), fun H'' p'' => ⟨ys.length - (j' + 1), by omega, rfl, hlt2, p''⟩, fun y' H'' y2 => ?_⟩
      obtain ⟨rfl, ey⟩ := W1.yields j' H2 y' H'' hlt2 (hG1 H2 sm2) y2
      refine ⟨hw1 x y', hte y' (List.mem_of_getElem? ey) H'' sm2 _ fun H7 s7 => ⟨_, s7 _ _ hd2, ?_, (hP1 _ _).mpr ⟨Same.lay (sm2.trans s7) hD, ?_⟩⟩⟩
      · rw [List.length_replicate]
        refine Nat.lt_of_le_of_lt (?_ : i * k + j' ≤ 1000000) (by decide)
        have h1 : i * k + k ≤ xs.length * k := by
          have := Nat.mul_le_mul_right k (show i + 1 ≤ xs.length from hlt)
          rw [Nat.succ_mul] at this
          exact this
        omega
      · rw [upd_same, show i * k + (j' + 1) = (i * k + j') + 1 by omega, List.replicate_succ']
    · have e : j' = ys.length := by omega
      subst e
      refine .inl ⟨W1.stops H2 (hG1 H2 sm2), (hP _ _).mpr ⟨sm2, ?_⟩⟩
      rw [hd2, hl, Nat.succ_mul]
  · have e : i = xs.length := by omega
    subst e
    exact .inl ⟨W.stops H1 (hG H1 sm), q D H1 hD sm hd⟩

/-! ### s.index(t), found -/
def rIxOf : V → List V → Hp → VK → Prop := fun x xs H Q => ∃ (a b : Str) (k : Nat), x = .str a ∧ xs = [.str b] ∧ Txt.index0 a b = some k ∧ Q (.int (k : Nat)) H
theorem mt_ixOf {X : Cx} : MtR X "str.index" rIxOf := by
  intro pins s σ H x xs v us Q I rx rs h
  obtain ⟨a, b, k, rfl, rfl, hk, q⟩ := h
  obtain ⟨t, rfl⟩ := rx
  cases rs with
  | cons r1 rs =>
    cases rs
    obtain ⟨u, rfl⟩ := r1
    unfold Txt.index0 at hk
    cases e : Builtin.Str.occurrences a b 0 a.length 1 with
    | nil =>
      rw [e] at hk
      cases hk
    | cons k' rest =>
      rw [e] at hk
      cases hk
      exact PySem.SC.index e ⟨.int (k : Nat), H, I.tok _, ⟨_, rfl⟩, q⟩
end LP

set_option Elab.async false
set_option linter.all false
set_option maxRecDepth 100000
set_option maxHeartbeats 4000000
/-! LPE: errors of own classes, over any built-in one, with an own __init__ that keeps one thing; as values, caught. -/
namespace LP
open PySem PySem.Spec L2
open PyProof.Rows hiding St

/-- what making such an error asks of the list of its bases -/
structure Tl (B : String) (bm : List Value) : Prop where
  has : bm.contains (.type B) = true
  noA : bm.contains (.type "AttributeError") = false
  noN : bm.contains (.type "NameError") = false

section
variable {prog : Program} {w : World} {A : Around} {E : Value → Shared → Prop} {R : Result → Shared → Prop} {hp : Heap}
  {gs : Array GenState} {dr : Drawn} {tk : Nat} {os : OsState} {nm qn : Str} {C N : Addr} {bs bm bmB : List Value} {hdt : Bool}
  {sn : List Str} {sub : List Value} {ab : Bool} {col : Option Bool} {dd : Option Addr} {k0 k1 k2 k3 k5 : Option Value}
  {B newId initId : String} {us : List Value}

theorem Tl.cons (T : Tl B bm) : Tl B (.ref C :: bm) := by
  obtain ⟨h1, h2, h3⟩ := T
  constructor
  · rw [List.contains_cons, h1, Bool.or_true]
  · rw [List.contains_cons, h2]
    rfl
  · rw [List.contains_cons, h3]
    rfl

/-- B.__new__ may be called with the class -/
theorem new_checked (F : ExcBaseFacts B newId initId bmB) (T : Tl B bm) {Q : Unit → Shared → Prop}
    (hC : hp.get? C = some (excClassObj nm qn C N bs bm hdt sn sub ab col dd k0 k1 k2 k3 k5 newId))
    (hq : Q () ⟨hp, gs, dr, tk, os⟩) :
    wpAny (model prog w) A (checkBuiltinCall newId ⟨.ref C :: us, []⟩) Q E ⟨hp, gs, dr, tk, os⟩ := by
  have c1 := (T.cons (C := C)).has
  have c2 := F.noStar
  simp only [checkBuiltinCall, F.newKind, F.newSplit, F.newRow]
  repeat (first
    | refine wpAny_loadPart_at hC ?_
    | (refine wpAny_isSubtype_exc hC ?_; rw [c1])
    | refine wpAny_staticBase_exc hC ?_
    | refine wpAny_madeBy_exc hC ?_
    | simp only [bne_self_eq_false, Bool.false_eq_true, if_false]
    | wp_step)
  exact hq

/-- .. and lays the error -/
theorem new_made (F : ExcBaseFacts B newId initId bmB) (T : Tl B bm)
    (hC : hp.get? C = some (excClassObj nm qn C N bs bm hdt sn sub ab col dd k0 k1 k2 k3 k5 newId)) (hl : us.length ≤ sizeLine)
    (hq : R (.ok (.ret (.ref (hp.objs.size + 1))))
      ⟨(hp.push (PySem.W.kdv_tup us)).push (PySem.HandSPX.excO C hp.objs.size), gs, dr, tk, os⟩) :
    codeAny (model prog w) A (.builtin newId ⟨.ref C :: us, []⟩) R ⟨hp, gs, dr, tk, os⟩ := by
  have c0 := F.ends
  have c1 := (T.cons (C := C)).has
  have c2 := (T.cons (C := C)).noA
  have c3 := (T.cons (C := C)).noN
  refine codeAny_builtinAt F.entry ?_
  unfold Builtin.«BaseException.__new__»
  refine PySem.wpAt_bind ?_
  show PySem.wpAt _ _ _ (stack >>= _) _ _ _
  refine PySem.wpAt_bind (PySem.wpAt_stack fun p below => PySem.wpAt_of_wpAny ?_)
  wp_walk
  refine PySem.wpAt_of_wpAny ?_
  rw [F.owner]
  repeat (first
    | with_reducible refine wpAny_madeHere_exc F.canon hC ?_
    | with_reducible refine wpAny_loadPart_at hC ?_
    | (with_reducible refine wpAny_isSubtype_exc hC ?_; first | rw [c1] | rw [c2] | rw [c3])
    | wp_step)
  show R _ _
  rw [Heap.size_push]
  exact hq

/-- type.__call__ of the class: the error is laid, then its own __init__ runs -/
theorem own_typed (F : ExcBaseFacts B newId initId bmB) (T : Tl B bm) {fI : Addr} {Q : Fin → Shared → Prop}
    (hC : hp.get? C = some (excClassObj nm qn C N bs bm hdt sn sub ab col dd k0 k1 k2 k3 k5 newId))
    (hi : PySem.W.Looks (model prog w) hp (typeLookup (.ref C) "__init__") (some (.ref fI)))
    (hb : ∀ self, PySem.W.Looks (model prog w) hp (bindSpecial (.ref fI) self) (.ref fI, [self])) (hl : us.length ≤ sizeLine)
    (hq : codeAny (model prog w) A (.call (.ref fI) ⟨.ref (hp.objs.size + 1) :: us, []⟩)
      (fun r s' => match r with
        | .ok (.ret v) => v = .none ∧ Q (.done (.ret (.ref (hp.objs.size + 1)))) s'
        | .ok _ => False
        | .error e => E e s')
      ⟨(hp.push (PySem.W.kdv_tup us)).push (PySem.HandSPX.excO C hp.objs.size), gs, dr, tk, os⟩) :
    wpAny (model prog w) A (Builtin.«type.__call__» ⟨.ref C :: us, []⟩) Q E ⟨hp, gs, dr, tk, os⟩ := by
  repeat (first
    | with_reducible refine wpAny_loadPart_at hC ?_
    | with_reducible refine wpAny_madeBy_exc hC ?_
    | wp_step)
  refine codeAny_call_builtin_code (Code.quiet_builtin _ F.quiet) (new_checked F T hC ?_)
  refine new_made F T hC hl ?_
  show wpAny _ _ _ _ _ _
  have kk : ∀ b o, hp.get? b = some o →
      ((hp.push (PySem.W.kdv_tup us)).push (PySem.HandSPX.excO C hp.objs.size)).get? b = some o :=
    fun b o e => Heap.get?_push_of_some _ (Heap.get?_push_of_some _ e)
  have e1 := kk _ _ hC
  have e2 : ((hp.push (PySem.W.kdv_tup us)).push (PySem.HandSPX.excO C hp.objs.size)).get? (hp.objs.size + 1) =
      some (PySem.HandSPX.excO C hp.objs.size) := by heap_get
  have e3 : (Value.ref C :: bm).contains (.ref C) = true := by simp
  have i1 := hi.keeps kk
  have b1 := (hb (.ref (hp.objs.size + 1))).keeps kk
  unfold isInstance
  repeat (first
    | with_reducible refine wpAny_loadPart_at e2 ?_
    | (with_reducible refine wpAny_isSubtype_exc e1 ?_; rw [e3])
    | wp_step)
  show wpAny _ _ (typeLookup (.ref C) _) _ _ _
  refine i1.at ?_
  refine wpAny_holding (wpAny_bind (b1.at ?_))
  refine wpAny_bind (wpAny_call (codeAny_mono hq fun r s' z => ?_))
  rcases r with e | (v | _ | _ | _)
  · exact z
  all_goals first | exact z.elim | skip
  obtain ⟨rfl, z⟩ := z
  first
    | exact wpAny_pure (wpAny_pure z)
    | (wp_walk; exact z)

/-- C(..) -/
theorem own_called (F : ExcBaseFacts B newId initId bmB) (T : Tl B bm) {fI : Addr}
    (hC : hp.get? C = some (excClassObj nm qn C N bs bm hdt sn sub ab col dd k0 k1 k2 k3 k5 newId))
    (hi : PySem.W.Looks (model prog w) hp (typeLookup (.ref C) "__init__") (some (.ref fI)))
    (hb : ∀ self, PySem.W.Looks (model prog w) hp (bindSpecial (.ref fI) self) (.ref fI, [self])) (hl : us.length ≤ sizeLine)
    (hq : codeAny (model prog w) (A.under (.builtin "type.__call__" ⟨.ref C :: us, []⟩))
      (.call (.ref fI) ⟨.ref (hp.objs.size + 1) :: us, []⟩) (PySem.W.InitBack (hp.objs.size + 1) R)
      ⟨(hp.push (PySem.W.kdv_tup us)).push (PySem.HandSPX.excO C hp.objs.size), gs, dr, tk, os⟩) :
    codeAny (model prog w) A (.call (.ref C) ⟨us, []⟩) R ⟨hp, gs, dr, tk, os⟩ := by
  have f1 := tc_lookup
  have f2 := tc_bind (.ref C)
  have hTy : (⟨hp, gs, dr, tk, os⟩ : Shared).TypeIs (.ref C) "type" := ⟨_, hC, rfl⟩
  refine codeAny_of_tree ?_
  show wpAny _ _ (callAny (.ref C) _) _ _ _
  repeat (any_goals (first
    | assumption
    | with_reducible refine wpAny_loadPart_at hC ?_
    | wp_step))
  refine ⟨rfl, ?_⟩
  refine codeAny_call_builtin_at (Code.quiet_builtin _ (by decide +kernel)) entry_typeCall (wpAny_check_type_call_sub hC ?_)
  refine own_typed F T hC hi hb hl (codeAny_mono hq fun r s' z => ?_)
  rcases r with e | (v | _ | _ | _) <;> exact z
end

theorem store_KE : StoreFacts "KeyError" [.type "KeyError", .type "LookupError", .type "Exception", .type "BaseException", .type "object"]
    "object.__setattr__" "object" where
  mro := by kernel_rfl
  slot := .of (owner := "object") (n := "__setattr__")
    (by rw [typeLookup_type, builtinLookup_eq_fast]; kernel_rfl) (by decide +kernel) (by decide +kernel) (by decide +kernel)
    (by first
      | exact .inl (by decide +kernel)
      | exact .inr (by decide +kernel)) (by rw [isSubtype_type]; kernel_rfl)
  entry := PySem.F.entry_object_sa
  kind := by decide +kernel
  split := by decide +kernel
  hasOwner := by decide +kernel
  args := fun x y z => by
    unfold argsOk
    kernel_rfl
  passes := fun me => by kernel_rfl

/-- an own class of errors whose __init__ keeps one thing under the name f -/
structure Oc (K : PySem.W.Frag) (C : Addr) (f : Str) : Prop where
  made : ∃ (B newId initId : String) (bmB bm : List Value) (nm q : Str) (N : Addr) (bs : List Value) (sn : List Str)
    (sub : List Value) (ab : Bool) (col : Option Bool) (dd : Option Addr) (k0 k1 k2 k3 k5 : Option Value),
    ExcBaseFacts B newId initId bmB ∧ Tl B bm ∧
    K.lookup C = some (excClassObj nm q C N bs bm true sn sub ab col dd k0 k1 k2 k3 k5 newId)
  sto : ∃ (B : String) (bmB : List Value), StoreFacts B bmB "object.__setattr__" "object" ∧ PySem.W.excOver K C bmB = true
  sa : PySem.W.findIn K (.ref C) "__setattr__" = some (some (.builtin "object.__setattr__"))
  exC : PySem.W.subIn K (.ref C) (.type "BaseException") = some true
  tyC : PySem.W.typeIn K (.ref C) = some (.type "type")
  kC : PySem.W.keepIn K (.ref C) = true
  hdC : PySem.W.hasDictIn K C = true
  no : PySem.W.findIn K (.ref C) f = some none

section
variable {X : Cx} {pins : List (Addr × Obj)} {σ : St} {H : Hp} {s : Shared} {a C dx : Addr} {f : Str} {y : V} {u : Value}
  {Q : Unit → Shared → Prop} {E : Value → Shared → Prop} {A : Around}
open PySem.Builtin PySem.Builtin.ObjectAttr in
/-- self.f = y: the error's dict is laid -/
theorem ost1 (T : Oc X.K C f) (I : Inv X pins σ H s) (e : H a = some (exo a C none)) (ry : RelV y u)
    (h : ∀ dx s', H dx = none → dx ≠ a → Inv X pins σ (upd (upd H dx (exd dx [(f, y)])) a (exo a C (some dx))) s' → Q () s') :
    wpAny (model X.prog X.w) A (setAttr (.ref a) f u) Q E s := by
  obtain ⟨t1, ho⟩ := exo_at I.hok e
  obtain ⟨B, bmB, SF, ov⟩ := T.sto
  have tk0 : PySem.W.takerIn X.K C f = some none := by
    unfold PySem.W.takerIn
    rw [T.no]
    rfl
  obtain ⟨cd, hc, hd'⟩ := PySem.W.any_some T.hdC
  obtain ⟨hp, g, d, t, os⟩ := s
  have KX : X.K.In hp := I.kIn
  refine PySem.W.set_plain KX (od := none) ⟨ho, rfl, rfl, trivial⟩ T.sa
    (PySem.W.osa_openX (od := none) SF KX ⟨ho, rfl, rfl, trivial⟩ ov tk0 fun b => ?_)
  have lt : a < hp.objs.size := Heap.lt_size ho
  refine wpAny_bind (wpAny_pure (wpAny_bind (PySem.W.instanceDict_exc (c2 := .none) ho (PySem.W.looks_clsIn KX hc) hd' ?_)))
  show wpAny _ _ (storeInDict hp.objs.size (.str f _) f u) _ _ _
  have n0 : ((hp.push (PySem.W.dictOf [] 0)).update a fun o => { o with dict := some hp.objs.size }).Ns hp.objs.size (fun _ => none) := by
    refine ⟨_, #[], _, (Heap.get?_update_ne _ _ _ _ (Nat.ne_of_gt lt)).trans (Heap.get?_push_at rfl rfl), rfl, ?_, fun _ => rfl⟩
    intro e he
    exact absurd he (by simp)
  refine PySem.HandSPX.store_in_new n0 fun h' tk' hn' hs => ?_
  have hxa : ((hp.push (PySem.W.dictOf [] 0)).update a fun o => { o with dict := some hp.objs.size }).get? a =
      some ({ cls := .ref C, dict := some hp.objs.size, data := .fields #[.ref t1, .none, .none, .none, .bool false, .none] } : Obj) :=
    Heap.get?_update_self _ (Heap.get?_push_of_some _ ho) rfl
  have hx : h'.get? a = some ({ cls := .ref C, dict := some hp.objs.size, data := .fields #[.ref t1, .none, .none, .none, .bool false, .none] } : Obj) :=
    (hs.2 a (Nat.ne_of_lt lt)).trans hxa
  have kk : ∀ b o, b ≠ a → hp.get? b = some o → h'.get? b = some o := fun b o hb q =>
    (hs.2 b (Nat.ne_of_lt (Heap.lt_size q))).trans ((Heap.get?_update_ne _ _ _ _ hb).trans (Heap.get?_push_of_some _ q))
  have hnd : H hp.objs.size = none := I.hok.fresh (Nat.le_refl _)
  have nd : ∀ {b : Addr} {o : Obj}, hp.get? b = some o → b ≠ hp.objs.size := fun q => Nat.ne_of_lt (Heap.lt_size q)
  have na : ∀ {b : Addr}, H b = none → b ≠ a := by
    intro b n z
    rw [z, e] at n
    cases n
  have U : Un X.fs [] H (upd (upd H hp.objs.size (exd hp.objs.size [(f, y)])) a (exo a C (some hp.objs.size))) hp h' := by
    constructor
    · intro b o q n _ _
      exact kk b o (na n) q
    · intro b o q n _ _
      exact ⟨o.slots, kk b o (na n) q⟩
    · intro b o q n _
      rw [upd_ne (na n), upd_ne (nd q)]
      exact n
    · intro b o q _
      by_cases hb : b = a
      · rw [hb]
        exact ⟨_, hx⟩
      · exact ⟨o, kk b o hb q⟩
    · intro b xs q
      rw [upd_ne (at_ne e q exo_tup), upd_ne (ne_of_none q hnd)]
      exact q
    · intro b o v q
      rw [upd_ne (at_ne e q exo_frz), upd_ne (ne_of_none q hnd)]
      exact q
    · intro b ps q
      refine ⟨#[], ?_⟩
      rw [upd_ne (at_ne e q exo_tbl), upd_ne (ne_of_none q hnd), q]
      simp
  refine h hp.objs.size _ hnd (Nat.ne_of_gt lt) (I.un (t' := tk') U ?_)
  intro b o q
  by_cases hb : b = a
  · subst hb
    rw [upd_same] at q
    cases q
    exact exo_ok hx
  rw [upd_ne hb] at q
  by_cases hd : b = hp.objs.size
  · subst hd
    rw [upd_same] at q
    cases q
    exact exd_ok hn' (relO_put (fs := []) ry fun g => True.intro)
  rw [upd_ne hd] at q
  refine (I.hok b o q).stay ?_ ?_ ?_
  · intro c v hc z
    refine kk c v ?_ z
    rcases hc with hc | hc
    · rw [hc]
      exact hb
    · exact at_ne e hc exo_own
  · intro c hc
    rw [upd_ne (at_ne e hc exo_own), upd_ne (ne_of_none hc hnd)]
    exact hc
  · intro c xs hc
    rw [upd_ne (at_ne e hc exo_tup), upd_ne (ne_of_none hc hnd)]
    exact hc
end

/-- self.f = e, of an error that is being made -/
def tOs1 (K : PySem.W.Frag) (f : Str) (to te : TE) : TS := fun D σ H => te σ H fun y H1 => to σ H1 fun x H2 =>
  ∃ a C : Addr, x = .ref a ∧ Oc K C f ∧ H2 a = some (exo a C none) ∧
    ∀ dx, H2 dx = none → dx ≠ a → D.nx σ (upd (upd H2 dx (exd dx [(f, y)])) a (exo a C (some dx)))
/-- what such an __init__ promises -/
def spIni (K : PySem.W.Frag) (C : Addr) (f : Str) : Sp := fun vs H Q _ => ∃ a y, vs = [.ref a, y] ∧ Oc K C f ∧ H a = some (exo a C none) ∧
  ∀ dx, H dx = none → dx ≠ a → Q .non (upd (upd H dx (exd dx [(f, y)])) a (exo a C (some dx)))
section
variable {X : Cx} {o e : Expr} {es : List Expr} {to te : TE} {ta : TA} {f x : Str} {p p' p1 p2 pos : Pos}
theorem ps_os1 (ho : PE X o to) (he : PE X e te) (hs : swapsWith e (some (.Attribute o f p')) pos.line X.env = pure false := by rfl) :
    PS X (.Assign [.Attribute o f p'] e pos) (tOs1 X.K f to te) := by
  constructor
  intro pins s σ H D I h
  refine plainObj_wpAny_Assign_Attribute (thn (he.run pins s σ H _ I h) ?_) hs
  rintro v s1 ⟨y, H1, I1, r1, q1⟩
  refine thn (ho.run pins s1 σ H1 _ I1 q1) ?_
  rintro u s2 ⟨x, H2, I2, r2, a, C, ex, T, ea, q⟩
  subst ex
  obtain rfl : u = Value.ref a := r2
  exact ost1 T I2 ea r1 fun dx s' n ne J => ⟨σ, _, J, q dx n ne⟩

/-- C(e) as a value -/
def tMkV (C : Addr) (f : Str) (ta : TA) : TE := fun σ H Q => ta σ H fun vs H1 => ∃ y, vs = [y] ∧
  ∀ a dx, H1 a = none → H1 dx = none → dx ≠ a → Q (.ref a) (upd (upd H1 dx (exd dx [(f, y)])) a (exo a C (some dx)))
/-- C(e), to be raised -/
def tMkR (C : Addr) (f : Str) (ta : TA) : St → Hp → XK → Prop := fun σ H Q => ta σ H fun vs H1 => ∃ y, vs = [y] ∧
  ∀ d, H1 d = none → Q (.ref C) (some d) (upd H1 d (.xd [(f, y)]))

theorem upd_shade {H : Hp} {a b : Addr} {o o1 o2 : HO} (h : b ≠ a) : upd (upd (upd H a o) b o1) a o2 = upd (upd H b o1) a o2 := by
  funext c
  by_cases h1 : c = a
  · rw [h1, upd_same, upd_same]
  rw [upd_ne h1, upd_ne h1]
  by_cases h2 : c = b
  · rw [h2, upd_same, upd_same]
  rw [upd_ne h2, upd_ne h2, upd_ne h1]
theorem del_shade {H : Hp} {a b : Addr} {o o1 o2 : HO} (hn : H a = none) (h : b ≠ a) :
    upd (del (upd (upd H b o1) a o) a) b o2 = upd H b o2 := by
  funext c
  by_cases h2 : c = b
  · rw [h2, upd_same, upd_same]
  rw [upd_ne h2, upd_ne h2]
  by_cases h1 : c = a
  · rw [h1, del_same, hn]
  rw [del_ne h1, upd_ne h1, upd_ne h2]

section
variable {k : Nat} {C fI : Addr} {fd : FuncData} {ps : List Str}
/-- C(e): __init__ has run on the new error -/
theorem own_made {pins : List (Addr × Obj)} {σ : St} {H1 : Hp} {s1 : Shared} {us : List Value} {y : V} {Q : Value → Shared → Prop}
    (T : Oc X.K C f) (iC : PySem.W.findIn X.K (.ref C) "__init__" = some (some (.ref fI)))
    (tI : PySem.W.typeIn X.K (.ref fI) = some (.type "function"))
    (F1 : FnOk X.prog X.w X.K X.mg X.base CX0 k fI fd ps (spIni X.K C f)) (hr : Room (k + 1) X.A) (hb : Binds X.K fd ps [])
    (I1 : Inv X pins σ H1 s1) (r1 : Vals [y] us)
    (h : ∀ (a dx : Addr) (hp2 : Heap) (s' : Shared), H1 a = none → H1 dx = none → dx ≠ a → s1.heap.objs.size ≤ a →
      (∀ b o, s1.heap.get? b = some o → hp2.get? b = some o) →
      Un (frs X.stack) [] (upd H1 a (exo a C none)) (upd (upd H1 dx (exd dx [(f, y)])) a (exo a C (some dx))) hp2 s'.heap →
      HOk X.prog X.w (upd (upd H1 dx (exd dx [(f, y)])) a (exo a C (some dx))) s'.heap → s'.os = s1.os → AllBare s'.gens →
      Inv X pins σ (upd H1 a (exo a C none)) { s1 with heap := hp2 } →
      CE X.stack X.prog X.w (upd H1 a (exo a C none)) { s1 with heap := hp2 }
        (fun v H' => v = .non ∧ H' = upd (upd H1 dx (exd dx [(f, y)])) a (exo a C (some dx))) .none s' → Q (.ref a) s') :
    wpAny (model X.prog X.w) X.A (call (.ref C) us) Q X.xe s1 := by
  obtain ⟨B, newId, initId, bmB, bm, nm, q, N, bs, sn, sub, ab, col, dd, k0, k1, k2, k3, k5, F, TL, hC⟩ := T.made
  obtain ⟨hp, g, dr, tk, os⟩ := s1
  have hsz : hp.objs.size ≤ hp.objs.size + 1 := Nat.le_succ _
  have hn : H1 (hp.objs.size + 1) = none := I1.hok.fresh hsz
  have kk : ∀ b o, hp.get? b = some o →
      ((hp.push (PySem.W.kdv_tup us)).push (PySem.HandSPX.excO C hp.objs.size)).get? b = some o :=
    fun b o e => Heap.get?_push_of_some _ (Heap.get?_push_of_some _ e)
  have hget : ((hp.push (PySem.W.kdv_tup us)).push (PySem.HandSPX.excO C hp.objs.size)).get? (hp.objs.size + 1) =
      some (PySem.HandSPX.excO C hp.objs.size) := by heap_get
  have I2 : Inv X pins σ (upd H1 (hp.objs.size + 1) (exo (hp.objs.size + 1) C none))
      ⟨(hp.push (PySem.W.kdv_tup us)).push (PySem.HandSPX.excO C hp.objs.size), g, dr, tk, os⟩ :=
    I1.laid (t' := tk) (a := hp.objs.size + 1) (o := exo (hp.objs.size + 1) C none) kk hsz (exo_ok hget)
  have r2 : Vals (V.ref (hp.objs.size + 1) :: [y]) (Value.ref (hp.objs.size + 1) :: us) := .cons rfl r1
  have hl1 : us.length = 1 := r1.length.symm
  have hus : us.length ≤ sizeLine := by
    rw [hl1, sizeLine_eq]
    omega
  have bd := hb ⟨(hp.push (PySem.W.kdv_tup us)).push (PySem.HandSPX.excO C hp.objs.size), g, dr, tk, os⟩
    (Value.ref (hp.objs.size + 1) :: us) I2.kIn
  refine wpAny_call (own_called F TL (I1.kIn _ _ hC) (PySem.W.looks_findIn I1.kIn iC)
    (fun self => PySem.W.bind_fn I1.kIn self tI) hus ?_)
  have sp0 : spIni X.K C f [.ref (hp.objs.size + 1), y] (upd H1 (hp.objs.size + 1) (exo (hp.objs.size + 1) C none))
      (fun v H' => ∃ dx, v = .non ∧ H1 dx = none ∧ dx ≠ hp.objs.size + 1 ∧
        H' = upd (upd H1 dx (exd dx [(f, y)])) (hp.objs.size + 1) (exo (hp.objs.size + 1) C (some dx))) E0 := by
    refine ⟨_, y, rfl, T, upd_same, ?_⟩
    intro dx n ne
    rw [upd_ne ne] at n
    exact ⟨dx, rfl, n, ne, upd_shade ne⟩
  have hl : (Value.ref (hp.objs.size + 1) :: us ++ []).length = ps.length := by
    rw [List.append_nil]
    exact r2.length.symm.trans (F1.len _ _ _ _ sp0)
  have bd' := bd hl
  rw [List.append_nil] at bd'
  refine codeAny_mono (F1.run _ X.stack _ _ ⟨Value.ref (hp.objs.size + 1) :: us, []⟩ (Value.ref (hp.objs.size + 1) :: us) _ _
    E0 (hr.make C us []) (I2.env0.make C us []) bd' r2 sp0) ?_
  intro r s' hq'
  cases r with
  | error er => exact hq'.elim
  | ok fl =>
    cases fl with
    | ret u =>
      obtain ⟨v, H2, os2, bare2, un2, hok2, rv, dx, ev, nx, ne, eH⟩ := hq'
      subst ev
      subst eH
      obtain rfl : u = Value.none := rv
      refine ⟨rfl, h _ dx _ s' hn nx ne hsz kk un2 hok2 os2 bare2 I2 ⟨.non, _, os2, bare2, un2, hok2, rfl, rfl, rfl⟩⟩
    | next => exact hq'.elim
    | brk => exact hq'.elim
    | cont => exact hq'.elim

theorem pe_mkv (T : Oc X.K C f) (iC : PySem.W.findIn X.K (.ref C) "__init__" = some (some (.ref fI)))
    (tI : PySem.W.typeIn X.K (.ref fI) = some (.type "function"))
    (F1 : FnOk X.prog X.w X.K X.mg X.base CX0 k fI fd ps (spIni X.K C f)) (hr : Room (k + 1) X.A) (hb : Binds X.K fd ps [])
    (hg : Gl X x) (hm : X.mg x = some (.ref C)) (ha : PA X [e] ta)
    (hdb : (x == ("__debug__" : Str)) = false := by decide)
    (he : starEach [e] X.env = (false, eval e X.env) :: starEach [] X.env := by rfl)
    (hpl : (backTo pos (starEach [] X.env)).any (·.1) = false := by rfl) :
    PE X (.Call (.Name x p) [e] [] pos) (tMkV C f ta) := by
  constructor
  intro pins s σ H Q I h
  refine wpAny_Call_Name_kw (ld_glob I hg hm ?_ hdb)
  refine PySem.W.callWith_K (h₀ := X.base) I.ok.mod.kin T.kC (thn (ha.run pos pins s σ H _ I h) ?_) he hpl
  rintro us s1 ⟨vs, H1, I1, r1, y, rfl, q1⟩
  refine ⟨I1.kIn, ?_⟩
  show wpAny _ _ (call (.ref C) us) _ _ _
  refine own_made T iC tI F1 hr hb I1 r1 ?_
  intro a dx hp2 s' na nd ne _ _ _ _ _ _ I2 ce
  obtain ⟨v, H', J, rv, ev, eH⟩ := I2.after ce
  subst eH
  exact ⟨.ref a, _, J, rfl, q1 a dx na nd ne⟩

theorem pmk_mkr (T : Oc X.K C f) (iC : PySem.W.findIn X.K (.ref C) "__init__" = some (some (.ref fI)))
    (tI : PySem.W.typeIn X.K (.ref fI) = some (.type "function"))
    (F1 : FnOk X.prog X.w X.K X.mg X.base CX0 k fI fd ps (spIni X.K C f)) (hr : Room (k + 1) X.A) (hb : Binds X.K fd ps [])
    (hg : Gl X x) (hm : X.mg x = some (.ref C)) (ha : PA X [e] ta)
    (hdb : (x == ("__debug__" : Str)) = false := by decide)
    (he : starEach [e] X.env = (false, eval e X.env) :: starEach [] X.env := by rfl)
    (hpl : (backTo pos (starEach [] X.env)).any (·.1) = false := by rfl) :
    PMk X (.Call (.Name x p) [e] [] pos) (tMkR C f ta) := by
  intro pins s σ H Q I h
  refine wpAny_Call_Name_kw (ld_glob I hg hm ?_ hdb)
  refine PySem.W.callWith_K (h₀ := X.base) I.ok.mod.kin T.kC (thn (ha.run pos pins s σ H _ I h) ?_) he hpl
  rintro us s1 ⟨vs, H1, I1, r1, y, rfl, q1⟩
  refine ⟨I1.kIn, ?_⟩
  show wpAny _ _ (call (.ref C) us) _ _ _
  refine own_made T iC tI F1 hr hb I1 r1 ?_
  intro a dx hp2 s' na nd ne hsz kk un hok eo ba I2 ce
  obtain ⟨hp1, g1, d1, t1, os1⟩ := s1
  obtain ⟨h2, g2, d2, t2, os2⟩ := s'
  refine mk_end (fs := [(f, y)]) (raises_own T.exC T.tyC) I1 hsz kk un hok eo ba upd_same ?_ nd ?_
  · rw [upd_ne ne, upd_same]
  · rw [del_shade na ne]
    exact q1 dx nd
end
end
end LP

set_option Elab.async false
set_option linter.all false
set_option maxRecDepth 100000
set_option maxHeartbeats 4000000
/-! LPY: errors of own classes as values: isinstance, what they keep; try with several clauses, named or not. -/
namespace LP
open PySem PySem.Spec L2
open PyProof.Rows hiding St

/-! ### isinstance of an error -/
/-- at a stands an error of the class C: tracked, or pinned -/
def XAt (pn : List (Addr × Obj)) (H : Hp) (a C : Addr) : Prop :=
  (H a = some (exo a C none)) ∨ (∃ dd fs, H a = some (exo a C (some dd)) ∧ H dd = some (exd dd fs)) ∨
    ∃ oe, (a, oe) ∈ pn ∧ Zc (.ref C) none oe ∧ ∃ vs, oe.data = .fields vs
def rIsX (K : PySem.W.Frag) (pn : List (Addr × Obj)) : List V → Hp → VK → Prop := fun xs H Q =>
  ∃ (a C : Addr) (c : V) (cv : Value) (b : Bool), xs = [.ref a, c] ∧ ClsV c cv ∧ ExcC K C ∧ XAt pn H a C ∧
    PySem.W.kitOne K (.ref C) cv = some b ∧ Q (.bl b) H

section
variable {X : Cx} {pins : List (Addr × Obj)} {σ : St} {H : Hp} {s : Shared} {a C : Addr}
theorem XAt.inst (I : Inv X pins σ H s) (h : XAt X.pn H a C) : ∃ ox od, PySem.W.InstAt s.heap a ox C od := by
  rcases h with h | ⟨dd, fs, h, hd⟩ | ⟨oe, hm, hz, vs, hv⟩
  · obtain ⟨t1, ho⟩ := exo_at I.hok h
    exact ⟨_, none, ho, rfl, rfl, trivial⟩
  · obtain ⟨t1, ho⟩ := exo_at I.hok h
    obtain ⟨mA, ⟨o, es, ep, e, _⟩, _⟩ := exd_at I.hok hd
    exact ⟨_, some o, ho, rfl, rfl, e⟩
  · obtain ⟨hg, _⟩ := I.pin (a, oe) (List.mem_append_left _ hm)
    obtain ⟨oc, od, oda, osl⟩ := oe
    obtain ⟨h1, h2⟩ := hz
    dsimp only at h1 h2 hv
    subst h1 h2 hv
    exact ⟨_, none, hg, rfl, rfl, trivial⟩

theorem call_isX : CallR X (.builtin "isinstance") (rIsX X.K X.pn) := by
  intro pins s σ H xs us Q I r h
  obtain ⟨a, C, c, cv, b, rfl, k, T, hx, e, q⟩ := h
  obtain ⟨u1, u2, rfl, r1, r2⟩ := vals2 r
  obtain rfl := k.eq r2
  cases (show u1 = Value.ref a from r1)
  obtain ⟨ox, od, J⟩ := hx.inst I
  obtain ⟨cd, hc, _⟩ := PySem.W.any_some T.hd
  have hcl : (PySem.W.clsIn X.K C).isSome = true := by
    rw [hc]
    rfl
  refine PySem.W.kia_one (PySem.W.kitx_exc hcl T.hg T.hk T.hs T.ha T.hn T.ht T.hm) I.kIn J e (fun z => nomatch z) ?_
  intro tk
  exact ⟨.bl b, H, I.tok tk, rfl, q⟩

/-! ### what a tracked error keeps -/
def tXv (K : PySem.W.Frag) (n : Str) (te : TE) : TE := fun σ H Q => te σ H fun x H1 => ∃ (a C d : Addr) (fs : List (Str × V)) (v : V),
  x = .ref a ∧ XfC K C ∧ PySem.W.findIn K (.ref C) n = some none ∧ H1 a = some (exo a C (some d)) ∧ H1 d = some (exd d fs) ∧
    fs.lookup n = some v ∧ Q v H1
theorem pe_xv {e : Expr} {te : TE} {pos : Pos} {n : Str} (he : PE X e te)
    (hb : attributeBase e n X.env (eval e X.env) = eval e X.env := by rfl) :
    PE X (.Attribute e n pos) (tXv X.K n te) := by
  constructor
  intro pins s σ H Q I h
  refine attr_of hb (thn (he.run pins s σ H _ I h) ?_)
  rintro u s1 ⟨x, H1, I1, rx, a, C, d, fs, v, ex, T, hno, ha, hd, l, q⟩
  subst ex
  obtain rfl : u = Value.ref a := rx
  obtain ⟨t1, ho⟩ := exo_at I1.hok ha
  obtain ⟨mA, hn1, rel⟩ := exd_at I1.hok hd
  obtain ⟨od, hod, hl⟩ := lookIn_ns hn1
  obtain ⟨u, hu, ru⟩ := RelO.some_of (v := v) (o := mA n) (by rw [← l]; exact rel n)
  have J : PySem.W.InstAt s1.heap a _ C (some od) := ⟨ho, rfl, rfl, hod⟩
  have fo := PySem.W.findObj_own T.hdC hno rfl (od := od) (v := u) (by rw [hl, hu])
  exact HandSPX.exc_get I1.kIn J T.ga T.gg T.exC fo (handed_of ru) ⟨v, H1, I1.tok _, ru, q⟩

/-! ### an error without own __init__, as a value -/
theorem pe_mk0 {bmB : List Value} {B newId initId : String} {x : Str} {e : Expr} {ta : TE} {p pos : Pos}
    (F : ExcBaseFacts B newId initId bmB) (q : PySem.W.excIn X.K C bmB newId = true) (gC : X.mg x = some (.ref C))
    (kC : PySem.W.keepIn X.K (.ref C) = true) (hg : Gl X x) (he : PE X e ta)
    (hs : starEach [e] X.env = (false, eval e X.env) :: starEach [] X.env := by rfl)
    (hdb : (x == ("__debug__" : Str)) = false := by decide) :
    PE X (.Call (.Name x p) [e] [] pos)
      (fun σ H Q => ta σ H fun _ H1 => ∀ a, H1 a = none → Q (.ref a) (upd H1 a (exo a C none))) := by
  constructor
  intro pins s σ H Q I h
  refine wpAny_Call_Name_kw (ld_glob I hg gC ?_ hdb)
  refine PySem.W.callWith_K (h₀ := X.base) I.ok.mod.kin kC ?_ hs (by rfl)
  rw [hs]
  show wpAny _ _ (spliced ((false, eval e X.env) :: backTo pos (starEach [] X.env))) _ _ s
  refine Calls.spliced_cons (thn (he.run pins s σ H _ I h) ?_)
  rintro u s1 ⟨v, H1, I1, r1, q1⟩
  refine Calls.spliced_nil ⟨I1.kIn, ?_⟩
  show wpAny _ _ (call (.ref C) [u]) _ _ _
  obtain ⟨bm, N, nm, qn, bs, hdct, sn, sub, ab, col, dd, k0, k1, k2, k3, k5, mN, hC, hN, hni, T⟩ := exc_obj I1.kIn q
  refine wpAny_call_exc_subT F T hC hN hni ?_ (by show 1 ≤ sizeLine; rw [sizeLine_eq]; omega)
  intro h' a hm
  have hn : H1 a = none := I1.hok.gone hm.new
  obtain ⟨t, ht, _, _⟩ := hm.there
  exact ⟨.ref a, _, I1.laidN hm.keeps hm.new hn (exo_ok ht), rfl, q1 a hn⟩
end

/-! ### try with several clauses, each with a name or without -/
abbrev Ts3 := Addr → Value → Option Addr → TS
/-- the ends of a suite behind which slot i is empty -/
def Ends.off (D : Ends) (i : Nat) : Ends :=
  { nx := fun σ H => D.nx (σ.set i none) H, rt := D.rt, bk := fun σ H => D.bk (σ.set i none) H, ct := fun σ H => D.ct (σ.set i none) H }
def wCl (K : PySem.W.Frag) (Wout : WX) (D : Ends) : List (Value × Option Nat × Ts3) → WX
  | [] => Wout
  | (c, none, ts) :: r => fun cls d σ H => ∃ b, PySem.W.exmOne K cls c = some b ∧
      (b = true → ∀ a, H a = none → ts a cls d D σ H) ∧ (b = false → wCl K Wout D r cls d σ H)
  | (c, some i, ts) :: r => fun cls d σ H => ∃ b, PySem.W.exmOne K cls c = some b ∧
      (b = true → ∀ a, H a = none → ts a cls d (Ends.off D i) (σ.set i (some (.ref a))) H) ∧ (b = false → wCl K Wout D r cls d σ H)
/-- a suite, whatever error it is that is caught -/
def Suit (X : Cx) (ss : List Stmt) (ts : Ts3) : Prop := ∀ (a : Addr) (oe : Obj) (cls : Value) (d : Option Addr) (pn : List (Addr × Obj)),
  Zc cls d oe → (∃ vs, oe.data = .fields vs) → PSs (X.suite a ((a, oe) :: pn)) ss (ts a cls d)
inductive Cls3 (X : Cx) : List ExceptHandler → List (Value × Option Nat × Ts3) → Prop
  | nil : Cls3 X [] []
  | bare {x : Str} {c : Value} {ts : Ts3} {b₀ : Stmt} {suite : List Stmt} {np pos : Pos} {hds : List ExceptHandler}
      {l : List (Value × Option Nat × Ts3)} (hc : Names X x c) (hsu : Suit X (b₀ :: suite) ts) (r : Cls3 X hds l) :
      Cls3 X (.ExceptHandler (some (.Name x np)) none (b₀ :: suite) pos :: hds) ((c, none, ts) :: l)
  | named {x n : Str} {i : Nat} {c : Value} {ts : Ts3} {b₀ : Stmt} {suite : List Stmt} {np pos : Pos} {hds : List ExceptHandler}
      {l : List (Value × Option Nat × Ts3)} (hN : X.N.Nodup) (hi : X.N[i]? = some n) (hln : X.env.kindOf n = some .local)
      (hc : Names X x c) (hsu : Suit X (b₀ :: suite) ts) (r : Cls3 X hds l) :
      Cls3 X (.ExceptHandler (some (.Name x np)) (some n) (b₀ :: suite) pos :: hds) ((c, some i, ts) :: l)

section
variable {X : Cx} {body : List Stmt} {h₀ : ExceptHandler} {hds : List ExceptHandler} {l : List (Value × Option Nat × Ts3)} {pos : Pos}
  {tb : WX → TS} {Wout : WX}
theorem ps_try3 (hs : X.stack = X.env :: X.outer) (hf : X.env.frame = some X.env.locals) (tk : Takes X Wout)
    (hb : ∀ (W : WX) (pn : List (Addr × Obj)) (xe : Value → Shared → Prop), Takes (X.tr pn xe) W →
      PassesOwn (model X.prog X.w) X.A X.env xe → PSs (X.tr pn xe) body (tb W))
    (hh : Cls3 X (h₀ :: hds) l) :
    PS X (.Try body (h₀ :: hds) [] [] pos) (fun D σ H => tb (wCl X.K Wout D l) D σ H) := by
  constructor
  intro pins s σ H D I h
  have ok := I.ok
  have hfr : X.A.frames = some (X.env :: X.outer) := by
    rw [ok.frames, hs]
  refine wpAny_Try_except ?_
  have run := hb (wCl X.K Wout D l) (X.pn ++ pins)
    (fun e s₁ => wpAny (model X.prog X.w) X.A (noteFrame e X.env) (fun _ s₂ => wpAny (model X.prog X.w) X.A (setFlight e none)
      (fun _ s₃ => wpAny (model X.prog X.w) X.A (handleBy e X.env (h₀ :: hds)) (SP X pins D) X.xe s₃) X.xe s₂) X.xe s₁)
    ?_ PassesOwn.looking
  refine wpAny_mono (run.run [] s σ H D (I.toTry _) h) ?_ (fun _ _ z => z)
  · intro fl s1 hsp
    cases fl with
    | next =>
      obtain ⟨σ', H', J', q⟩ := hsp
      exact wpAny_execs_nil ⟨σ', H', J'.ofTry ok, q⟩
    | brk =>
      obtain ⟨σ', H', J', q⟩ := hsp
      exact ⟨σ', H', J'.ofTry ok, q⟩
    | cont =>
      obtain ⟨σ', H', J', q⟩ := hsp
      exact ⟨σ', H', J'.ofTry ok, q⟩
    | ret u =>
      obtain ⟨v, σ', H', J', r, q⟩ := hsp
      exact ⟨v, σ', H', J'.ofTry ok, r, q⟩
  rintro u s' ⟨a, B, sI, pins', σ', H', cls, d, rfl, J', nb, up, sky, na, os, ag, w0⟩
  have J : Inv X pins σ' H' sI := J'.ofTry ok
  have sky' : Sky B (X.env :: X.outer) a (Zc cls d) X.env.locals s'.heap := by
    rw [← hs]
    exact sky
  show wpAny (model X.prog X.w) X.A (noteFrame (.ref a) X.env) _ _ _
  refine Sky.land Zc.steady hfr hf sky' ?_
  intro h3 fl3 up3
  have J3 : Inv X pins σ' H' { s' with heap := h3 } := J.landed nb fl3.1 (up.trans up3) os ag
  obtain ⟨oe3, vs3, he3, hz3, hd3⟩ := fl3.there
  have nfr : a ∉ frs (X.env :: X.outer) := by
    intro hm
    obtain ⟨_, o', e', hnf⟩ := fl3.2.2.1.mem hm
    rw [he3] at e'
    cases e'
    exact hnf _ hd3
  have nL : a ≠ X.env.locals := by
    intro z
    exact nfr (List.mem_filterMap.mpr ⟨X.env, List.mem_cons_self, by rw [hf, z]⟩)
  have nF : a ∉ X.fs := by
    intro hm
    obtain ⟨e, he, q⟩ := List.mem_filterMap.mp hm
    exact nfr (List.mem_filterMap.mpr ⟨e, List.mem_cons_of_mem _ he, q⟩)
  have S3 := J3.suite he3 hd3 na nL nF
  have LT : PySem.W.Looks (model X.prog X.w) h3 (typeOf (.ref a)) cls := by
    intro A Q E s k q
    exact wpAny_typeOf_ref (k _ _ he3) (by rw [hz3.1]; exact q)
  have test : ∀ {x : Str} {np : Pos} {c : Value} {Q : Value → Shared → Prop} {E : Value → Shared → Prop}, Names X x c →
      Q c { s' with heap := h3 } →
      wpAny (model X.prog X.w) (X.A.mark (some (.ref a))) (eval (.Name x np) X.env) Q E { s' with heap := h3 } := by
    intro x np c Q E hc q
    obtain ⟨hg, hdbg, hm | ⟨hm, hv, hnn⟩⟩ := hc
    · exact ld_glob (X := X.suite a ((a, oe3) :: (X.pn ++ pins))) S3 hg hm q hdbg
    · exact ld_blt (X := X.suite a ((a, oe3) :: (X.pn ++ pins))) S3 hg hm hv q hnn hdbg
  have go : ∀ {hds' : List ExceptHandler} {l' : List (Value × Option Nat × Ts3)}, Cls3 X hds' l' → wCl X.K Wout D l' cls d σ' H' →
      wpAny (model X.prog X.w) X.A (handleBy (.ref a) X.env hds') (SP X pins D) X.xe { s' with heap := h3 } := by
    intro hds' l' hk
    induction hk with
    | nil =>
      intro w
      refine wpAny_handleBy_nil ?_
      obtain ⟨k1, k2, k3, oe, vs, T, oT, ts', he, hz, hd, h1, hr⟩ := id fl3
      unfold PySem.passOn
      refine wpAny_bind (wpAny_field he hd h1 ?_)
      rw [if_neg (show ¬ ((Value.ref T == Value.none) = true) by simp)]
      have fin : wpAny (model X.prog X.w) X.A (setFlight (.ref a) X.env.frame)
          (fun _ s4 => wpAny (model X.prog X.w) X.A (throw (.ref a) : Sem Flow) (SP X pins D) X.xe s4) X.xe { s' with heap := h3 } := by
        rw [hf]
        refine HandSPX.setFlight_upZ fl3 ?_
        intro h4 hh4 up4
        refine wpAny_throw (tk _ _ ?_)
        refine ⟨a, B, sI, pins, σ', H', cls, d, rfl, J, nb, (up.trans up3).trans up4, .inr (.inr ?_), na, os, ag, w⟩
        rw [hs]
        exact hh4
      first
        | exact wpAny_bind (wpAny_pure (wpAny_bind fin))
        | exact wpAny_bind fin
    | @bare x c ts b₀ suite np pos' hds2 l2 hc hsu r ih =>
      rintro ⟨b, hb1, hyes, hno⟩
      refine wpAny_handleBy_cons (codeAny_handlers_test ?_) (by intro q; cases q)
      refine test hc ((PySem.W.exm_one (M := model X.prog X.w) J3.kIn LT hb1).here ?_)
      cases b with
      | false =>
        show wpAny _ X.A (handleBy (.ref a) X.env hds2) _ _ _
        exact ih (hno rfl)
      | true =>
        refine codeAny_handlers_suite (HandSPX.lands_againZ fl3 ?_)
        intro h4 fl4 up4
        have J4 : Inv X pins σ' H' { s' with heap := h4 } := J.landed nb fl4.1 ((up.trans up3).trans up4) os ag
        obtain ⟨oe4, vs4, he4, hz4, hd4⟩ := fl4.there
        have S4 := J4.suite he4 hd4 na nL nF
        refine wpAny_mono ((hsu a oe4 cls d (X.pn ++ pins) hz4 ⟨_, hd4⟩).run [] _ _ H' _ S4 (hyes rfl a na)) ?_ (fun _ _ z => z.elim)
        intro f s6 hsp
        cases f with
        | ret u =>
          obtain ⟨v6, σ6, H6, S6, r6, q6⟩ := hsp
          exact ⟨_, _, _, S6.unsuite ok, r6, q6⟩
        | next =>
          obtain ⟨σ6, H6, S6, q6⟩ := hsp
          exact ⟨_, _, S6.unsuite ok, q6⟩
        | brk =>
          obtain ⟨σ6, H6, S6, q6⟩ := hsp
          exact ⟨_, _, S6.unsuite ok, q6⟩
        | cont =>
          obtain ⟨σ6, H6, S6, q6⟩ := hsp
          exact ⟨_, _, S6.unsuite ok, q6⟩
    | @named x n i c ts b₀ suite np pos' hds2 l2 hN hi hln hc hsu r ih =>
      rintro ⟨b, hb1, hyes, hno⟩
      refine wpAny_handleBy_cons (codeAny_handlers_test ?_) (by intro q; cases q)
      refine test hc ((PySem.W.exm_one (M := model X.prog X.w) J3.kIn LT hb1).here ?_)
      cases b with
      | false =>
        show wpAny _ X.A (handleBy (.ref a) X.env hds2) _ _ _
        exact ih (hno rfl)
      | true =>
        refine codeAny_handlers_suite_as (HandSPX.lands_againZ fl3 ?_)
        intro h4 fl4 up4
        have J4 : Inv X pins σ' H' { s' with heap := h4 } := J.landed nb fl4.1 ((up.trans up3).trans up4) os ag
        obtain ⟨oe4, vs4, he4, hz4, hd4⟩ := fl4.there
        have S4 := J4.suite he4 hd4 na nL nF
        refine store_ok (X := X.suite a ((a, oe4) :: (X.pn ++ pins))) (v := .ref a) S4 hN hi (.inl hln) rfl ?_ (.inr hln)
        intro s5 S5
        refine wpAny_mono ((hsu a oe4 cls d (X.pn ++ pins) hz4 ⟨_, hd4⟩).run [] s5 _ H' _ S5 (hyes rfl a na)) ?_ (fun _ _ z => z.elim)
        intro f s6 hsp
        have bye : ∀ {σ6 : St} {H6 : Hp} {Q : Shared → Prop}, Inv (X.suite a ((a, oe4) :: (X.pn ++ pins))) [] σ6 H6 s6 →
            (∀ s7, Inv X pins (σ6.set i none) H6 s7 → Q s7) →
            wpAny (model X.prog X.w) X.A (do bindName X.env n .none; unbindBehindTheSuite X.env n pos') (fun _ s7 => Q s7) X.xe s6 :=
          fun S6 hq => gone_ok (S6.unsuite ok) hN hi hln hq
        cases f with
        | ret u =>
          obtain ⟨v6, σ6, H6, S6, r6, q6⟩ := hsp
          exact bye S6 fun s7 J7 => ⟨_, _, _, J7, r6, q6⟩
        | next =>
          obtain ⟨σ6, H6, S6, q6⟩ := hsp
          exact bye S6 fun s7 J7 => ⟨_, _, J7, q6⟩
        | brk =>
          obtain ⟨σ6, H6, S6, q6⟩ := hsp
          exact bye S6 fun s7 J7 => ⟨_, _, J7, q6⟩
        | cont =>
          obtain ⟨σ6, H6, S6, q6⟩ := hsp
          exact bye S6 fun s7 J7 => ⟨_, _, J7, q6⟩
  exact go hh w0
end
end LP

set_option Elab.async false
set_option linter.all false
set_option maxRecDepth 100000
set_option maxHeartbeats 4000000
/-! LPZ: data with dicts and its repr; defs that are called while an error is handled; facts of own errors' classes. -/
namespace LP
open PySem PySem.Spec L2
open PyProof.Rows hiding St

/-! ### data, dicts among it; z: no list of it lies where sys.modules does -/
def keyD : Key → PyData
  | .inl i => .int i
  | .inr x => .str x
mutual
inductive Dd (z : Prop) (H : Hp) : V → PyData → Prop
  | non : Dd z H .non .none
  | bl (b : Bool) : Dd z H (.bl b) (.bool b)
  | int (i : Int) : Dd z H (.int i) (.int i)
  | str (x : Str) : Dd z H (.str x) (.str x)
  | lst {a : Addr} {xs : List V} {ds : List PyData} : H a = some (.lst xs) → (z → a ≠ sysModules) → DdA z H xs ds → Dd z H (.ref a) (.list ds)
  | tup {a : Addr} {xs : List V} {ds : List PyData} : H a = some (.tup xs) → DdA z H xs ds → Dd z H (.ref a) (.tuple ds)
  | dct {a : Addr} {kvs : List (Key × V)} {ds : List PyData} {ps : List (PyData × PyData)} : H a = some (.dK kvs) →
      DdA z H (kvs.map (·.2)) ds → ps.map (·.1) = kvs.map (fun p => keyD p.1) → ps.map (·.2) = ds → Dd z H (.ref a) (.dict ps)
inductive DdA (z : Prop) (H : Hp) : List V → List PyData → Prop
  | nil : DdA z H [] []
  | cons {v : V} {vs : List V} {d : PyData} {ds : List PyData} : Dd z H v d → DdA z H vs ds → DdA z H (v :: vs) (d :: ds)
end

section
variable {z : Prop} {H H' : Hp}
mutual
theorem Dd.same (e : Same H H') : ∀ (d : PyData) (v : V), Dd z H v d → Dd z H' v d
  | _, _, .non => .non
  | _, _, .bl b => .bl b
  | _, _, .int i => .int i
  | _, _, .str x => .str x
  | .list ds, _, .lst h n hs => .lst (e _ _ h) n (DdA.same e ds _ hs)
  | .tuple ds, _, .tup h hs => .tup (e _ _ h) (DdA.same e ds _ hs)
  | .dict ps, _, .dct (ds := ds) h hs h1 h2 => .dct (e _ _ h) (DdA.same e ds _ hs) h1 h2
termination_by structural _ _ h => h
theorem DdA.same (e : Same H H') : ∀ (ds : List PyData) (vs : List V), DdA z H vs ds → DdA z H' vs ds
  | _, _, .nil => .nil
  | d :: ds, _, .cons h hs => .cons (Dd.same e d _ h) (DdA.same e ds _ hs)
termination_by structural _ _ h => h
end
end

section
variable {X : Cx} {pins : List (Addr × Obj)} {σ : St} {H : Hp} {s : Shared} {z : Prop}
theorem reads_keys {P : Program} {w : World} (hp : Heap) {es : List DictEntry} {kvs : List (Key × Value)} (h : Pairs (mixKind P w) es kvs) :
    ReadsAll hp (es.map (·.key)) (kvs.map fun p => keyD p.1) [] := by
  induction h with
  | nil => exact .nil
  | @cons e kv es kvs h1 h2 h3 ih =>
    obtain ⟨k, v⟩ := kv
    have one : Reads hp e.key (keyD k) [] := by
      rcases keyIs_shape h1 with ⟨i, t, q, e1⟩ | ⟨x, t, q, e1⟩
      · rw [e1, show k = Sum.inl i from q]
        exact .int i t
      · rw [e1, show k = Sum.inr x from q]
        exact .str x t
    exact .cons (as := []) (bs := []) one ih
theorem pairs_vals {P : Program} {w : World} {es : List DictEntry} {kvs : List (Key × Value)} (h : Pairs (mixKind P w) es kvs) :
    es.map (·.val) = kvs.map (·.2) := by
  induction h with
  | nil => rfl
  | cons h1 h2 h3 ih => rw [List.map_cons, List.map_cons, h2, ih]
theorem kv_parts {kvs : List (Key × V)} {vs : List (Key × Value)} (r : KV kvs vs) :
    kvs.map (fun p => keyD p.1) = vs.map (fun p => keyD p.1) ∧ Vals (kvs.map (·.2)) (vs.map (·.2)) := by
  induction r with
  | nil => exact ⟨rfl, .nil⟩
  | cons h t ih =>
    obtain ⟨h1, h2⟩ := h
    refine ⟨?_, .cons h2 ih.2⟩
    rw [List.map_cons, List.map_cons, ih.1, h1]
mutual
theorem Dd.reads (I : Inv X pins σ H s) : ∀ (d : PyData) (v : V) (u : Value), Dd z H v d → RelV v u → ∃ as, Reads s.heap u d as ∧ (z → sysModules ∉ as)
  | _, _, u, .non, r => by
    cases r
    exact ⟨_, .none, fun _ => by simp⟩
  | _, _, u, .bl b, r => by
    cases r
    exact ⟨_, .bool b, fun _ => by simp⟩
  | _, _, u, .int i, r => by
    obtain ⟨t, rfl⟩ := r
    exact ⟨_, .int i t, fun _ => by simp⟩
  | _, _, u, .str x, r => by
    obtain ⟨t, rfl⟩ := r
    exact ⟨_, .str x t, fun _ => by simp⟩
  | .list ds, .ref a, u, .lst h n hs, r => by
    cases r
    obtain ⟨its, rv, ⟨o, n', ho, hc, _, hd⟩, _⟩ := I.list (SqL.of h)
    obtain ⟨as, hr, hz⟩ := DdA.reads I ds _ its hs rv
    refine ⟨_, Reads.list ho hc hd hr, fun q => ?_⟩
    intro hm
    rcases List.mem_cons.mp hm with e | e
    · exact n q e.symm
    · exact hz q e
  | .tuple ds, .ref a, u, .tup h hs, r => by
    cases r
    obtain ⟨its, rv, ⟨o, ho, hc, n, hd⟩, _⟩ := I.tuple (SqT.of h)
    obtain ⟨as, hr, hz⟩ := DdA.reads I ds _ its hs rv
    exact ⟨_, Reads.tuple ho hc hd hr, hz⟩
  | .dict ps, .ref a, u, .dct (kvs := kvs) (ds := ds) h hs h1 h2, r => by
    cases r
    obtain ⟨_, hsm, vs, rel, o, es, ep, ho, hx, hd, _, hp, _⟩ := (show ObjOk X.prog X.w H s.heap a (.dK kvs) from I.hok a _ h)
    obtain ⟨k1, k2⟩ := kv_parts rel
    obtain ⟨as, hr, hz⟩ := DdA.reads I ds _ _ hs k2
    refine ⟨_, Reads.dict (as := []) (bs := as) ho hx.1 hd ?_ ?_, fun q hm => ?_⟩
    · rw [h1, k1]
      exact reads_keys s.heap hp
    · rw [h2, pairs_vals hp]
      exact hr
    · rcases List.mem_cons.mp hm with e | e
      · rw [e, beq_self_eq_true] at hsm
        cases hsm
      · exact hz q e
termination_by structural _ _ _ h => h
theorem DdA.reads (I : Inv X pins σ H s) : ∀ (ds : List PyData) (vs : List V) (us : List Value), DdA z H vs ds → Vals vs us → ∃ as, ReadsAll s.heap us ds as ∧ (z → sysModules ∉ as)
  | _, _, us, .nil, r => by
    cases r
    exact ⟨_, .nil, fun _ => by simp⟩
  | d :: ds, _, us, .cons h hs, r => by
    cases r with
    | cons r1 r2 =>
      obtain ⟨as, q1, z1⟩ := Dd.reads I d _ _ h r1
      obtain ⟨bs, q2, z2⟩ := DdA.reads I ds _ _ hs r2
      refine ⟨_, .cons q1 q2, fun q hm => ?_⟩
      rcases List.mem_append.mp hm with e | e
      · exact z1 q e
      · exact z2 q e
termination_by structural _ _ _ h => h
end

/-- repr of data -/
def rReprZ : List V → Hp → VK → Prop := fun xs H Q => ∃ x d, xs = [x] ∧ Dd (d.hasDict = true) H x d ∧ d.showable = true ∧ d.depth ≤ 60 ∧
  d.shown.length ≤ sizeLine ∧ Q (.str d.shown) H
theorem call_reprZ (gd : X.A.guards = some []) (hu : X.A.units + 64 < cLine) : CallR X (.builtin "repr") rReprZ := by
  intro pins s σ H xs us Q I r h
  obtain ⟨x, d, rfl, hd, hs, hz, hl, q⟩ := h
  obtain ⟨u, rfl, r1⟩ := vals1 r
  obtain ⟨as, rd, na⟩ := Dd.reads I d x u hd r1
  cases rd with
  | none => exact PySem.P.repr_of_none ⟨.str _, H, I.tok _, ⟨_, rfl⟩, q⟩
  | bool b => exact PySem.P.repr_of_bool ⟨.str _, H, I.tok _, ⟨_, rfl⟩, q⟩
  | int i t =>
    have hi : i.natAbs.log2 < 1920 := by simpa [PyData.showable] using hs
    exact PySem.P.repr_of_int hi ⟨.str _, H, I.tok _, ⟨_, rfl⟩, q⟩
  | str y t => exact PySem.P.repr_of_str ⟨.str _, H, I.tok _, ⟨_, rfl⟩, q⟩ hl
  | list h1 h2 h3 h4 =>
    exact repr_of_reads' (.list h1 h2 h3 h4) hs na gd (by omega) (fun _ _ e => e) (fun h' v tk hk => ⟨.str _, H, I.kept hk, ⟨_, rfl⟩, q⟩) hl
  | tuple h1 h2 h3 h4 =>
    exact repr_of_reads' (.tuple h1 h2 h3 h4) hs na gd (by omega) (fun _ _ e => e) (fun h' v tk hk => ⟨.str _, H, I.kept hk, ⟨_, rfl⟩, q⟩) hl
  | dict h1 h2 h3 h4 h5 =>
    exact repr_of_reads' (.dict h1 h2 h3 h4 h5) hs na gd (by omega) (fun _ _ e => e) (fun h' v tk hk => ⟨.str _, H, I.kept hk, ⟨_, rfl⟩, q⟩) hl

/-- list + list: the new one does not lie where sys.modules does -/
def rCatX : R2 := fun x y H Q => ∃ l b xs zs, x = .ref l ∧ y = .ref b ∧ H l = some (.lst xs) ∧ H b = some (.lst zs) ∧
  xs.length + zs.length ≤ sizeLine ∧ ∀ p, p ≠ sysModules → H p = none → Q (.ref p) (upd H p (.lst (xs ++ zs)))
theorem op_catX : OpR X (binaryOp .Add) rCatX := by
  intro pins s σ H x y v u Q I rx ry h
  obtain ⟨l, b, xs, zs, rfl, rfl, hH, hB, hz, q⟩ := h
  cases rx
  cases ry
  obtain ⟨z, its, n, r, hl, e⟩ := I.lstM hH
  obtain ⟨z2, its2, n2, r2, hl2, e2⟩ := I.lstM hB
  refine PySem.P.add_list e e2 ?_ (by rw [List.size_toArray, List.size_toArray]; omega)
  rw [show its.toArray ++ its2.toArray = (its ++ its2).toArray by simp]
  refine ⟨.ref _, _, I.lnew (t' := s.toks) (r.append r2) ?_, rfl, q _ (Nat.ne_of_gt I.big) I.fresh⟩
  rw [List.length_append]
  omega
end

/-! ### defs that are called while an error is handled: the error is pinned -/
structure FnP (P : Program) (w : World) (K : PySem.W.Frag) (mg : Str → Option Value) (base : Heap) (CX : CXT)
    (k : Nat) (f : Addr) (fd : FuncData) (ps : List Str) (sp : Addr → Value → Option Addr → Sp) : Prop where
  len : ∀ a c d vs H Q E, sp a c d vs H Q E → vs.length = ps.length
  go : ∀ (A : Around) (outer : List Env) (s : Shared) (H : Hp) (args : Args) (us : List Value) (vs : List V) (Q : VK) (E : XK)
    (p : Addr × Obj) (c : Value) (d : Option Addr), A.guards = some [] → L2H.RoomH k A → L2H.PinOk outer H s p → Zc c d p.2 →
    (∃ fv, p.2.data = .fields fv) → Env0 P w K mg base A outer s H →
    BindsTo s fd args (ps.zip us) → Vals vs us → sp p.1 c d vs H Q E →
    codeAny (model P w) A (.call (.ref f) args) (CR CX outer P w H s Q E) s

theorem fnP_of {CX : CXT} {P : Program} {w : World} {K : PySem.W.Frag} {mg : Str → Option Value} {base : Heap} {k : Nat}
    {f : Addr} {name qual : Str} {params : Arguments} {body : List Stmt} {scope : Scope} {dV kV doc pm cdv ct oc : Value}
    {an od : Option Addr} {osl : Array (Option Value)} {N ps : List Str} {sp : Addr → Value → Option Addr → Sp}
    (lk : K.lookup f = some ⟨oc, od, .func (PySem.W.fnOf name qual params body scope dV kV doc pm an cdv ct), osl⟩)
    (hcd : PySem.W.codeIn K cdv qual = true) (S : FnScope N ps scope)
    (len : ∀ a c d vs H Q E, sp a c d vs H Q E → vs.length = ps.length)
    (hbody : ∀ (A : Around) (outer : List Env) (s : Shared) (H : Hp) (vs : List V) (Q : VK) (E : XK) (p : Addr × Obj) (c : Value)
      (d : Option Addr), A.guards = some [] → L2H.RoomH k (A.deeper (envOfC qual scope s.heap.objs.size f cdv)) → Zc c d p.2 →
      (∃ fv, p.2.data = .fields fv) → sp p.1 c d vs H Q E →
      ∃ t, PSs (L2H.cxH CX P w K mg base N qual scope f cdv A outer s H E p) body t ∧
        t { nx := fun _ H' => Q .non H', rt := Q } (start N vs) H) :
    FnP P w K mg base CX (k + 1) f (PySem.W.fnOf name qual params body scope dV kV doc pm an cdv ct) ps sp := by
  constructor
  · exact len
  intro A outer s H args us vs Q E p c d gd hr hpin hz hf e0 hb r hsp
  have hl := len _ _ _ _ _ _ _ hsp
  have KX : K.In s.heap := e0.mod.kin.keeps fun b o e => (e0.bs b o e).1
  have lim : s.heap.NoLimit := e0.mod.nolimit.keeps fun b o e => (e0.bs b o e).1
  have hk : ∀ y ∈ ps.zip us, scope.names.lookup y.1 = some .local ∨
      (scope.names.lookup y.1 = some .cell ∧
        ((cellsFrom (s.heap.objs.size + 1) scope.names []).lookup y.1).isSome = true) := by
    rintro ⟨n, v⟩ hy
    rcases S.par n (List.of_mem_zip hy).1 with q | q
    · exact .inl q
    · exact .inr ⟨q, PySem.W.cellsFrom_some _ _ _ (.inl q)⟩
  refine codeAny_call_function hr.depth (KX _ _ lk) rfl S.co S.gen rfl (PySem.W.codeRec_of KX hcd) ?_
  refine hb _ _ _ _ (wpAny_newFunctionEnv_cells S.kind hk ?_)
  intro env he s1 x
  subst he
  refine ⟨lim.keeps x.toInCall.keep, ?_⟩
  refine codeAny_func ?_
  obtain ⟨t, ht, hq⟩ := hbody A outer s H vs Q E p c d gd (hr.deeper _) hz hf hsp
  have I := L2H.inv_startH (CX := CX) (N := N) (E := E) S hpin e0 hl r x
  refine wpAny_mono (ht.run [] s1 (start N vs) H _ I hq) ?_ (fun e s' hs => hs)
  intro fl s' hs
  cases fl with
  | ret u =>
    obtain ⟨v, σ', H', J, rv, q⟩ := hs
    exact ⟨v, H', J.os, J.bare, J.base, J.hok, rv, q⟩
  | next =>
    obtain ⟨σ', H', J, q⟩ := hs
    exact ⟨V.non, H', J.os, J.bare, J.base, J.hok, rfl, q⟩
  | brk =>
    obtain ⟨_, _, _, q⟩ := hs
    exact q.elim
  | cont =>
    obtain ⟨_, _, _, q⟩ := hs
    exact q.elim

section
variable {P : Program} {w : World} {K : PySem.W.Frag} {mg : Str → Option Value} {base : Heap}
theorem okP {x qual : Str} {st : Stmt} {f : Addr} {fd : FuncData} {N ps : List Str} {k : Nat} {sp : Addr → Value → Option Addr → Sp}
    (F : Fun K x qual st f fd) (S : FnScope N ps (defScope st)) (len : ∀ a c d vs H Q E, sp a c d vs H Q E → vs.length = ps.length)
    (hbody : ∀ (cdv : Value) (A : Around) (outer : List Env) (s : Shared) (H : Hp) (vs : List V) (Q : VK) (E : XK) (p : Addr × Obj)
      (c : Value) (d : Option Addr), A.guards = some [] → L2H.RoomH k (A.deeper (envOfC qual (defScope st) s.heap.objs.size f cdv)) →
      Zc c d p.2 → (∃ fv, p.2.data = .fields fv) → sp p.1 c d vs H Q E →
      ∃ t, PSs (L2H.cxH CX0 P w K mg base N qual (defScope st) f cdv A outer s H E p).nox (defBody st) t ∧
        t { nx := fun _ H' => Q .non H', rt := Q } (start N vs) H) :
    FnP P w K mg base CX0 (k + 1) f fd ps sp := by
  obtain ⟨oc, od, kV, doc, pm, an, cdv, ct, osl, rfl, lk, hcd⟩ := F.ex
  refine fnP_of lk hcd S len ?_
  intro A outer s H vs Q E p c d g hr hz hf hsp
  obtain ⟨t, h, q⟩ := hbody cdv A outer s H vs Q E p c d g hr hz hf hsp
  exact ⟨t, h.nox, q⟩
end

section
variable {X : Cx} {k : Nat} {f : Addr} {fd : FuncData} {ps : List Str} {sp : Addr → Value → Option Addr → Sp} {x : Str} {p pos : Pos} {e : Expr}
  {es : List Expr} {t : TA} {a : Addr} {oe : Obj} {st : Stmt} {c : Value} {d : Option Addr}
theorem pe_dfP (D : Df X.K X.mg x st ps f fd) (F : FnP X.prog X.w X.K X.mg X.base CX0 k f fd ps sp) (gd : X.A.guards = some [])
    (hr : L2H.RoomH k X.A) (hp : (a, oe) ∈ X.pn) (hz : Zc c d oe) (hf : ∃ fv, oe.data = .fields fv) (hg : Gl X x) (ha : PA X (e :: es) t)
    (hdb : (x == ("__debug__" : Str)) = false := by decide)
    (he : starEach (e :: es) X.env = (false, eval e X.env) :: starEach es X.env := by rfl)
    (hpl : (backTo pos (starEach es X.env)).any (·.1) = false := by rfl) :
    PE X (.Call (.Name x p) (e :: es) [] pos) (tCall (sp a c d) [] E0 t) := by
  constructor
  intro pins s σ H Q I h
  refine wpAny_Call_Name_kw (ld_glob I hg D.g ?_ hdb)
  refine PySem.W.callWith_K (h₀ := X.base) I.ok.mod.kin D.F.kp (thn (ha.run pos pins s σ H _ I h) ?_) he hpl
  rintro us s1 ⟨vs, H1, I1, r, q⟩
  refine ⟨I1.kIn, ?_⟩
  rw [List.append_nil] at q
  have hl : us.length = ps.length := r.length.symm.trans (F.len _ _ _ _ _ _ _ q)
  have b := D.b s1 us I1.kIn (by rw [List.append_nil]; exact hl)
  rw [List.append_nil] at b
  have P1 := I1.pin (a, oe) (List.mem_append_left _ hp)
  have hpin : L2H.PinOk X.stack H1 s1 (a, oe) := by
    refine ⟨P1.1, P1.2.1, ?_, P1.2.2.2.2⟩
    intro hm
    exact (List.mem_cons.mp (I1.stkSub a hm)).elim P1.2.2.1 P1.2.2.2.1
  refine wpAny_call (codeAny_mono (F.go X.A X.stack s1 H1 ⟨us, []⟩ us vs Q E0 (a, oe) c d gd hr hpin hz hf I1.env0 b r q) ?_)
  intro r s' hq
  cases r with
  | error e => exact hq.elim
  | ok fl =>
    cases fl with
    | ret u => exact I1.after hq
    | next => exact hq.elim
    | brk => exact hq.elim
    | cont => exact hq.elim
end
end LP

set_option Elab.async false
set_option linter.all false
set_option maxRecDepth 100000
set_option maxHeartbeats 4000000
/-! LPQ: facts of the classes of own errors by one look at the written part; their __init__. -/
namespace LP
open PySem PySem.Spec L2
open PyProof.Rows hiding St

/-- what is wanted of each own class of errors -/
structure Xk (K : PySem.W.Frag) (C : Addr) : Prop where
  ec : ExcC K C
  kC : PySem.W.keepIn K (.ref C) = true
  tyC : PySem.W.typeIn K (.ref C) = some (.type "type")
def xkB (K : PySem.W.Frag) (C : Addr) : Bool :=
  decide (PySem.W.findIn K (.ref C) "__getattribute__" = some (some (.builtin "BaseException.__getattribute__"))) &&
  decide (PySem.W.findIn K (.ref C) "__getattr__" = some none) &&
  decide (PySem.W.subIn K (.ref C) (.type "BaseException") = some true) &&
  PySem.W.hasDictIn K C &&
  decide (PySem.W.findIn K (.ref C) "__class__" = some (some (.builtin "object.__class__"))) &&
  decide (PySem.W.specialIn K (.builtin "object.__class__") "__get__" = some (some (.builtin "getset_descriptor.__get__"))) &&
  decide (PySem.W.takesIn K (.builtin "object.__class__") = some true) &&
  decide (PySem.W.mroIn K C (.type "object") = some true) &&
  PySem.W.keepIn K (.ref C) && decide (PySem.W.typeIn K (.ref C) = some (.type "type"))
theorem xk_of {K : PySem.W.Frag} {C : Addr} (h : xkB K C = true) : Xk K C := by
  unfold xkB at h
  simp only [Bool.and_eq_true, decide_eq_true_eq] at h
  obtain ⟨⟨⟨⟨⟨⟨⟨⟨⟨h1, h2⟩, h3⟩, h4⟩, h5⟩, h6⟩, h7⟩, h8⟩, h9⟩, h10⟩ := h
  exact ⟨⟨h1, h2, h3, h4, h5, h6, h7, h8⟩, h9, h10⟩
theorem Xk.xf {K : PySem.W.Frag} {C : Addr} (h : Xk K C) : XfC K C := ⟨h.ec.hg, h.ec.hk, h.ec.hs, h.ec.hd⟩
theorem Xk.raises {X : Cx} {C : Addr} (h : Xk X.K C) : Raises X (.ref C) := raises_own h.ec.hs h.tyC

/-- a class with an own __init__ that keeps f; B: what makes it; bmS: the built-in bases -/
def ocB (K : PySem.W.Frag) (C : Addr) (B newId : String) (bmS : List Value) (f : Str) : Bool := (match K.lookup C with
  | some ⟨.type "type", _, .cls cd, sl⟩ => (match cd.mro, sl.toList with
    | .ref C' :: bm, [_, _, _, _, some (.builtin n), _] => C' == C && n == newId && !cd.hasDel && cd.hasDict && bm.contains (.type B) &&
        !bm.contains (.type "AttributeError") && !bm.contains (.type "NameError")
    | _, _ => false)
  | _ => false) && PySem.W.excOver K C bmS &&
  decide (PySem.W.findIn K (.ref C) "__setattr__" = some (some (.builtin "object.__setattr__"))) &&
  decide (PySem.W.findIn K (.ref C) f = some none)
theorem oc_of {K : PySem.W.Frag} {C : Addr} {B B' newId initId : String} {bmB bmS : List Value} {f : Str}
    (F : ExcBaseFacts B newId initId bmB) (SF : StoreFacts B' bmS "object.__setattr__" "object") (x : Xk K C)
    (q : ocB K C B newId bmS f = true) : Oc K C f := by
  unfold ocB at q
  simp only [Bool.and_eq_true, decide_eq_true_eq] at q
  obtain ⟨⟨⟨q, h2⟩, h3⟩, h4⟩ := q
  refine ⟨?_, ⟨_, _, SF, h2⟩, h3, x.ec.hs, x.tyC, x.kC, x.ec.hd, h4⟩
  split at q
  · rename_i dd cd sl ho
    split at q
    · rename_i C' bm k0 k1 k2 k3 n k5 hm hs
      simp only [Bool.and_eq_true, beq_iff_eq, Bool.not_eq_true'] at q
      obtain ⟨⟨⟨⟨⟨⟨rfl, rfl⟩, hdel⟩, hdt⟩, c1⟩, c2⟩, c3⟩ := q
      obtain ⟨nm, bs, mro, ns, qn, hd, sn, sub, ab, col, del⟩ := cd
      dsimp only at hm hdel hdt
      subst hm hdel hdt
      have hsl : sl = #[k0, k1, k2, k3, some (.builtin n), k5] := by
        obtain ⟨l⟩ := sl
        simp only at hs
        rw [hs]
      subst hsl
      exact ⟨B, n, initId, bmB, bm, nm, qn, ns, bs, sn, sub, ab, col, dd, k0, k1, k2, k3, k5, F, ⟨c1, c2, c3⟩, ho⟩
    · cases q
  · cases q

/-- an own class whose __init__ keeps f: all that making it asks -/
structure Ok1 (K : PySem.W.Frag) (mg : Str → Option Value) (x : Str) (C : Addr) (f : Str) (st : Stmt) (ps : List Str) (fI : Addr) (fd : FuncData) : Prop where
  g : mg x = some (.ref C)
  k : Xk K C
  o : Oc K C f
  i : PySem.W.findIn K (.ref C) "__init__" = some (some (.ref fI))
  t : PySem.W.typeIn K (.ref fI) = some (.type "function")
  F : Fun K "__init__" (x ++ ".__init__") st fI fd
  b : Binds K fd ps []
/-- the j-th statement of a class's body -/
def mth (s : Stmt) (j : Nat) : Stmt := match s with
  | .ClassDef _ _ _ body _ _ _ _ _ _ _ => body.getD j (.Pass ⟨0, 0, 0, 0⟩)
  | _ => .Pass ⟨0, 0, 0, 0⟩

section
variable {P : Program} {w : World} {K : PySem.W.Frag} {mg : Str → Option Value} {base : Heap}
/-- def __init__(self, v): self.f = v -/
theorem ok_ini {x : Str} {C fI : Addr} {fd : FuncData} {f v : Str} {st : Stmt} {p1 p2 p3 p4 : Pos} {qn : Str}
    (F : Fun K "__init__" qn st fI fd) (T : Oc K C f) (S : FnScope ["self", v] ["self", v] (defScope st))
    (hb : defBody st = [.Assign [.Attribute (.Name "self" p1) f p2] (.Name v p3) p4])
    (h0 : Vis (defScope st) "self") (h1 : Vis (defScope st) v) (d1 : (v == ("__debug__" : Str)) = false) (d2 : (v == ("__classdict__" : Str)) = false) :
    FnOk P w K mg base CX0 1 fI fd ["self", v] (spIni K C f) := by
  refine F.ok S ?_ ?_
  · rintro vs H Q E ⟨a, y, rfl, _⟩
    rfl
  rintro cdv A outer s H vs Q E hr ⟨a, y, rfl, _, ha, q⟩
  rw [hb]
  refine ⟨_, pss_one (ps_os1 (pe_var (i := 0) rfl h0 (by decide) (by decide)) (pe_var (i := 1) rfl h1 d1 d2)), ?_⟩
  refine ⟨y, rfl, .ref a, rfl, a, C, rfl, T, ha, ?_⟩
  intro dx n ne
  exact q dx n ne
end
section
variable {X : Cx} {k : Nat} {C fI : Addr} {fd : FuncData} {ps : List Str} {x f : Str} {st : Stmt} {e : Expr} {ta : TA} {p pos : Pos}
theorem pe_new1 (D : Ok1 X.K X.mg x C f st ps fI fd) (G : FnOk X.prog X.w X.K X.mg X.base CX0 k fI fd ps (spIni X.K C f)) (hr : Room (k + 1) X.A)
    (hg : Gl X x) (ha : PA X [e] ta) (hdb : (x == ("__debug__" : Str)) = false := by decide)
    (he : starEach [e] X.env = (false, eval e X.env) :: starEach [] X.env := by rfl)
    (hpl : (backTo pos (starEach [] X.env)).any (·.1) = false := by rfl) :
    PE X (.Call (.Name x p) [e] [] pos) (tMkV C f ta) := pe_mkv D.o D.i D.t G hr D.b hg D.g ha hdb he hpl
theorem pmk_new1 (D : Ok1 X.K X.mg x C f st ps fI fd) (G : FnOk X.prog X.w X.K X.mg X.base CX0 k fI fd ps (spIni X.K C f)) (hr : Room (k + 1) X.A)
    (hg : Gl X x) (ha : PA X [e] ta) (hdb : (x == ("__debug__" : Str)) = false := by decide)
    (he : starEach [e] X.env = (false, eval e X.env) :: starEach [] X.env := by rfl)
    (hpl : (backTo pos (starEach [] X.env)).any (·.1) = false := by rfl) :
    PMk X (.Call (.Name x p) [e] [] pos) (tMkR C f ta) := pmk_mkr D.o D.i D.t G hr D.b hg D.g ha hdb he hpl
end

/-- an own class over ValueError without own __init__ -/
structure Ok0 (K : PySem.W.Frag) (mg : Str → Option Value) (x : Str) (C : Addr) : Prop where
  g : mg x = some (.ref C)
  k : Xk K C
  e : PySem.W.excIn K C [.type "ValueError", .type "Exception", .type "BaseException", .type "object"] "ValueError.__new__" = true
section
variable {X : Cx} {C : Addr} {x m : Str} {e : Expr} {ta : TE} {p p2 pos : Pos} {j : Nat}
def tMk0 (C : Addr) (ta : TE) : TE := fun σ H Q => ta σ H fun _ H1 => ∀ a, H1 a = none → Q (.ref a) (upd H1 a (exo a C none))
theorem pe_new0 (D : Ok0 X.K X.mg x C) (hg : Gl X x) (he : PE X e ta)
    (hs : starEach [e] X.env = (false, eval e X.env) :: starEach [] X.env := by rfl)
    (hdb : (x == ("__debug__" : Str)) = false := by decide) :
    PE X (.Call (.Name x p) [e] [] pos) (tMk0 C ta) := pe_mk0 PySem.F.excBase_ValueError D.e D.g D.k.kC hg he hs hdb
theorem pmk_new0 (D : Ok0 X.K X.mg x C) (hg : Gl X x) (hdb : (x == ("__debug__" : Str)) = false := by decide) :
    PMk X (.Call (.Name x p) [.Constant (.str m) j p2] [] pos) (fun _ H Q => Q (.ref C) none H) :=
  pmk_own PySem.F.excBase_ValueError D.e D.g D.k.kC D.k.raises hg hdb
end

/-! ### isinstance of errors, by a table -/
def isOf (K : PySem.W.Frag) (C : Addr) : V → Option Bool
  | .ty n => PySem.W.kitOne K (.ref C) (.type n)
  | .ref D => PySem.W.kitOne K (.ref C) (.ref D)
  | _ => none
def rIsA (K : PySem.W.Frag) (pn : List (Addr × Obj)) (a C : Addr) : List V → Hp → VK → Prop := fun xs H Q =>
  ∃ c b, xs = [.ref a, c] ∧ ExcC K C ∧ XAt pn H a C ∧ isOf K C c = some b ∧ Q (.bl b) H
theorem call_isA {X : Cx} {K : PySem.W.Frag} {pn : List (Addr × Obj)} {a C : Addr} (eK : X.K = K) (ep : X.pn = pn) : CallR X (.builtin "isinstance") (rIsA K pn a C) := by
  subst eK
  subst ep
  refine call_imp call_isX ?_
  rintro xs H Q ⟨c, b, rfl, T, hx, e, q⟩
  cases c with
  | ty n => exact ⟨a, C, .ty n, .type n, b, rfl, .ty n, T, hx, e, q⟩
  | ref D => exact ⟨a, C, .ref D, .ref D, b, rfl, .own D, T, hx, e, q⟩
  | _ => cases e

theorem lookup1 {n : Str} {v : V} : List.lookup n [(n, v)] = some v := by simp [List.lookup]
/-! ### 'x' * int(b) -/
def bi (b : Bool) : Int := if b then 1 else 0
theorem bi_inj {a b : Bool} : bi a = bi b ↔ a = b := by
  cases a <;> cases b <;> decide
def ob (b : Bool) (z : Str) : Str := if b then z else ""
theorem len_ob (b : Bool) (z : Str) : (ob b z).length ≤ z.length := by
  unfold ob
  cases b
  · exact Nat.zero_le _
  · exact Nat.le_refl _
theorem len_ob1 (b : Bool) (z : Str) (n : Nat) (h : z.length ≤ n) : (ob b z).length ≤ n := Nat.le_trans (len_ob b z) h
section
variable {X : Cx}
def rIntX : List V → Hp → VK → Prop := fun xs H Q => ∃ k, xs = [.bl k] ∧ Q (.int (bi k)) H
theorem call_intX : CallR X (.type "int") rIntX := call_imp call_intB fun xs H Q ⟨k, h, q⟩ => ⟨k, h, q⟩
theorem rep_bi (b : Bool) (z : Str) : repS z (bi b) = ob b z := by
  cases b
  · simp [repS, Txt.mul, bi, ob]
    rfl
  · simp [repS, Txt.mul, bi, ob]
def rBit : R2 := fun x y H Q => ∃ z b, x = .str z ∧ y = .int (bi b) ∧ z.length ≤ 100 ∧ Q (.str (ob b z)) H
theorem op_bit : OpR X (binaryOp .Mult) rBit := by
  refine op_imp op_repS ?_
  rintro x y H Q ⟨z, b, rfl, rfl, hl, q⟩
  refine ⟨z, bi b, rfl, rfl, ⟨?_, ?_, ?_⟩, ?_⟩
  · cases b <;> decide
  · cases b <;> decide
  · rw [sizeLine_eq]
    cases b
    · show z.length * 0 ≤ _
      omega
    · show z.length * 1 ≤ _
      omega
  · rw [rep_bi]
    exact q
end
end LP

set_option Elab.async false
set_option linter.all false
set_option maxRecDepth 100000
set_option maxHeartbeats 2000000
/-! LPB: a slotted class of the text with its methods and properties, in short. -/
namespace LP
open PySem PySem.Spec L2 SlX
open PyProof.Rows hiding St signs

/-- both ways; simp does not see it -/
structure Bi (a b : Prop) : Prop where
  mp : a → b
  mpr : b → a
theorem inv_bi {α : Type} (P : α → L2.St → Hp → Prop) : ∃ Pv : α → L2.St → Hp → Prop, ∀ i σ H, Bi (Pv i σ H) (P i σ H) := ⟨P, fun _ _ _ => ⟨id, id⟩⟩
theorem inv_bi2 {α : Type} (P : α → Hp → Prop) : ∃ Pv : α → Hp → Prop, ∀ i H, Bi (Pv i H) (P i H) := ⟨P, fun _ _ => ⟨id, id⟩⟩
theorem ps_dead {X : Cx} {st : Stmt} : PS X st (fun _ _ _ => False) := ⟨fun _ _ _ _ _ _ h => h.elim⟩
theorem pe_dead {X : Cx} {e : Expr} : PE X e (fun _ _ _ => False) := ⟨fun _ _ _ _ _ _ h => h.elim⟩
/-- a slotted class -/
structure Ob (K : PySem.W.Frag) (mg : Str → Option Value) (x : Str) (C : Addr) : Prop where
  g : mg x = some (.ref C)
  sc : SCls K C
  si : SIsi K C
  kp : PySem.W.keepIn K (.ref C) = true
  mks : PySem.W.makesIn K C = true
  ne : PySem.W.findIn K (.ref C) "__ne__" = some (some (.builtin "object.__ne__"))
  sf : PySem.W.selfFirst K C = true
  nf : PySem.W.notFirst K C (.ref C) = true
  kit : PySem.W.kitOne K (.ref C) (.ref C) = some true
def obB (K : PySem.W.Frag) (C : Addr) : Bool :=
  PySem.W.plainGet K C Str.empty && PySem.W.isClsIn K C && PySem.W.plainOver K C &&
  decide (PySem.W.findIn K (.ref C) "__setattr__" = some (some (.builtin "object.__setattr__"))) &&
  decide (PySem.W.findIn K (.ref C) "__class__" = some (some (.builtin "object.__class__"))) &&
  decide (PySem.W.specialIn K (.builtin "object.__class__") "__get__" = some (some (.builtin "getset_descriptor.__get__"))) &&
  decide (PySem.W.takesIn K (.builtin "object.__class__") = some true) && decide (PySem.W.mroIn K C (.type "object") = some true) &&
  PySem.W.keepIn K (.ref C) && PySem.W.makesIn K C && decide (PySem.W.findIn K (.ref C) "__ne__" = some (some (.builtin "object.__ne__"))) &&
  PySem.W.selfFirst K C && PySem.W.notFirst K C (.ref C) && decide (PySem.W.kitOne K (.ref C) (.ref C) = some true)
theorem ob_of {K : PySem.W.Frag} {mg : Str → Option Value} {x : Str} {C : Addr} (g : mg x = some (.ref C)) (h : obB K C = true) : Ob K mg x C := by
  unfold obB at h
  simp only [Bool.and_eq_true, decide_eq_true_eq] at h
  obtain ⟨⟨⟨⟨⟨⟨⟨⟨⟨⟨⟨⟨⟨h1, h2⟩, h3⟩, h4⟩, h5⟩, h6⟩, h7⟩, h8⟩, h9⟩, h10⟩, h11⟩, h12⟩, h13⟩, h14⟩ := h
  exact ⟨g, ⟨h1, h2, h3, h4⟩, ⟨h5, h6, h7, h8⟩, h9, h10, h11, h12, h13, h14⟩
/-- the slot f at the place i -/
def slB (K : PySem.W.Frag) (C p : Addr) (f : Str) (i : Nat) : Bool :=
  decide (PySem.W.findIn K (.ref C) f = some (some (.ref p))) && decide (PySem.W.specialIn K (.ref p) "__get__" = some (some (.builtin "member_descriptor.__get__"))) &&
  decide (PySem.W.takesIn K (.ref p) = some true) && decide (PySem.W.typeIn K (.ref p) = some (.type "member_descriptor")) && decide (PySem.W.slotIn K p C = some i) && decide (i < 1000)
theorem sl_of {K : PySem.W.Frag} {C p : Addr} {f : Str} {i : Nat} (h : slB K C p f i = true) : Slot1 K C f p i := by
  unfold slB at h
  simp only [Bool.and_eq_true, decide_eq_true_eq] at h
  obtain ⟨⟨⟨⟨⟨h1, h2⟩, h3⟩, h4⟩, h5⟩, h6⟩ := h
  exact ⟨h1, h2, h3, h4, h5, h6⟩
/-- a def of the class -/
structure Mt (K : PySem.W.Frag) (C : Addr) (m q : Str) (st : Stmt) (ps : List Str) (f : Addr) (fd : FuncData) : Prop where
  F : Fun K m q st f fd
  at_ : PySem.W.findIn K (.ref C) m = some (some (.ref f))
  fn : PySem.W.isFn K (.ref f) = true
  b : Binds K fd ps []
theorem Mt.m {K : PySem.W.Frag} {C : Addr} {m q : Str} {st : Stmt} {ps : List Str} {f : Addr} {fd : FuncData} (D : Mt K C m q st ps f fd) : Meth K C m f := ⟨D.at_, D.fn, D.F.kp⟩
/-- a property of the class -/
structure Pt (K : PySem.W.Frag) (C : Addr) (m q : Str) (st : Stmt) (ps : List Str) (p f : Addr) (fd : FuncData) : Prop where
  F : Fun K m q st f fd
  at_ : PySem.W.findIn K (.ref C) m = some (some (.ref p))
  get : PySem.W.specialIn K (.ref p) "__get__" = some (some (.builtin "property.__get__"))
  tk : PySem.W.takesIn K (.ref p) = some true
  rc : ∃ rest, PySem.W.recIn K p "property" = some (.ref f :: rest)
  b : Binds K fd ps []

section
variable {X : Cx} {k : Nat} {C f p : Addr} {fd : FuncData} {ps : List Str} {sp : Sp} {x m q : Str} {st : Stmt} {np pos apos : Pos} {e o : Expr} {es : List Expr} {ta : TE} {t : TA}
/-- o.f, the i-th slot of an instance of the class at C -/
def tSlot (C : Addr) (i : Nat) (ta : TE) : TE := fun σ H Q => ta σ H fun x H1 => ∃ a dx vs v, x = .ref a ∧ Slt H1 a C dx vs ∧ vs[i]? = some (some v) ∧ Q v H1
theorem pe_slot {g : Str} {i : Nat} (O : Ob X.K X.mg x C) (S : Slot1 X.K C g p i) (he : PE X e ta) (hb : attributeBase e g X.env (eval e X.env) = eval e X.env := by rfl) : PE X (.Attribute e g pos) (tSlot C i ta) := by
  refine ⟨fun pins s σ H Q I h => ?_⟩
  refine attr_of hb (thn (he.run pins s σ H _ I h) fun u s1 ⟨x, H1, I1, rx, a, dx, vs, v, ex, hs, l, q⟩ => ?_)
  subst ex
  obtain rfl : u = Value.ref a := rx
  exact getslot_ok I1 hs O.sc S l fun u' s2 I2 ru => ⟨v, H1, I2, ru, q⟩
/-- o.m, a property -/
theorem pe_pr (O : Ob X.K X.mg x C) (D : Pt X.K C m q st ps p f fd) (G : FnOk X.prog X.w X.K X.mg X.base CX0 k f fd ps sp) (hr : Room (k + 1) X.A) (he : PE X o ta) (hb : attributeBase o m X.env (eval o X.env) = eval o X.env := by rfl) :
    PE X (.Attribute o m pos) (tPropSl C sp E0 ta) := pe_propSl he O.sc D.at_ D.get D.tk D.rc (toR G D.b) hr (fun _ _ _ _ z => z) hb
/-- o.m(e, ..) -/
theorem pe_mt {pl : Sem Bool} (O : Ob X.K X.mg x C) (D : Mt X.K C m q st ps f fd) (G : FnOk X.prog X.w X.K X.mg X.base CX0 k f fd ps sp) (hr : Room k X.A) (he : PE X o ta) (ha : PA X (e :: es) t)
    (hst : starEach (e :: es) X.env = (false, eval e X.env) :: starEach es X.env := by rfl) (hpl : (backTo pos (starEach es X.env)).any (·.1) = false := by rfl)
    (ht : eval (.Call (.Attribute o m apos) (e :: es) [] pos) X.env = (do
      let ov ← eval o X.env
      standAt apos.atName
      let (f, first) ← holding [ov] (getMethod ov m pl)
      callWith pos f first (backTo pos (starEach (e :: es) X.env)) (backToKw pos (keywordEach [] X.env))) := by rfl) :
    PE X (.Call (.Attribute o m apos) (e :: es) [] pos) (tMethSl C sp E0 ta t) := pe_methSl he O.sc D.m (toR G D.b) hr pass0 ha hst hpl ht
theorem pe_mt0 {pl : Sem Bool} (O : Ob X.K X.mg x C) (D : Mt X.K C m q st ps f fd) (G : FnOk X.prog X.w X.K X.mg X.base CX0 k f fd ps sp) (hr : Room k X.A) (he : PE X o ta)
    (ht : eval (.Call (.Attribute o m apos) [] [] pos) X.env = (do
      let ov ← eval o X.env
      standAt apos.atName
      let (f, first) ← holding [ov] (getMethod ov m pl)
      callWith pos f first (backTo pos (starEach [] X.env)) (backToKw pos (keywordEach [] X.env))) := by rfl) :
    PE X (.Call (.Attribute o m apos) [] [] pos) (tMethSl C sp E0 ta tNil) := pe_methSl0 he O.sc D.m (toR G D.b) hr pass0 ht
/-- C(e, ..) -/
theorem pe_mkS (O : Ob X.K X.mg x C) (D : Mt X.K C "__init__" q st ps f fd) (G : FnOk X.prog X.w X.K X.mg X.base CX0 k f fd ps sp) (hr : Room (k + 1) X.A) (hg : Gl X x) (ha : PA X (e :: es) t) (hdb : (x == ("__debug__" : Str)) = false := by decide)
    (he : starEach (e :: es) X.env = (false, eval e X.env) :: starEach es X.env := by rfl) (hpl : (backTo pos (starEach es X.env)).any (·.1) = false := by rfl) : PE X (.Call (.Name x np) (e :: es) [] pos) (StX.tMakeR C sp E0 t) :=
  StX.pe_makeR ⟨O.mks, D.at_, D.fn, O.kp⟩ (toR G D.b) hr hg O.g pass0 ha hdb he hpl
theorem op_eqS (O : Ob X.K X.mg x C) (D : Mt X.K C "__eq__" q st ps f fd) (G : FnOk X.prog X.w X.K X.mg X.base CX0 k f fd ps sp) (hr : Room k X.A) : OpR X (compareOp .Eq) (rOwn X.K C sp E0) :=
  op_own (fun _ _ => rfl) D.at_ D.fn (toR G D.b) hr pass0
theorem op_neS (O : Ob X.K X.mg x C) (D : Mt X.K C "__eq__" q st ps f fd) (G : FnOk X.prog X.w X.K X.mg X.base CX0 k f fd ps sp) (hr : Room (k + 1) X.A) : OpR X (compareOp .NotEq) (rOwnNe X.K C sp E0) :=
  op_ownNe O.si.cm O.ne D.at_ D.fn (toR G D.b) hr pass0
theorem op_binS {op : Operator} (O : Ob X.K X.mg x C) (D : Mt X.K C (PySem.dunder op.info.2) q st ps f fd) (G : FnOk X.prog X.w X.K X.mg X.base CX0 k f fd ps sp) (hr : Room k X.A) : OpR X (binaryOp op) (rOwnB C sp E0) :=
  op_ownB O.sf D.at_ D.fn (toR G D.b) hr pass0
theorem call_strS (D : Mt X.K C "__str__" q st ps f fd) (G : FnOk X.prog X.w X.K X.mg X.base CX0 k f fd ps sp) (hr : Room (k + 2) X.A) : CallR X (.type "str") (rStrOwn C sp E0) :=
  call_strOwn D.at_ D.fn (toR G D.b) hr pass0
/-- isinstance(x, C), x of the class itself -/
def rIsS (C : Addr) : List V → Hp → VK → Prop := fun xs H Q => ∃ a dx vs, xs = [V.ref a, .ref C] ∧ Slt H a C dx vs ∧ Q (.bl true) H
theorem call_isS (O : Ob X.K X.mg x C) : CallR X (.builtin "isinstance") (rIsS C) := by
  intro pins s σ H xs us Q I r h
  obtain ⟨a, dx, vs, rfl, hs, q⟩ := h
  exact call_isiSl (.ref C) pins s σ H _ us Q I r ⟨a, C, dx, vs, .ref C, true, rfl, rfl, fun w e => e, hs, O.sc, O.si, O.kit, q⟩
/-- x(e, ..) by a promise by positional values -/
theorem pe_dfR (F : FnR X.prog X.w X.K X.mg X.base CX0 k f sp) (hr : Room k X.A) (hk : PySem.W.keepIn X.K (.ref f) = true) (hg : Gl X x) (hm : X.mg x = some (.ref f)) (ha : PA X (e :: es) t) (hdb : (x == ("__debug__" : Str)) = false := by decide)
    (he : starEach (e :: es) X.env = (false, eval e X.env) :: starEach es X.env := by rfl) (hpl : (backTo pos (starEach es X.env)).any (·.1) = false := by rfl) :
    PE X (.Call (.Name x np) (e :: es) [] pos) (fun σ H Q => t σ H fun vs H1 => sp vs H1 Q E0) := by
  refine ⟨fun pins s σ H Q I h => ?_⟩
  refine wpAny_Call_Name_kw (ld_glob I hg hm ?_ hdb)
  refine PySem.W.callWith_K (h₀ := X.base) I.ok.mod.kin hk (thn (ha.run pos pins s σ H _ I h) fun us s1 ⟨vs, H1, I1, r, q⟩ => ⟨I1.kIn, ?_⟩) he hpl
  exact wpAny_call (run_fnR F hr pass0 I1 r q)
end
/-- def f( *v) of the text -/
structure Sf (K : PySem.W.Frag) (mg : Str → Option Value) (x : Str) (st : Stmt) (pv : Str) (f : Addr) (fd : FuncData) : Prop where
  F : Fun K x x st f fd
  g : mg x = some (.ref f)
  b : ∀ rest : List Value, bindArgs fd ⟨rest, []⟩ = (newTuple rest >>= fun t => pure [(pv, t)])
theorem Sf.ok {P : Program} {w : World} {K : PySem.W.Frag} {mg : Str → Option Value} {base : Heap} {x : Str} {st : Stmt} {pv : Str} {f : Addr} {fd : FuncData} {N : List Str} {k : Nat} {sp : Sp} (D : Sf K mg x st pv f fd) (S : FnScope N [pv] (defScope st))
    (hbody : ∀ (cdv : Value) (A : Around) (outer : List Env) (s : Shared) (H : Hp) (vs : List V) (Q : VK) (E : XK), Room k (A.deeper (envOfC x (defScope st) s.heap.objs.size f cdv)) → sp vs H Q E →
      ∃ t, PSs (cxOf CX0 P w K mg base N x (defScope st) f cdv A outer s H E).nox (defBody st) t ∧ t { nx := fun _ H' => Q .non H', rt := Q } (start N vs) H) :
    FnR P w K mg base CX0 (k + 1) f (fun vs H Q E => vs.length ≤ sizeLine ∧ ∀ p, H p = none → sp [V.ref p] (upd H p (.tup vs)) Q E) := by
  obtain ⟨oc, od, kV, doc, pm, an, cdv, ct, osl, rfl, lk, hcd⟩ := D.F.ex
  refine (StX.fn_star (ps := []) (pv := pv) (sp := sp) lk hcd S StX.cxUp_none (fun us rest hl => ?_) fun A outer s H vs Q E hr hsp => ?_).imp fun vs H Q E h => ⟨[], vs, rfl, rfl, h.1, h.2⟩
  · have e : us = [] := List.length_eq_zero_iff.mp hl
    subst e
    exact D.b rest
  · obtain ⟨t, h, q⟩ := hbody cdv A outer s H vs Q E hr hsp
    exact ⟨t, h.nox, q⟩
theorem Same.slt {H H' : Hp} {a C dx : Addr} {vs : List (Option V)} (e : Same H H') (h : Slt H a C dx vs) : Slt H' a C dx vs := by
  rcases h with ⟨h1, h2⟩ | ⟨h1, h2⟩
  · exact .inl ⟨e _ _ h1, h2⟩
  · exact .inr ⟨e _ _ h1, e _ _ h2⟩
/-- behind a store into a new instance: all that was there stays -/
theorem Same.made {H : Hp} {x dx C : Addr} {vs : List (Option V)} (hx : H x = none) (hd : H dx = none) : Same H (slH (upd (upd H dx (.own x)) x (.ins C dx [])) x C dx vs) := fun b o e => by
  have h1 := ne_of_none e hx
  have h2 := ne_of_none e hd
  rw [slH_ne h1 h2, upd_ne h1, upd_ne h2]
  exact e
end LP
/-! ### the same rules with the written part told: for use within comprehensions -/
namespace LP
open PySem PySem.Spec L2 SlX
open PyProof.Rows hiding St signs
section
variable {X : Cx} {K : PySem.W.Frag}
def rLenS (K : PySem.W.Frag) : List V → Hp → VK → Prop := fun xs H Q => ∃ p ys, xs = [.ref p] ∧ (SqL K H p ys ∨ SqT K H p ys) ∧ Q (.int ys.length) H
theorem call_lenK (hK : X.K = K) : CallR X (.builtin "len") (rLenS K) := by subst hK; exact call_len_seq
theorem ix_tupK (hK : X.K = K) : IxR X (rIxT K) := by subst hK; exact ix_tup
theorem ix_listK (hK : X.K = K) : IxR X (rIxL K) := by subst hK; exact ix_list
def rTupOf (K : PySem.W.Frag) : List V → Hp → VK → Prop := fun xs H Q => ∃ p ys, xs = [.ref p] ∧ ((SqL K H p ys ∧ ∀ l, H l = none → Q (.ref l) (upd H l (.tup ys))) ∨ (SqT K H p ys ∧ Q (.ref p) H))
theorem call_tupleK (hK : X.K = K) : CallR X (.type "tuple") (rTupOf K) := by subst hK; exact call_tuple_of
theorem cr_minK' (hK : X.K = K) (hc : X.calm = true) : CallR X (.builtin "min") (rMin K) := by subst hK; exact cr_min hc
theorem cr_maxK' (hK : X.K = K) (hc : X.calm = true) : CallR X (.builtin "max") (rMax K) := by subst hK; exact cr_max hc
theorem pi_tupK {tg l : Expr} {tl : TE} (hK : X.K = K) (hl : PE X l tl) : PI X tg l (iTup K tl) := by subst hK; exact pi_tup hl
theorem pi_listK {tg l : Expr} {tl : TE} (hK : X.K = K) (hl : PE X l tl) : PI X tg l (iList K tl) := by subst hK; exact pi_list hl
theorem pi_zipNK {tg e : Expr} {es : List Expr} {ta : TA} {p pos : Pos} (hK : X.K = K) (hg : Gl X "zip") (hm : X.mg "zip" = none) (ha : PA X (e :: es) ta)
    (hs : starEach (e :: es) X.env = (false, eval e X.env) :: starEach es X.env := by rfl) (hpl : (backTo pos (starEach es X.env)).any (·.1) = false := by rfl) :
    PI X tg (.Call (.Name "zip" p) (e :: es) [] pos) (LZ.iZipN K ta) := by subst hK; exact LZ.pi_zipN hg hm ha hs hpl
theorem pi_zipSK {tg e : Expr} {te : TE} {p sp_ pos : Pos} (hK : X.K = K) (hg : Gl X "zip") (hm : X.mg "zip" = none) (he : PE X e te)
    (hst : starEach [.Starred e sp_] X.env = [(true, eval e X.env)] := by rfl) :
    PI X tg (.Call (.Name "zip" p) [.Starred e sp_] [] pos) (LZ.iZipS K te) := by subst hK; exact LZ.pi_zipS hg hm he hst
theorem pi_enumNK {tg e : Expr} {ta : TA} {p pos : Pos} (hK : X.K = K) (hg : Gl X "enumerate") (hm : X.mg "enumerate" = none) (ha : PA X [e] ta) (hs : starEach [e] X.env = [(false, eval e X.env)] := by rfl) :
    PI X tg (.Call (.Name "enumerate" p) [e] [] pos) (LZ.iEnumN K ta) := by subst hK; exact LZ.pi_enumN hg hm ha hs
def rLenTM : List V → Hp → VK → Prop := fun xs H Q => ∃ p ys, xs = [.ref p] ∧ H p = some (.tup ys) ∧ Q (.int ys.length) H
theorem call_lenT : CallR X (.builtin "len") rLenTM := call_imp call_len_seq fun xs H Q ⟨p, ys, h1, h2, q⟩ => ⟨p, ys, h1, .inr (SqT.of h2), q⟩
def rIxTM : R2 := fun x y H Q => ∃ p xs i v, x = .ref p ∧ y = .int i ∧ H p = some (.tup xs) ∧ atI xs i = some v ∧ Q v H
theorem ix_TM : IxR X rIxTM := ix_imp ix_tup fun x y H Q ⟨p, xs, i, v, h1, h2, h3, h4, q⟩ => ⟨p, xs, i, v, h1, h2, SqT.of h3, h4, q⟩
def rTupM : List V → Hp → VK → Prop := fun xs H Q => ∃ p ys, xs = [.ref p] ∧ H p = some (.lst ys) ∧ ∀ l, H l = none → Q (.ref l) (upd H l (.tup ys))
theorem call_tupM : CallR X (.type "tuple") rTupM := call_imp call_tuple_of fun xs H Q ⟨p, ys, h1, h2, q⟩ => ⟨p, ys, h1, .inl ⟨SqL.of h2, q⟩⟩
def rJoin (K : PySem.W.Frag) : V → List V → Hp → VK → Prop := fun x xs H Q => ∃ a p, ∃ ys : List Str, x = .str a ∧ xs = [.ref p] ∧ (SqL K H p (ys.map V.str) ∨ SqT K H p (ys.map V.str)) ∧
    (ys.map (·.length)).sum + ys.length * a.length ≤ 16777216 ∧ Q (.str (Txt.join a ys)) H
theorem mt_joinK (hK : X.K = K) : MtR X "str.join" (rJoin K) := by subst hK; exact mt_join
theorem pg_tupK {es : List Expr} {k : Nat} {t : TGs} {n : Nat} {pos : Pos} (hK : X.K = K) (hc : X.calm = true) (h : PGs X es t)
    (hn : (assignEach es X.env).length = n := by rfl) (hst : (assignEach es X.env).findIdx? (·.1) = none := by rfl) : PG X (.Tuple es k pos) (gTup K n t) := by subst hK; exact pg_tup hc h hn hst
theorem pg_lstK {es : List Expr} {k : Nat} {t : TGs} {n : Nat} {pos : Pos} (hK : X.K = K) (hc : X.calm = true) (h : PGs X es t)
    (hn : (assignEach es X.env).length = n := by rfl) (hst : (assignEach es X.env).findIdx? (·.1) = none := by rfl) : PG X (.Tuple es k pos) (gLst K n t) := by subst hK; exact pg_lst hc h hn hst
theorem pe_slK {e : Expr} {f : Str} {pos : Pos} {ta : TE} (hK : X.K = K) (he : PE X e ta) (hb : attributeBase e f X.env (eval e X.env) = eval e X.env := by rfl) : PE X (.Attribute e f pos) (tSl K ta f) := by subst hK; exact pe_sl he hb
theorem op_eqSK {C f : Addr} {fd : FuncData} {ps : List Str} {sp : Sp} {x q : Str} {st : Stmt} {k : Nat} (hK : X.K = K) (O : Ob X.K X.mg x C) (D : Mt X.K C "__eq__" q st ps f fd) (G : FnOk X.prog X.w X.K X.mg X.base CX0 k f fd ps sp) (hr : Room k X.A) : OpR X (compareOp .Eq) (rOwn K C sp E0) := by
  subst hK; exact op_eqS O D G hr
theorem op_neSK {C f : Addr} {fd : FuncData} {ps : List Str} {sp : Sp} {x q : Str} {st : Stmt} {k : Nat} (hK : X.K = K) (O : Ob X.K X.mg x C) (D : Mt X.K C "__eq__" q st ps f fd) (G : FnOk X.prog X.w X.K X.mg X.base CX0 k f fd ps sp) (hr : Room (k + 1) X.A) : OpR X (compareOp .NotEq) (rOwnNe K C sp E0) := by
  subst hK; exact op_neS O D G hr
end
end LP

set_option Elab.async false
set_option linter.all false
set_option maxRecDepth 100000
set_option maxHeartbeats 2000000
/-! LPD: plain instances (with a dict), own in, len, call; own == beside a plain value; isinstance of both kinds. -/
namespace LP
open PySem PySem.Spec L2 SlX
open PyProof.Rows hiding St signs
/-- a plain class -/
structure Oq (K : PySem.W.Frag) (mg : Str → Option Value) (x : Str) (C : Addr) : Prop where
  g : mg x = some (.ref C)
  cl : Cls K C
  kp : PySem.W.keepIn K (.ref C) = true
  mks : PySem.W.makesIn K C = true
def oqB (K : PySem.W.Frag) (C : Addr) : Bool :=
  PySem.W.plainGet K C Str.empty && PySem.W.hasDictIn K C && PySem.W.plainOver K C &&
  decide (PySem.W.findIn K (.ref C) "__setattr__" = some (some (.builtin "object.__setattr__"))) && PySem.W.keepIn K (.ref C) && PySem.W.makesIn K C
theorem oq_of {K : PySem.W.Frag} {mg : Str → Option Value} {x : Str} {C : Addr} (g : mg x = some (.ref C)) (h : oqB K C = true) : Oq K mg x C := by
  unfold oqB at h
  simp only [Bool.and_eq_true, decide_eq_true_eq] at h
  obtain ⟨⟨⟨⟨⟨h1, h2⟩, h3⟩, h4⟩, h5⟩, h6⟩ := h
  exact ⟨g, ⟨h1, h2, h3, h4⟩, h5, h6⟩
section
variable {X : Cx} {k : Nat} {C f p : Addr} {fd : FuncData} {ps : List Str} {sp : Sp} {x m q : Str} {st : Stmt} {np pos apos : Pos} {e o value : Expr} {es : List Expr} {ta tv : TE} {t : TA}
/-- o.f, an attribute of an instance of the class at C -/
def tFldC (C : Addr) (f : Str) (ta : TE) : TE := fun σ H Q => ta σ H fun x H1 => ∃ a dx fs v, x = .ref a ∧ H1 a = some (.ins C dx fs) ∧ fs.lookup f = some v ∧ Q v H1
theorem pe_fldC {g : Str} (O : Oq X.K X.mg x C) (n : NoAttr X.K C g) (he : PE X e ta) (hb : attributeBase e g X.env (eval e X.env) = eval e X.env := by rfl) : PE X (.Attribute e g pos) (tFldC C g ta) := by
  refine ⟨fun pins s σ H Q I h => ?_⟩
  refine attr_of hb (thn (he.run pins s σ H _ I h) fun u s1 ⟨x, H1, I1, rx, a, dx, fs, v, ex, hs, l, q⟩ => ?_)
  subst ex
  obtain rfl : u = Value.ref a := rx
  exact getattr_ok I1 hs O.cl n l fun u' s2 I2 ru => ⟨v, H1, I2, ru, q⟩
def sFldC (C : Addr) (f : Str) (ta tv : TE) : TS := fun D σ H => tv σ H fun y H1 => ta σ H1 fun x H2 => ∃ a dx fs, x = .ref a ∧ H2 a = some (.ins C dx fs) ∧ fs.length < 1000 ∧ D.nx σ (upd H2 a (.ins C dx (putF f y fs)))
theorem ps_fldC {g : Str} {pos' : Pos} (O : Oq X.K X.mg x C) (n : NoAttr X.K C g) (ha : PE X o ta) (hv : PE X value tv) (hs : swapsWith value (some (.Attribute o g pos')) pos.line X.env = pure false := by rfl) : PS X (.Assign [.Attribute o g pos'] value pos) (sFldC C g ta tv) := by
  refine ⟨fun pins s σ H D I h => ?_⟩
  refine plainObj_wpAny_Assign_Attribute (thn (hv.run pins s σ H _ I h) fun u s1 ⟨y, H1, I1, ry, q⟩ => thn (ha.run pins s1 σ H1 _ I1 q) fun ov s2 ⟨x, H2, I2, rx, a, dx, fs, ex, ea, l, q2⟩ => ?_) hs
  subst ex
  obtain rfl : ov = Value.ref a := rx
  exact setattr_ok I2 ea O.cl n l ry fun s3 I3 => ⟨σ, _, I3, q2⟩
theorem pe_mtP {pl : Sem Bool} (O : Oq X.K X.mg x C) (D : Mt X.K C m q st ps f fd) (G : FnOk X.prog X.w X.K X.mg X.base CX0 k f fd ps sp) (hr : Room k X.A) (he : PE X o ta) (ha : PA X (e :: es) t)
    (hst : starEach (e :: es) X.env = (false, eval e X.env) :: starEach es X.env := by rfl) (hpl : (backTo pos (starEach es X.env)).any (·.1) = false := by rfl)
    (ht : eval (.Call (.Attribute o m apos) (e :: es) [] pos) X.env = (do
      let ov ← eval o X.env
      standAt apos.atName
      let (f, first) ← holding [ov] (getMethod ov m pl)
      callWith pos f first (backTo pos (starEach (e :: es) X.env)) (backToKw pos (keywordEach [] X.env))) := by rfl) :
    PE X (.Call (.Attribute o m apos) (e :: es) [] pos) (tMeth C m sp [] E0 ta t) := pe_meth he O.cl D.m G hr D.b .nil pass0 ha hst hpl ht
theorem pe_mkP (O : Oq X.K X.mg x C) (D : Mt X.K C "__init__" q st ps f fd) (G : FnOk X.prog X.w X.K X.mg X.base CX0 k f fd ps sp) (hr : Room (k + 1) X.A) (hg : Gl X x) (ha : PA X (e :: es) t) (hdb : (x == ("__debug__" : Str)) = false := by decide)
    (he : starEach (e :: es) X.env = (false, eval e X.env) :: starEach es X.env := by rfl) (hpl : (backTo pos (starEach es X.env)).any (·.1) = false := by rfl) : PE X (.Call (.Name x np) (e :: es) [] pos) (StX.tMakeR C sp E0 t) :=
  StX.pe_makeR ⟨O.mks, D.at_, D.fn, O.kp⟩ (toR G D.b) hr hg O.g pass0 ha hdb he hpl
/-- x in y, y an instance with an own __contains__ -/
def rInOwn (C : Addr) (sp : Sp) (E : XK) : R2 := fun x y H Q => ∃ a dx vs, y = .ref a ∧ Slt H a C dx vs ∧ sp [y, x] H (fun z H' => ∃ b, z = .bl b ∧ Q (.bl b) H') E
theorem op_inS (D : Mt X.K C "__contains__" q st ps f fd) (G : FnOk X.prog X.w X.K X.mg X.base CX0 k f fd ps sp) (hr : Room k X.A) : OpR X (compareOp .In) (rInOwn C sp E0) := by
  intro pins s σ H x y v u Q I rx ry h
  obtain ⟨a, dx, vs, rfl, ha, q⟩ := h
  cases (show u = Value.ref a from ry)
  obtain ⟨sl, od, _, J, _⟩ := slt_inst I ha
  obtain ⟨m, hF⟩ := I.fr
  refine PySem.W.in_K hF I.ok.mod.kin J D.at_ D.fn ?_
  refine wpAny_mono (wpAny_call (run_fnR (us := [.ref a, v]) (vs := [.ref a, x]) (toR G D.b) hr pass0 I (.cons rfl (.cons rx .nil)) q)) (fun w s' z => ?_) fun _ _ x => x
  obtain ⟨z', H', I', rz, b, eb, qz⟩ := z
  subst eb
  cases (show w = Value.bool b from rz)
  exact wpAny_truthy_bool ⟨.bl b, H', I', rfl, qz⟩
/-- len(x) by an own __len__ -/
def rLenOwn (C : Addr) (sp : Sp) (E : XK) : List V → Hp → VK → Prop := fun xs H Q => ∃ a dx vs, xs = [V.ref a] ∧ Slt H a C dx vs ∧ sp [.ref a] H (fun z H' => ∃ n : Nat, z = .int (n : Int) ∧ n < 2 ^ 63 ∧ Q z H') E
theorem call_lenS (D : Mt X.K C "__len__" q st ps f fd) (G : FnOk X.prog X.w X.K X.mg X.base CX0 k f fd ps sp) (hr : Room (k + 1) X.A) : CallR X (.builtin "len") (rLenOwn C sp E0) := by
  intro pins s σ H xs us Q I r h
  obtain ⟨a, dx, vs, rfl, hsl, q⟩ := h
  obtain ⟨u, rfl, ru⟩ := r.one
  cases (show u = Value.ref a from ru)
  obtain ⟨sl, od, _, J, _⟩ := slt_inst I hsl
  obtain ⟨m, hF⟩ := I.fr
  refine PySem.W.len_K hF I.ok.mod.kin J D.at_ D.fn (wpAny_mono (wpAny_call (run_at (us := [.ref a]) (ws := [.ref a]) (toR G D.b) hr.in1 I.env0.in1 pass0 I (.cons rfl .nil) q)) (fun w s' z => ?_) fun _ _ x => x)
  obtain ⟨z', H', I', rz, n, ez, hn, qz⟩ := z
  subst ez
  obtain ⟨t, e⟩ := (show ∃ t, w = Value.int n t from rz)
  cases e
  exact ⟨⟨by omega, by omega⟩, .int n, H', I'.tok _, ⟨_, rfl⟩, qz⟩
/-- f(e, ..), f gives an instance of the class at C -/
def tCallS (C : Addr) (sp : Sp) (tf : TE) (t : TA) : TE := fun σ H Q => tf σ H fun y H1 => ∃ a, y = V.ref a ∧ t σ H1 fun vs H2 => (∃ dx ws, Slt H2 a C dx ws) ∧ sp (V.ref a :: vs) H2 Q E0
theorem pe_callS {fe : Expr} {tf : TE} (D : Mt X.K C "__call__" q st ps f fd) (hfi : PySem.W.fnIn X.K f = true) (G : FnOk X.prog X.w X.K X.mg X.base CX0 k f fd ps sp) (hr : Room k X.A) (hf : PE X fe tf) (ha : PA X (e :: es) t)
    (ht : eval (.Call fe (e :: es) [] pos) X.env = (do callWith pos (← eval fe X.env) [] (backTo pos (starEach (e :: es) X.env)) (backToKw pos (keywordEach [] X.env))) := by rfl)
    (he : starEach (e :: es) X.env = (false, eval e X.env) :: starEach es X.env := by rfl) (hpl : (backTo pos (starEach es X.env)).any (·.1) = false := by rfl) : PE X (.Call fe (e :: es) [] pos) (tCallS C sp tf t) := by
  refine ⟨fun pins s σ H Q I h => ?_⟩
  have c : StX.CallO X.K C f := ⟨D.at_, D.fn, hfi⟩
  refine Call_ (thn (hf.run pins s σ H _ I h) fun u s1 ⟨y, H1, I1, ry, a, ey, q⟩ => ?_) ht
  subst ey
  obtain rfl : u = Value.ref a := ry
  refine StX.callO_with (thn (ha.run pos pins s1 σ H1 _ I1 q) fun us s2 ⟨vs, H2, I2, r, hi, q2⟩ => ?_) he hpl
  obtain ⟨ox, od, J, hd⟩ := StX.insC_at I2 (.inl hi)
  exact ⟨⟨C, ox, od, J, hd⟩, StX.run_callO c (toR G D.b) hr pass0 I2 (.inl hi) r q2⟩
/-- which built-in classes the class is none of -/
def kitN (K : PySem.W.Frag) (C : Addr) : Bool := ["NoneType", "bool", "int", "str", "list", "tuple", "dict"].all fun t => decide (PySem.W.kitOne K (.type t) (.ref C) = some false) && PySem.W.notFirst K C (.type t)
theorem kitN_at {K : PySem.W.Frag} {C : Addr} (h : kitN K C = true) {H : Hp} {v : V} {t : String} (p : Pl K H v t) : PySem.W.kitOne K (.type t) (.ref C) = some false ∧ PySem.W.notFirst K C (.type t) = true := by
  unfold kitN at h
  simp only [List.all_cons, List.all_nil, Bool.and_eq_true, decide_eq_true_eq, Bool.and_true] at h
  obtain ⟨h1, h2, h3, h4, h5, h6, h7⟩ := h
  cases p
  · exact h1
  · exact h2
  · exact h3
  · exact h4
  · exact h5
  · exact h6
  · exact h7
/-- isinstance(x, C), x of the class itself or a plain value -/
def rIsE (K : PySem.W.Frag) (C : Addr) : List V → Hp → VK → Prop := fun xs H Q => (∃ a dx vs, xs = [V.ref a, .ref C] ∧ Slt H a C dx vs ∧ Q (.bl true) H) ∨ (∃ v t, xs = [v, .ref C] ∧ Pl K H v t ∧ Q (.bl false) H)
theorem call_isE {K : PySem.W.Frag} (hK : X.K = K) (O : Ob X.K X.mg x C) (kn : kitN X.K C = true) : CallR X (.builtin "isinstance") (rIsE K C) := by
  subst hK
  intro pins s σ H xs us Q I r h
  rcases h with h | ⟨v, t, rfl, p, q⟩
  · exact call_isS O pins s σ H xs us Q I r h
  · exact call_isiK' (K := X.K) rfl pins s σ H _ us Q I r ⟨v, .ref C, .type t, .ref C, false, rfl, .own C, p.ty, (kitN_at kn p).1, q⟩
/-- the built-in class of a plain value, as the machine finds it -/
theorem pl_looks {pins : List (Addr × Obj)} {σ : L2.St} {H : Hp} {s : Shared} {v : V} {u : Value} {t : String} (I : Inv X pins σ H s) (h : Pl X.K H v t) (r : RelV v u) : PySem.W.Looks (model X.prog X.w) s.heap (typeOf u) (.type t) := by
  have ref : ∀ (a : Addr) (o : Obj), s.heap.get? a = some o → o.cls = .type t → PySem.W.Looks (model X.prog X.w) s.heap (typeOf (.ref a)) (.type t) := fun a o e c A Q E s' k q => by
    refine wpAny_typeOf_ref (k a o e) ?_
    rw [c]
    exact q
  cases h with
  | non => cases (show u = Value.none from r); exact PySem.W.Looks.of_pure rfl
  | bl b => cases (show u = Value.bool b from r); exact PySem.W.Looks.of_pure rfl
  | int i => obtain ⟨t, e⟩ := (show ∃ t, u = Value.int i t from r); cases e; exact PySem.W.Looks.of_pure rfl
  | str x => obtain ⟨t, e⟩ := (show ∃ t, u = Value.str x t from r); cases e; exact PySem.W.Looks.of_pure rfl
  | @lst a xs h =>
    cases (show u = Value.ref a from r)
    obtain ⟨its, rv, p, _⟩ := I.list (SqL.of h)
    obtain ⟨o, ho, hc, _⟩ := p.isList
    exact ref a o ho hc
  | @tup a xs h =>
    cases (show u = Value.ref a from r)
    obtain ⟨its, rv, ⟨o, ho, hc, _⟩, _⟩ := I.tuple (SqT.of h)
    exact ref a o ho hc
  | @dct a xs h =>
    cases (show u = Value.ref a from r)
    obtain ⟨_, _, vs, _, o, es, ep, h1, h2, _⟩ := (show ObjOk X.prog X.w H s.heap a (.dK xs) from I.hok a _ h)
    exact ref a o h1 h2.1
/-- x op y, x an instance of the class at C with an own def for op, y a plain value -/
def rOwnE (K : PySem.W.Frag) (C : Addr) (sp : Sp) (E : XK) : R2 := fun x y H Q => rOwn K C sp E x y H Q ∨ ∃ a dx vs t, x = .ref a ∧ Slt H a C dx vs ∧ Pl K H y t ∧ sp [x, y] H Q E
theorem op_eqE {K : PySem.W.Frag} (hK : X.K = K) (O : Ob X.K X.mg x C) (kn : kitN X.K C = true) (D : Mt X.K C "__eq__" q st ps f fd) (G : FnOk X.prog X.w X.K X.mg X.base CX0 k f fd ps sp) (hr : Room k X.A) : OpR X (compareOp .Eq) (rOwnE K C sp E0) := by
  subst hK
  intro pins s σ H x y v u Q I rx ry h
  rcases h with h | ⟨a, dx, vs, t, rfl, ha, p, q⟩
  · exact op_eqS O D G hr pins s σ H x y v u Q I rx ry h
  · cases (show v = Value.ref a from rx)
    obtain ⟨sl, od, _, J, _⟩ := slt_inst I ha
    obtain ⟨m, hF⟩ := I.fr
    show wpAny _ _ (richCompare .Eq (.ref a) u) _ _ _
    refine PySem.W.cmp_K (op := .Eq) (tb := .type t) hr.units0 hF I.ok.mod.kin J (pl_looks I p ry) (kitN_at kn p).2 D.at_ D.fn ?_
    refine wpAny_mono (wpAny_call (run_fnR (us := [.ref a, u]) (vs := [.ref a, y]) (toR G D.b) hr pass0 I (.cons rfl (.cons ry .nil)) q)) (fun w s' z => ?_) fun _ _ x => x
    obtain ⟨z', H', I', rz, qz⟩ := z
    exact cmpback rz ⟨z', H', I', rz, qz⟩
def rOwnNeE (K : PySem.W.Frag) (C : Addr) (sp : Sp) (E : XK) : R2 := fun x y H Q => rOwnNe K C sp E x y H Q ∨ ∃ a dx vs t, x = .ref a ∧ Slt H a C dx vs ∧ Pl K H y t ∧ sp [x, y] H (fun z H' => ∃ c, z = .bl c ∧ Q (.bl (!c)) H') E
theorem op_neE {K : PySem.W.Frag} (hK : X.K = K) (O : Ob X.K X.mg x C) (kn : kitN X.K C = true) (D : Mt X.K C "__eq__" q st ps f fd) (G : FnOk X.prog X.w X.K X.mg X.base CX0 k f fd ps sp) (hr : Room (k + 1) X.A) : OpR X (compareOp .NotEq) (rOwnNeE K C sp E0) := by
  subst hK
  intro pins s σ H x y v u Q I rx ry h
  rcases h with h | ⟨a, dx, vs, t, rfl, ha, p, q⟩
  · exact op_neS O D G hr pins s σ H x y v u Q I rx ry h
  · cases (show v = Value.ref a from rx)
    obtain ⟨sl, od, _, J, _⟩ := slt_inst I ha
    refine LPO.ne_own (tb := .type t) (by have := hr.units; omega) I.kIn J (pl_looks I p ry) (kitN_at kn p).2 O.si.cm O.ne D.at_ D.fn ?_
    refine wpAny_mono (wpAny_call (run_at (us := [.ref a, u]) (ws := [.ref a, y]) (toR G D.b) hr.in1 I.env0.in1 pass0 I (.cons rfl (.cons ry .nil)) q)) (fun w s' z => ?_) fun _ _ x => x
    obtain ⟨z', H', I', rz, c, ez, qz⟩ := z
    subst ez
    cases (show w = Value.bool c from rz)
    exact ⟨c, rfl, .bl (!c), H', I', rfl, qz⟩
/-- l.m() of a tracked list -/
def tLM0 (r : V → List V → Hp → VK → Prop) (to : TE) : TE := fun σ H Q => to σ H fun x H1 => ∃ p ys, x = .ref p ∧ H1 p = some (.lst ys) ∧ r x [] H1 Q
theorem pe_lm0 {name : Str} {cpos : Pos} {id : String} {r : V → List V → Hp → VK → Prop} {to : TE} (pa : PlainAttrs "list") (slot : Slot "list" name id) (hty : typeOf (.builtin id) = pure (.type "method_descriptor")) (hm : MtR X id r) (ho : PE X o to)
    (hbase : attributeBase o name X.env (eval o X.env) = eval o X.env := by rfl) (hline : (apos.endLine == cpos.line) = true := by rfl) : PE X (.Call (.Attribute o name apos) [] [] cpos) (tLM0 r to) := by
  refine pe_imp (pe_bm0 pa slot hty hm (pe_up ho) hbase hline) ?_
  intro σ H Q h
  refine ⟨_, h, ?_⟩
  rintro v H1 ⟨p, ys, rfl, hp, q⟩
  exact ⟨.inl ⟨rfl, ys, SqL.of hp⟩, q⟩
/-- x in a tracked tuple, in a tracked list, of flat values -/
def rInT (neg : Bool) : R2 := fun x y H Q => ∃ p xs, y = .ref p ∧ H p = some (.tup xs) ∧ flatV x = true ∧ xs.all flatV = true ∧ Q (.bl (if neg then !inV x xs else inV x xs)) H
theorem op_inT : OpR X (compareOp .In) (rInT false) := op_imp op_in_seq fun x y H Q ⟨p, xs, h1, h2, h3, h4, q⟩ => ⟨p, xs, h1, .inr (SqT.of h2), h3, h4, q⟩
theorem op_ninT : OpR X (compareOp .NotIn) (rInT true) := op_imp op_notIn_seq fun x y H Q ⟨p, xs, h1, h2, h3, h4, q⟩ => ⟨p, xs, h1, .inr (SqT.of h2), h3, h4, q⟩
def rInL (neg : Bool) : R2 := fun x y H Q => ∃ p xs, y = .ref p ∧ H p = some (.lst xs) ∧ flatV x = true ∧ xs.all flatV = true ∧ Q (.bl (if neg then !inV x xs else inV x xs)) H
theorem op_inL : OpR X (compareOp .In) (rInL false) := op_imp op_in_seq fun x y H Q ⟨p, xs, h1, h2, h3, h4, q⟩ => ⟨p, xs, h1, .inl (SqL.of h2), h3, h4, q⟩
theorem op_ninL : OpR X (compareOp .NotIn) (rInL true) := op_imp op_notIn_seq fun x y H Q ⟨p, xs, h1, h2, h3, h4, q⟩ => ⟨p, xs, h1, .inl (SqL.of h2), h3, h4, q⟩
end
end LP

set_option Elab.async false
set_option linter.all false
set_option maxRecDepth 100000
set_option maxHeartbeats 4000000
/-! LPL: defs that let an exception out, lambdas handed to a def that catches. -/
namespace LP
open PySem PySem.Spec L2 SlX
open PyProof.Rows hiding St
/-! ### defs that let an exception out -/
section
variable {P : Program} {w : World} {K : PySem.W.Frag} {mg : Str → Option Value} {base : Heap} {x qual : Str} {st : Stmt} {f : Addr} {fd : FuncData} {N ps : List Str} {k : Nat} {sp : Sp}
theorem okX (F : Fun K x qual st f fd) (S : FnScope N ps (defScope st)) (len : ∀ vs H Q E, sp vs H Q E → vs.length = ps.length)
    (hbody : ∀ (cdv : Value) (A : Around) (outer : List Env) (s : Shared) (H : Hp) (vs : List V) (Q : VK) (E : XK), Room k (A.deeper (envOfC qual (defScope st) s.heap.objs.size f cdv)) →
      Takes (cxOf (L2.CX P w) P w K mg base N qual (defScope st) f cdv A outer s H E) (fun cls d _ H' => E cls d H') → sp vs H Q E →
      ∃ t, PSs (cxOf (L2.CX P w) P w K mg base N qual (defScope st) f cdv A outer s H E) (defBody st) t ∧ t { nx := fun _ H' => Q .non H', rt := Q } (start N vs) H) :
    FnOk P w K mg base (L2.CX P w) (k + 1) f fd ps sp := by
  obtain ⟨oc, od, kV, doc, pm, an, cdv, ct, osl, rfl, lk, hcd⟩ := F.ex
  refine fn_of lk hcd S len fun A outer s H vs Q E hr hsp => hbody cdv A outer s H vs Q E hr ?_ hsp
  exact takes_of rfl rfl rfl rfl
/-- the same for a def whose code is known -/
theorem okL {c : Addr} (F : Fun K x qual st f fd) (hc : fd.code = .ref c) (S : FnScope N ps (defScope st)) (len : ∀ vs H Q E, sp vs H Q E → vs.length = ps.length)
    (hbody : ∀ (A : Around) (outer : List Env) (s : Shared) (H : Hp) (vs : List V) (Q : VK) (E : XK), Room k (A.deeper (envOfC qual (defScope st) s.heap.objs.size f (.ref c))) → sp vs H Q E →
      ∃ t, PSs (cxOf CX0 P w K mg base N qual (defScope st) f (.ref c) A outer s H E).nox (defBody st) t ∧ t { nx := fun _ H' => Q .non H', rt := Q } (start N vs) H) :
    FnOk P w K mg base CX0 (k + 1) f fd ps sp := by
  obtain ⟨oc, od, kV, doc, pm, an, cdv, ct, osl, rfl, lk, hcd⟩ := F.ex
  have e : cdv = .ref c := hc
  subst e
  refine fn_of lk hcd S len fun A outer s H vs Q E hr hsp => ?_
  obtain ⟨t, h, q⟩ := hbody A outer s H vs Q E hr hsp
  exact ⟨t, h.nox, q⟩
end
section
variable {X : Cx} {k : Nat} {f C p : Addr} {fd : FuncData} {ps : List Str} {sp : Sp} {x m q : Str} {st : Stmt} {e o : Expr} {es : List Expr} {np pos apos : Pos} {ta : TE} {t : TA} {E : XK}
/-- what a callee lets out goes on -/
theorem passX (tk : Takes X (fun cls d _ H => E cls d H)) : Passes (L2.CX X.prog X.w) X E := passes_call tk fun _ _ _ _ h => h
/-- C(e, ..), which may raise -/
theorem pe_mkX (tk : Takes X (fun cls d _ H => E cls d H)) (O : Ob X.K X.mg x C) (D : Mt X.K C "__init__" q st ps f fd) (G : FnOk X.prog X.w X.K X.mg X.base (L2.CX X.prog X.w) k f fd ps sp) (hr : Room (k + 1) X.A) (hg : Gl X x) (ha : PA X (e :: es) t) (hdb : (x == ("__debug__" : Str)) = false := by decide)
    (he : starEach (e :: es) X.env = (false, eval e X.env) :: starEach es X.env := by rfl) (hpl : (backTo pos (starEach es X.env)).any (·.1) = false := by rfl) : PE X (.Call (.Name x np) (e :: es) [] pos) (StX.tMakeR C sp E t) :=
  StX.pe_makeR ⟨O.mks, D.at_, D.fn, O.kp⟩ (toR G D.b) hr hg O.g (passX tk) ha hdb he hpl
theorem pe_mt0X {pl : Sem Bool} (tk : Takes X (fun cls d _ H => E cls d H)) (O : Ob X.K X.mg x C) (D : Mt X.K C m q st ps f fd) (G : FnOk X.prog X.w X.K X.mg X.base (L2.CX X.prog X.w) k f fd ps sp) (hr : Room k X.A) (he : PE X o ta)
    (ht : eval (.Call (.Attribute o m apos) [] [] pos) X.env = (do
      let ov ← eval o X.env
      standAt apos.atName
      let (f, first) ← holding [ov] (getMethod ov m pl)
      callWith pos f first (backTo pos (starEach [] X.env)) (backToKw pos (keywordEach [] X.env))) := by rfl) :
    PE X (.Call (.Attribute o m apos) [] [] pos) (tMethSl C sp E ta tNil) := pe_methSl0 he O.sc D.m (toR G D.b) hr (passX tk) ht
theorem op_binX {op : Operator} (tk : Takes X (fun cls d _ H => E cls d H)) (O : Ob X.K X.mg x C) (D : Mt X.K C (PySem.dunder op.info.2) q st ps f fd) (G : FnOk X.prog X.w X.K X.mg X.base (L2.CX X.prog X.w) k f fd ps sp) (hr : Room k X.A) : OpR X (binaryOp op) (rOwnB C sp E) :=
  op_ownB O.sf D.at_ D.fn (toR G D.b) hr (passX tk)
/-- isinstance(x, T), x an instance with slots -/
theorem call_isiSK {K : PySem.W.Frag} (hK : X.K = K) (u : Value) : CallR X (.builtin "isinstance") (rIsiSl K u) := by
  subst hK
  exact call_isiSl u
def rReprB : List V → Hp → VK → Prop := fun xs H Q => ∃ b, xs = [.bl b] ∧ Q (.str (if b then "True" else "False")) H
theorem call_reprB : CallR X (.builtin "repr") rReprB := by
  intro pins s σ H xs us Q I r h
  obtain ⟨b, rfl, q⟩ := h
  obtain ⟨u, rfl, rfl⟩ := vals1 r
  exact PySem.P.repr_of_bool ⟨.str _, H, I.tok _, ⟨_, rfl⟩, q⟩
end
/-! ### lambdas -/
section
open LamX
theorem takes_lam {X : Cx} {A : Around} {outer : List Env} {s : Shared} {H : Hp} {E : XK} {scope : Scope} {f c' : Addr} : Takes (lamCx X A outer s H E scope f c') (fun cls d _ H' => E cls d H') := takes_of rfl rfl rfl rfl
variable {X : Cx}
/-- try: a() / except x: return True / return False -/
def TTw (K : PySem.W.Frag) (CS : Addr) : (XK → Hp → VK → Prop) → Hp → VK → Prop := fun tl H Q =>
  tl (fun cls _ H' => PySem.W.exmOne K cls (.ref CS) = some true ∧ Q (.bl true) H') H (fun _ H' => Q (.bl false) H')
theorem word_gives {Ng : List Str} {x a e q : Str} {sg : Scope} {g CS : Addr} {cdg : Value} {j i : Nat} {p1 p2 p3 p4 p5 p6 p7 p8 p9 p10 : Pos} (hge : sg.names.lookup e = some .globalImplicit) (hme : X.mg e = some (.ref CS)) (hde : (e == ("__debug__" : Str)) = false) (h0 : ∀ f : Addr, (L2.start Ng [V.ref f])[0]? = some (some (V.ref f))) :
    GivesTo X Ng x sg g cdg [.Try [.Expr (.Call (.Name a p1) [] [] p2) p3] [.ExceptHandler (some (.Name e p4)) none [.Return (some (.Constant (.bool true) j p5)) p6] p7] [] [] p8, .Return (some (.Constant (.bool false) i p9)) p10] a q (TTw X.K CS) := by
  intro f c' s H Q tl act hc h
  have hgl : Gl (cxOf C8.CX0 X.prog X.w X.K X.mg X.base Ng x sg g cdg X.A X.stack s H C8.E0).nox e := hge
  refine ⟨_, pss_cons (ps_try_only (X := (cxOf C8.CX0 X.prog X.w X.K X.mg X.base Ng x sg g cdg X.A X.stack s H C8.E0).nox) (c := .ref CS)
      (tb := fun W D σ H => ∃ Ech : XK, (∀ cls d σ' H', Ech cls d H' → W cls d σ' H') ∧ σ[0]? = some (some (.ref f)) ∧ H c' = some (CodeO c' q) ∧ tl Ech H fun _ H' => D.nx σ H')
      rfl rfl ⟨hgl, hde, .inl hme⟩ LamX.takes0 (fun W pn xe tk _ => ?_) (fun a oe cls d pn _ _ => pss_one (ps_ret pe_bl))) (pss_one (ps_ret pe_bl)), ?_⟩
  · refine ⟨fun pins s' σ H' D I h' => ?_⟩
    obtain ⟨Ech, hW, h1, h2, h3⟩ := h'
    have hp := act W pn xe Ech p1 p2 tk hW
    have hq := pss_one (ps_expr (pos := p3) hp)
    exact hq.run pins s' σ H' D I ⟨h1, h2, h3⟩
  · exact ⟨fun cls _ H' => PySem.W.exmOne X.K cls (.ref CS) = some true ∧ Q (.bl true) H', fun cls d σ' H' ⟨e1, e2⟩ => ⟨true, e1, fun hb a _ => e2, fun hb => by cases hb⟩, h0 f, hc, h⟩
/-- x(lambda: body), x a def of this form -/
theorem pe_lw {K : PySem.W.Frag} {T : List (Addr × Str)} {x a e : Str} {g c P CS : Addr} {fd : FuncData} {st : Stmt} {Ng : List Str} {params : Arguments} {body : Expr} {scope : Scope} {t : XK → TE} {p lpos pos : Pos} {j i : Nat} {p1 p2 p3 p4 p5 p6 p7 p8 p9 p10 : Pos} (k : Nat) (hK : X.K = K)
    (D : Df X.K X.mg x st [a] g fd) (Sg : FnScope Ng [a] (defScope st)) (hNg : Ng[0]? = some a) (hva : Vis (defScope st) a)
    (hbg : defBody st = [.Try [.Expr (.Call (.Name a p1) [] [] p2) p3] [.ExceptHandler (some (.Name e p4)) none [.Return (some (.Constant (.bool true) j p5)) p6] p7] [] [] p8, .Return (some (.Constant (.bool false) i p9)) p10])
    (hge : (defScope st).names.lookup e = some .globalImplicit) (hme : X.mg e = some (.ref CS)) (hde : (e == ("__debug__" : Str)) = false) (h0 : ∀ f : Addr, (L2.start Ng [V.ref f])[0]? = some (some (V.ref f)))
    (hg : Gl X x) (TB : TabB X.base X.mg c P) (hcode : X.env.code = .ref c) (hmT : (P, X.env.qual ++ "<lambda>") ∈ T) (hu : ∀ p ∈ T, p.1 = P → p.2 = X.env.qual ++ "<lambda>") (hr : Room (k + 2) X.A) (L : LamS X.env.scope scope) (hdef : defaultsOf params X.env = ([], []))
    (hbind : ∀ (q : Str) (cl : List (Str × Addr)) (pm cv ctv : Value), bindArgs (PySem.W.kla_fn "<lambda>" q params body scope cl pm cv ctv) ⟨[], []⟩ = pure [])
    (hbody : ∀ (A : Around) (outer : List Env) (s : Shared) (H : Hp) (E : XK) (f c' : Addr), Room k (A.deeper (lamEnv X scope s.heap.objs.size f c')) → PE (lamCx X A outer s H E scope f c') body (t E))
    (hdb : (x == ("__debug__" : Str)) = false := by decide) (hd : (a == ("__debug__" : Str)) = false := by decide) (hcd : (a == ("__classdict__" : Str)) = false := by decide) :
    PE X (.Call (.Name x p) [.Lambda params body scope lpos] [] pos) (tLam T (TTw K CS) t) := by
  subst hK
  obtain ⟨oc, od, kV, doc, pm, an, cdv, ct, osl, rfl, lk, hcg⟩ := D.F.ex
  refine pe_lamcall hg D.g D.F.kp lk hcg D.b Sg hNg hva ?_ TB hcode hmT hu hr L hdef hbind hbody hdb hd hcd
  rw [hbg]
  exact word_gives hge hme hde h0
theorem tLam_eq {T : List (Addr × Str)} {TT : (XK → Hp → VK → Prop) → Hp → VK → Prop} {t : XK → TE} {σ : L2.St} {H : Hp} {Q : VK} : tLam T TT t σ H Q = (Tabs T H ∧ ∀ H1, ExtN H H1 → Tabs T H1 → TT (fun E H' Q' => t E σ H' Q') H1 Q) := rfl
theorem TTw_eq {K : PySem.W.Frag} {CS : Addr} {tl : XK → Hp → VK → Prop} {H : Hp} {Q : VK} : TTw K CS tl H Q = tl (fun cls _ H' => PySem.W.exmOne K cls (.ref CS) = some true ∧ Q (.bl true) H') H (fun _ H' => Q (.bl false) H') := rfl
/-- the end of a law whose defs make lambdas -/
theorem walk_ofAll {l : PySem.W.OpenLaw} {n k : Nat} {q : Program} {loose : List Str} {XP : (Str → Option Value) → Heap → Prop} {YP : World → Heap → Prop} {d : DefRec} {K : Params → PySem.W.Frag} {x : Str}
    (hn : l.most = some n) (hn2 : n ≤ sizeLine) (hdf : d.params.defaults = []) (hr : Room k callerA) (hY : ∀ (w : World) (h : Heap), YP w h → (K w.params).In h)
    (F : ∀ (w : World) (mg : Str → Option Value) (fa : Addr) (h : Heap), (K w.params).In h → h.Ns mainGlobals mg → mg d.name = some (.ref fa) →
      (∀ (y : Str) (c P : Addr), ((recsOf q).find? fun e => e.name == y).isSome = true → PySem.W.tabIn (K w.params) y = some (c, P) → PySem.W.CodeHd h c P ∧ h.get? P = some { cls := .none, data := .fields #[] }) → LawAtS l w (K w.params) CX0 k n x mg fa h) :
    PySem.W.WalkO q loose XP YP l.row.toRowW d [] (fun f vs => PySem.call f vs) := by
  refine Att.attach_callB hn hdf fun w s₀ s₁ mg mb fa o pm cd doc a vs ns G Y ho hd hcd hmg hobj hints hlen hbits hg => ?_
  have KX := hY w _ Y
  obtain ⟨fd, cs, sp, hT, nT, C, hb, hsp, hF⟩ := F w mg fa _ KX G.T.g hmg fun y c P hr ht => by
    obtain ⟨d', hd'⟩ := Option.isSome_iff_exists.mp hr
    exact PySem.W.tab_of G.T KX hd' ht
  exact law_callTs KX G.T.g G.T.b G.T.builtins G.T.nolimit hg hT nT C G.T.bmain hobj hints (Nat.le_trans hlen hn2) hr hF hb (fun H hH hS => hsp H a ns hlen hbits hH hS) fun H e s' z => z
end
end LP

set_option Elab.async false
set_option linter.all false
set_option maxRecDepth 100000
set_option maxHeartbeats 4000000
/-! LPM: dicts with tuple keys: items walked, comprehensions, sorted. -/
namespace LP
open PySem PySem.Spec L2 SlX
open PyProof.Rows hiding St
/-! ### d.items(), the keys tuples -/
section
variable {X : Cx} {pins : List (Addr × Obj)} {σ : L2.St} {H : Hp} {s : Shared} {d : Addr} {o : Obj}
/-- what a locked dict with tuple keys is: its entries -/
theorem frzT2 {ws : List (List Key × V)} (I : Inv X pins σ H s) (hd : H d = some (.frz o (.dT ws))) : (d == sysModules) = false ∧ s.heap.get? d = some o ∧ o.ExactDict ∧
    ∃ (es : Array DictEntry) (ep : Nat), o.data = .dict es ep ∧ es.size = ws.length ∧ ∀ (i : Nat) (k : List Key) (v : V), ws[i]? = some (k, v) → ∃ (en : DictEntry) (q : Addr), es[i]? = some en ∧ en.key = .ref q ∧ H q = some (.tup (k.map kV)) ∧ RelV v en.val := by
  obtain ⟨g, z, hs, xs, pr, o', es, ep, ho, hx, hdt, he, hn⟩ := I.hok d _ hd
  rw [g] at ho
  cases ho
  refine ⟨hs, g, hx, es, ep, hdt, ?_, fun i k v hi => ?_⟩
  · have a1 : es.size = xs.length := size_of_entries he
    have a2 : ws.length = xs.length := Paired.length pr
    omega
  · obtain ⟨b, hb, e1, e2, e3⟩ := paired_get pr hi
    have en := entry_at he i
    rw [hb] at en
    exact ⟨_, b.2.1, en, rfl, e2, e3⟩
end
/-- each turn a new pair of the key's own tuple and the value -/
def ItI (d : Addr) (o : Obj) (ws : List (List Key × V)) : It :=
  ⟨fun i H => H d = some (.frz o (.dT ws)) ∧ i < ws.length, fun i H x H' => ∃ (T q : Addr) (k : List Key) (v : V), ws[i]? = some (k, v) ∧ x = .ref T ∧ H T = none ∧ H q = some (.tup (k.map kV)) ∧ H' = upd H T (.tup [.ref q, v]), fun i H => H d = some (.frz o (.dT ws)) ∧ ws.length ≤ i⟩
theorem turn_itI {P : Program} {w : World} {K : PySem.W.Frag} {d : Addr} {o : Obj} {es : Array DictEntry} {ep kk : Nat} {tpos : Pos} {elts : List Expr} {ws : List (List Key × V)} (it : Addr) (hod : o.data = .dict es ep) (hsz : es.size = ws.length) :
    Turn P w K (.Tuple elts kk tpos) (ItI d o ws) [it] it (fun i h => ∃ ok ov, IsItemIter h it d i es.size ep ok ov) where
  mem := List.mem_singleton.mpr rfl
  obj := fun i h st b hb => by
    rw [List.mem_singleton.mp hb]
    obtain ⟨ok, ov, e⟩ := st
    exact ⟨_, e, fun v z => nomatch z⟩
  keep := fun i h h' ⟨ok, ov, e⟩ k => ⟨ok, ov, k it (List.mem_singleton.mpr rfl) _ e⟩
  item := by
    intro X hP hw hK hc i pins s σ H E I hf st hg
    subst hP hw hK
    obtain ⟨hd, hi⟩ := hg
    obtain ⟨hs, hgd, hx, es', ep', hdt, hsz', ent⟩ := frzT2 I hd
    obtain ⟨rfl, rfl⟩ := dict_ep hod hdt
    obtain ⟨⟨k, v⟩, hkv⟩ : ∃ p, ws[i]? = some p := ⟨ws[i], List.getElem?_eq_getElem hi⟩
    obtain ⟨en, q, hen, hkey, hq, rv⟩ := ent i k v hkv
    obtain ⟨ok, ov, he⟩ := st
    have hlt : it < s.heap.objs.size := Heap.lt_size he
    have his : i < es'.size := by omega
    have heq : es'[i] = en := by
      rw [Array.getElem?_eq_getElem his] at hen
      exact Option.some.inj hen
    refine DT.nextI he ⟨o, hgd, hx, hod⟩ his fun h' ho hT hz hk => ?_
    rw [heq] at ho hT
    refine ⟨_, rfl, wpAny_letOwnedTupleGo_items (s := { s with heap := h' }) ho fun h2 he2 sb => ?_⟩
    have hT2 : h2.get? s.heap.objs.size = some { cls := .type "tuple", data := .seq #[en.key, en.val] } := (sb.2 _ (Nat.ne_of_gt hlt)).trans hT
    have nw : ObjOk X.prog X.w (upd H s.heap.objs.size (.tup [.ref q, v])) h2 s.heap.objs.size (.tup [.ref q, v]) :=
      ⟨by show 2 ≤ sizeLine; decide, [en.key, en.val], .cons hkey (.cons rv .nil), ⟨_, hT2, rfl, _, rfl⟩⟩
    have J : Inv X pins σ (upd H s.heap.objs.size (.tup [.ref q, v])) { s with heap := h2 } :=
      I.turnedNew (t' := s.toks) (ch := [it]) (fun b ob hb e => (sb.2 b (fun z => hb (List.mem_singleton.mpr z))).trans (hk b ob (fun z => hb (List.mem_singleton.mpr z)) e)) hf (Nat.le_refl _) nw
    refine ⟨.ref s.heap.objs.size, _, J, rfl, ⟨_, q, k, v, hkv, rfl, I.hok.fresh (Nat.le_refl _), hq, rfl⟩, ⟨_, _, he2⟩, fun b hb => ?_⟩
    rw [List.mem_singleton.mp hb, upd_ne (Nat.ne_of_lt hlt)]
    exact (hf it (List.mem_singleton.mpr rfl)).1
  done := by
    intro X hP hw hK hc i pins s σ H E I hf st hg
    subst hP hw hK
    obtain ⟨hd, hi⟩ := hg
    obtain ⟨f0, f1, f2, f3, f4, f5⟩ := hf it (List.mem_singleton.mpr rfl)
    obtain ⟨hs, hgd, hx, es', ep', hdt, hsz', ent⟩ := frzT2 I hd
    obtain ⟨rfl, rfl⟩ := dict_ep hod hdt
    obtain ⟨ok, ov, he⟩ := st
    exact DT.endI (I.ok.hd hc) he ⟨o, hgd, hx, hod⟩ (by omega) fun h' eb => ⟨rfl, I.turned (t' := s.toks) (fun b ob hb e => eb b ob hb e) f0 f1 f3 f4 f5⟩
  self := fun A i s Q E ⟨_, _, e⟩ h => PySem.W.kcp_self e h
def iItT (td : TE) : TI := fun σ H R => td σ H fun x H1 => ∃ d o ws, x = .ref d ∧ H1 d = some (.frz o (.dT ws)) ∧ R (ItI d o ws) H1
/-- for (..), v in d.items() -/
theorem pi_itT {X : Cx} {e : Expr} {td : TE} {elts : List Expr} {kk : Nat} {tpos apos cpos : Pos} (he : PE X e td) (hbase : attributeBase e "items" X.env (eval e X.env) = eval e X.env := by rfl) (hline : (apos.endLine == cpos.line) = true := by rfl) :
    PI X (.Tuple elts kk tpos) (.Call (.Attribute e "items" apos) [] [] cpos) (iItT td) := by
  refine ⟨fun pins s σ H R I h => ?_⟩
  refine wpAny_Call_method (T := "dict") (id := "dict.items") hbase rfl hline F.plainAttrs_dict F.slot_dict_items F.type_dict_items (thn (he.run pins s σ H _ I h) fun u s1 ⟨x, H1, I1, rx, d, o, ws, ex, hd, q⟩ => ?_)
  subst ex
  obtain rfl : u = Value.ref d := rx
  obtain ⟨hs, hgd, hx, es, ep, hdt, hsz, ent⟩ := frzT2 I1 hd
  have raw : DT.Raw s1.heap d es ep := ⟨o, hgd, hx, hdt⟩
  refine ⟨raw.typeIs, fun a e => by cases e; exact ⟨o, hgd, hx.2.1⟩, ?_⟩
  have J : Inv X pins σ H1 { s1 with heap := s1.heap.push { cls := .type "dict_items", data := .fields #[.ref d] } } := I1.kept (t' := s1.toks) fun b ob q => Heap.get?_push_of_some _ q
  have fin : wpAny (model X.prog X.w) X.A (pyIter (.ref s1.heap.objs.size)) (PIE X pins σ (.Tuple elts kk tpos) R) X.xe { s1 with heap := s1.heap.push { cls := .type "dict_items", data := .fields #[.ref d] } } := by
    refine DT.iterI (d := d) ⟨_, Heap.get?_push_size _ rfl, rfl, rfl⟩ (raw.push _) (pi_one (tk := s1.toks) J _ (turn_itI _ hdt hsz) ⟨.none, .none, ?_⟩ q)
    exact Heap.get?_push_size _ rfl
  show wpAny _ _ (callWith cpos (.builtin "dict.items") [.ref d] [] []) _ X.xe s1
  exact method_meetsIn F.slot_dict_items F.entry_dict_items rfl (PySem.evalArgs_none ⟨rfl, raw.typeIs, F.args_dict_items_1 _, _, DT.meetsItems (es := es) (ep := ep) hs, raw, fin⟩)
/-! ### {k: v for .. in ..}, the keys tuples -/
section
variable {X : Cx}
theorem dset_ok {pins : List (Addr × Obj)} {σ : L2.St} {H H' : Hp} {s : Shared} {E : Value → Shared → Prop} {D : Addr} {y v : V} {u r : Value} {Q : Unit → Shared → Prop} (hu : X.A.units + 1 < cLine) (J : Inv X pins σ H s) (g : DPut H D y v H') (ry : RelV y u) (rv : RelV v r)
    (fin : ∀ s', Inv X pins σ H' s' → Q () s') : wpAny (model X.prog X.w) X.A (dictSet D u r) Q E s := by
  rcases g with ⟨ws, k, hD, rfl, hz, rfl⟩ | ⟨ws, k, b, hD, rfl, hb, hz, rfl⟩
  · exact d_dictSet J hD hz ry rv fin
  · cases (show u = Value.ref b from ry)
    obtain ⟨z, hd, xs, rel, dd⟩ := dt_of J.hok hD
    have zx : xs.length ≤ sizeLine := Paired.length rel ▸ z
    have zp : (putK ws k v).length ≤ sizeLine := Nat.le_trans (length_putK ws k v) hz
    refine wpAny_dictSet_heap (hsz := zx) (show (tupleKind (mixKind X.prog X.w)).room X.A from Nat.lt_of_succ_lt hu) (key_of J.hok hb) dd fun h2 d2 sb => fin _ ?_
    obtain ⟨q, es, ep, hq, g2, g3, g4, _, g5⟩ := d2
    have ht : ∀ c ys, H c = some (.tup ys) → upd H D (.dT (putK ws k v)) c = some (.tup ys) := fun c ys ec => (upd_ne (ne_of ec hD fun z => nomatch z)).trans ec
    exact d_write J (by rw [hD]; exact True.intro) sb ⟨q, hq⟩ ⟨zp, hd, _, (rel.put k hb rv).keeps ht, q, es, ep, hq, g2, g3, g4, g5⟩
/-- D: the new dict, t0 its kind -/
def tDcT (wi : TI) (g : TG) (tt : TT) (tk tv : TE) (vs : List Nat) : TE := fun σ H Q => wi σ H fun J H1 => ∀ D, H1 D = none → ∃ W : Nat → Nat → Hp → Prop, (∃ m, W 0 m (upd H1 D (.dT []))) ∧ ∀ i m H, W i m H →
  (J.stop i H ∧ Q (.ref D) H) ∨ (J.go i H ∧ ∃ Nx : Hp → Prop, (∀ H', Nx H' → ∃ m', m' < m ∧ W (i + 1) m' H') ∧ ∀ x H', J.yld i H x H' → g x (wipe σ vs) H' fun σ2 H2 => wipe σ2 vs = wipe σ vs ∧ tt σ2 H2 fun b H3 =>
    if b = true then tk σ2 H3 fun y H4 => tv σ2 H4 fun z H5 => ∃ H6, DPut H5 D y z H6 ∧ Nx H6 else Nx H3)
/-- the block's context, in which target, tests, key and value are read -/
abbrev Blk (X : Cx) (scope : Scope) (P : Cx → Prop) : Prop := ∀ (s : Shared) (H : Hp) (C : Addr) (cl : List (Str × Addr)) (fp : List Addr), P (X.blk s H scope (compEnvC scope cl C X.env) fp)
theorem pe_dcT {kx vx tg iter : Expr} {ifs : List Expr} {scope : Scope} {own : List (Str × Nat)} {pos : Pos} {wi : TI} {g : TG} {tt : TT} {tk tv : TE} (hu : X.A.units + 1 < cLine) (hc : X.calm = true) (hN : X.N.Nodup) (hi : PI X tg iter wi) (ok : BlkOk X.N X.env.scope scope own)
    (hg : Blk X scope fun Y => PG Y tg g) (ht : Blk X scope fun Y => PTs Y ifs tt) (hk : Blk X scope fun Y => PE Y kx tk) (hv : Blk X scope fun Y => PE Y vx tv) (hs : ∀ x, foldedSetIterable iter X.env x = pure x := by intro _; rfl) :
    PE X (.DictComp kx vx [⟨tg, iter, ifs, 0⟩] scope pos) (tDcT wi g tt tk tv (own.map (·.2))) := by
  refine ⟨fun pins s σ H Q I h => ?_⟩
  rw [arm_eval_DictComp]
  have has : ∀ y ∈ scope.names, y.2 = .free → ∃ c, X.env.cells.lookup y.1 = some c := fun y hy e => (ok.free y hy e).elim (fun k => I.ok.has _ (.inl k)) (fun k => I.ok.has _ (.inr k))
  refine wpAny_comprehension_free rfl hs (closure_ok has) ok.kind (fun y hy e => by rw [ok.uniq y hy, e]) ?_
  refine thn (hi.run pins s σ H _ I h) fun xv s1 hx => thn hx fun itv s2 h2 => ?_
  obtain ⟨it, fp, tn, J, H2, rfl, I2, T, st2, f2, q⟩ := h2
  refine wpAny_newObj_type (newEnv_comp ?_)
  obtain ⟨D, hD⟩ : ∃ D, s2.heap.objs.size = D := ⟨_, rfl⟩
  rw [hD]
  have fresh : H2 D = none := I2.hok.fresh (Nat.le_of_eq hD)
  obtain ⟨W, ⟨m0, w0⟩, turn⟩ := q D fresh
  obtain ⟨s3, hs3⟩ : ∃ s3 : Shared, s3 = { s2 with heap := s2.heap.push { cls := .type "dict", data := .dict #[] } } := ⟨_, rfl⟩
  have hh3 : s3.heap = s2.heap.push { cls := .type "dict", data := .dict #[] } := by rw [hs3]
  have old : ∀ b o, s2.heap.get? b = some o → s3.heap.get? b = some o := fun b o e => by rw [hh3]; exact Heap.get?_push_of_some _ e
  obtain ⟨H3, hH3⟩ : ∃ H3, upd H2 D (.dT []) = H3 := ⟨_, rfl⟩
  rw [hH3] at w0
  have I3 : Inv X pins σ H3 s3 := by
    rw [← hH3, hs3]
    refine I2.laid (t' := s2.toks) (fun b o e => Heap.get?_push_of_some _ e) (Nat.le_of_eq hD) ?_
    rw [← hD]
    exact dt_empty s2.heap I2.big
  have f3 : ∀ b ∈ fp, FpOk X pins H3 b ∧ b < s3.heap.objs.size := fun b hb => by
    obtain ⟨o, e, _⟩ := T.obj _ _ st2 b hb
    have lt2 := Heap.lt_size e
    have nb : b ≠ D := Nat.ne_of_lt (hD ▸ lt2)
    refine ⟨⟨?_, (f2 b hb).2⟩, Heap.lt_size (old b o e)⟩
    rw [← hH3, upd_ne nb]
    exact (f2 b hb).1
  have st3 : tn 0 s3.heap := T.keep _ _ _ st2 fun b _ o e => old b o e
  have I4 := block_start I3 ok hN f3
  rw [← hs3]
  obtain ⟨ce, hce⟩ : ∃ ce, compEnvC scope (cellsFrom (s3.heap.objs.size + 1) scope.names (cloFrom X.env.cells scope.names [])) s3.heap.objs.size X.env = ce := ⟨_, rfl⟩
  have here := And.intro (hg s3 H3 s3.heap.objs.size (cellsFrom (s3.heap.objs.size + 1) scope.names (cloFrom X.env.cells scope.names [])) fp) (ht s3 H3 s3.heap.objs.size (cellsFrom (s3.heap.objs.size + 1) scope.names (cloFrom X.env.cells scope.names [])) fp)
  have more := And.intro (hk s3 H3 s3.heap.objs.size (cellsFrom (s3.heap.objs.size + 1) scope.names (cloFrom X.env.cells scope.names [])) fp) (hv s3 H3 s3.heap.objs.size (cellsFrom (s3.heap.objs.size + 1) scope.names (cloFrom X.env.cells scope.names [])) fp)
  rw [hce] at I4 here more
  have cL : ce.locals = s3.heap.objs.size := by rw [← hce]; rfl
  obtain ⟨pg, pt⟩ := here
  obtain ⟨pk, pv⟩ := more
  obtain ⟨s4, hs4⟩ : ∃ s4 : Shared, s4 = { s3 with heap := pushCells (s3.heap.push { cls := .type "dict", data := .dict #[] }) scope.names } := ⟨_, rfl⟩
  rw [← hs4] at I4
  have st4 : tn 0 s4.heap := T.keep _ _ _ st3 fun b _ o e => by rw [hs4]; exact pushCells_keeps _ _ _ _ (Heap.get?_push_of_some _ e)
  have noFp : ∀ b ∈ fp, H3 b = none := fun b hb => (f3 b hb).1.1
  have stat : ∀ {σ' : L2.St} {H' : Hp} {s' : Shared}, Inv (X.blk s3 H3 scope ce fp) [] σ' H' s' → (∀ b ∈ fp, H' b = none) → ∀ b ∈ fp, FpOk (X.blk s3 H3 scope ce fp) [] H' b := fun {σ' H' s'} K' hn b hb =>
    ⟨hn b hb, (K'.ok.exf b hb).1, K'.ok.exfs b hb, .inl hb, fun x c e => (K'.ok.exf b hb).2 x c e, fun p hp => by cases (show p ∈ ([] : List (Addr × Obj)) ++ [] from hp)⟩
  have loop : ∀ post, (∀ s6 m H5, Inv X pins σ H5 s6 → Q (.ref D) H5 → s6.heap.Ns s3.heap.objs.size m → FpOk X pins H5 s3.heap.objs.size → post (.ok .next) s6) →
      codeAny (model X.prog X.w) X.A (.compLoop (.DictComp kx vx [⟨tg, iter, ifs, 0⟩] scope pos) 0 (.ref it) (.ref D) ce) post s4 := by
    intro post hpost
    refine compLoop_anyD (fun n s' => ∃ i H', Inv (X.blk s3 H3 scope ce fp) [] (wipe σ (own.map (·.2))) H' s' ∧ tn i s'.heap ∧ (∀ b ∈ fp, H' b = none) ∧ W i n H') ?_ m0 ⟨0, H3, I4, st4, noFp, w0⟩
    rintro n s5 ⟨i, H5, I5, st5, n5, w5⟩
    rcases turn i n H5 w5 with ⟨stop, qq⟩ | ⟨go, Nx, hNx, step⟩
    · have e1 := T.done (X.blk s3 H3 scope ce fp) rfl rfl rfl hc i [] s5 _ H5 (fun _ _ => False) I5 (stat I5 n5) st5 stop
      refine thnF e1 fun r s6 ⟨hr, I6⟩ => ?_
      subst hr
      have back : Inv X pins σ H5 s6 := I3.call' (ch := fp) I6.os I6.base I6.hok I6.bare fun b hb =>
        let z := (f3 b hb).1
        ⟨z.2.2.2.1, z.2.1, z.2.2.2.2.1, z.2.2.2.2.2⟩
      have nC : H5 s3.heap.objs.size = none := cL ▸ (show H5 ce.locals = none from I6.free)
      obtain ⟨m, hn, _⟩ := I6.loc
      have hn2 : s6.heap.Ns s3.heap.objs.size m := cL ▸ (show s6.heap.Ns ce.locals m from hn)
      exact hpost s6 m H5 back qq hn2 (I3.fpOk (Nat.le_refl _) nC)
    · have e1 := T.item (X.blk s3 H3 scope ce fp) rfl rfl rfl hc i [] s5 _ H5 (fun _ _ => False) I5 (stat I5 n5) st5 go
      refine thnF e1 fun r s6 ⟨u, hr, h6⟩ => ?_
      subst hr
      refine thnF h6 fun _ s7 ⟨x, H7, I7, r7, y7, st7, n7⟩ => ?_
      have P7 := I7.pinned (stat I7 n7) (T.obj _ _ st7)
      refine thnF (pg.run _ s7 _ H7 x u _ P7 r7 (step x H7 y7)) fun _ s8 ⟨σ8, H8, I8, hw8, q8⟩ => ?_
      refine thnF (pt.run _ s8 σ8 H8 _ I8 q8) fun b s9 ⟨H9, I9, q9⟩ => ?_
      have fin : ∀ {s' : Shared} {H' : Hp}, Inv (X.blk s3 H3 scope ce fp) ([] ++ pinsAt fp s7.heap) σ8 H' s' → Nx H' → ∃ m, m < n ∧ ∃ i H', Inv (X.blk s3 H3 scope ce fp) [] (wipe σ (own.map (·.2))) H' s' ∧ tn i s'.heap ∧ (∀ b ∈ fp, H' b = none) ∧ W i m H' := by
        intro s' H' K' nx
        obtain ⟨m', hm, w'⟩ := hNx H' nx
        have pin' : ∀ b ∈ fp, ∀ o, s7.heap.get? b = some o → s'.heap.get? b = some o ∧ H' b = none := fun b hb o e =>
          have z := K'.pin (b, o) (List.mem_append_right _ (List.mem_append_right _ (mem_pinsAt hb e)))
          ⟨z.1, z.2.1⟩
        have hl : (wipe σ (own.map (·.2))).length = σ8.length := by rw [← hw8, wipe_length]
        refine ⟨m', hm, i + 1, H', (K'.unpinned (pins := [])).weak hl (fun j v e => (wipe_some (hw8 ▸ e)).1), T.keep _ _ _ st7 fun b hb o e => (pin' b hb o e).1, fun b hb => ?_, w'⟩
        obtain ⟨o, e, _⟩ := T.obj _ _ st7 b hb
        exact (pin' b hb o e).2
      cases b with
      | false => exact fin I9 q9
      | true =>
        refine thnF (pk.run _ s9 σ8 H9 _ I9 q9) fun z s10 ⟨yk, H10, I10, r10, q10⟩ => ?_
        refine thnF (pv.run _ s10 σ8 H10 _ I10 q10) fun z2 s11 ⟨yv, H11, I11, r11, H12, put, nx⟩ => ?_
        exact dset_ok (X := X.blk s3 H3 scope ce fp) hu I11 put r10 r11 fun s12 I12 => fin I12 nx
  subst hce hs4
  refine codeAny_compStart_dict (loop _ ?key) (T.self X.A 0 _ _ _ st4 (loop _ ?key))
  intro s6 m H5 K' qq hn f
  refine ⟨m, hn, fun h9 sb => ?_⟩
  obtain ⟨a0, a1, a2, a3, a4, a5⟩ := f
  exact ⟨.ref D, H5, K'.turned (t' := s6.toks) (fun b o hb e => (sb.2 b hb).trans e) a0 a1 a3 a4 a5, rfl, qq⟩
end
end LP

set_option Elab.async false
set_option linter.all false
set_option maxRecDepth 100000
set_option maxHeartbeats 4000000
/-! LPN: sorted of lists of data and of dicts with tuple keys. -/
namespace LP
open PySem PySem.Spec L2 SlX
open PyProof.Rows hiding St
open PySem.W (EachIs dataLe AllAlike Sortable)
section
variable {X : Cx}
theorem each_of_vals {H : Hp} {pins : List (Addr × Obj)} {σ : L2.St} {s : Shared} {enc : V → PyData} (I : Inv X pins σ H s) : ∀ {xs : List V} {us : List Value}, Vals xs us → (∀ x ∈ xs, Dp X.K H x (enc x)) →
    EachIs (fun v x => RelV x v) us xs ∧ EachIs (fun v x => ∃ as, Reads s.heap v (enc x) as) us xs
  | _, _, .nil, _ => ⟨.nil, .nil⟩
  | _, _, .cons r t, h => by
    obtain ⟨a, b⟩ := each_of_vals I t fun x hx => h x (List.mem_cons_of_mem _ hx)
    exact ⟨.cons r a, .cons (Dp.reads I _ _ _ (h _ List.mem_cons_self) r) b⟩
theorem vals_of_each : ∀ {xs : List V} {us : List Value}, EachIs (fun v x => RelV x v) us xs → Vals xs us
  | _, _, .nil => .nil
  | _, _, .cons r t => .cons r (vals_of_each t)
/-- sorted(xs), xs a list of data of one kind -/
def rSortL (K : PySem.W.Frag) : List V → Hp → VK → Prop := fun vs H Q => ∃ (p : Addr) (xs : List V) (enc : V → PyData), vs = [.ref p] ∧ H p = some (.lst xs) ∧ (∀ x ∈ xs, Dp K H x (enc x)) ∧ AllAlike (xs.map enc) ∧ Sortable (xs.map enc) ∧ (∀ x ∈ xs, (enc x).depth ≤ 4) ∧
  ∀ l, H l = none → Q (.ref l) (upd H l (.lst (xs.mergeSort (dataLe false enc))))
theorem cr_sortL {K : PySem.W.Frag} (hK : X.K = K) (hu : X.A.units + 64 < cLine) : CallR X (.builtin "sorted") (rSortL K) := by
  subst hK
  intro pins s σ H vs us Q I r h
  obtain ⟨p, xs, enc, rfl, hp, dp, al, so, de, q⟩ := h
  obtain ⟨u, rfl, ru⟩ := vals1 r
  obtain rfl : u = Value.ref p := ru
  obtain ⟨z, its, n, rv, hl, e⟩ := I.lstM hp
  obtain ⟨e1, e2⟩ := each_of_vals (enc := enc) I rv dp
  refine PySem.W.sorted_data (PySem.IsL.isList e) e1 e2 al so z (fun b hb => by have := de b hb; omega) fun out ho ho2 => ?_
  obtain ⟨c, hc⟩ := sortedAll_at s.heap its out.toArray
  have zm : (xs.mergeSort (dataLe false enc)).length ≤ sizeLine := by rw [List.length_mergeSort]; exact z
  refine ⟨.ref (s.heap.objs.size + 1), upd H (s.heap.objs.size + 1) (.lst (xs.mergeSort (dataLe false enc))), I.laid (t' := s.toks) (fun b o hb => sortedAll_old hb) (Nat.le_succ _) ⟨zm, out, c, vals_of_each ho2, hc⟩, rfl, q _ (I.hok.fresh (Nat.le_succ _))⟩
/-! ### sorted(d), the keys tuples -/
def leK : List Key → List Key → Bool := dataLe false fun k => .tuple (k.map keyD)
def sortK (ks : List (List Key)) : List (List Key) := ks.mergeSort leK
def rSortD : List V → Hp → VK → Prop := fun vs H Q => ∃ (d : Addr) (ws : List (List Key × V)), vs = [.ref d] ∧ Rd H d (.dT ws) ∧ (∀ k ∈ ws.map (·.1), ∃ a b c : Str, k = [.inr a, .inr b, .inr c]) ∧
  ∀ l bs, H l = none → Paired (fun k b => H b = some (.tup (k.map kV))) (sortK (ws.map (·.1))) bs → Q (.ref l) (upd H l (.lst (bs.map V.ref)))
theorem alike3 (a b c a' b' c' : Str) : PySem.W.alike (.tuple [.str a, .str b, .str c]) (.tuple [.str a', .str b', .str c']) = true := by
  simp [PySem.W.alike, PySem.W.alikeAll]
theorem pair_of {H : Hp} : ∀ {ws : List (List Key × V)} {xs : List (List Key × Addr × Value)}, KT H ws xs → ∀ p ∈ xs.map (fun x => (x.1, x.2.1)), H p.2 = some (.tup (p.1.map kV))
  | _, _, .nil, p, hp => by cases hp
  | _, _, .cons h t, p, hp => by
    rcases List.mem_cons.mp hp with rfl | hp
    · have := h.2.1
      rw [h.1] at this
      exact this
    · exact pair_of t p hp
theorem keys_of {H : Hp} : ∀ {ws : List (List Key × V)} {xs : List (List Key × Addr × Value)}, KT H ws xs → ws.map (·.1) = xs.map (·.1)
  | _, _, .nil => rfl
  | _, _, .cons h t => by
    rw [List.map_cons, List.map_cons, keys_of t, h.1]
theorem reads3 {H : Hp} {pins : List (Addr × Obj)} {σ : L2.St} {s : Shared} {b : Addr} {x y z : Str} (I : Inv X pins σ H s) (hb : H b = some (.tup [.str x, .str y, .str z])) {h' : Heap} (kp : ∀ c o, s.heap.get? c = some o → h'.get? c = some o) :
    Reads h' (.ref b) (.tuple [.str x, .str y, .str z]) [] := by
  obtain ⟨its, rv, ⟨o, ho, hc, n, hd⟩, _⟩ := I.tuple (SqT.of hb)
  obtain ⟨u1, u2, u3, rfl, r1, r2, r3⟩ : ∃ u1 u2 u3, its = [u1, u2, u3] ∧ RelV (.str x) u1 ∧ RelV (.str y) u2 ∧ RelV (.str z) u3 := by
    cases rv with
    | cons r1 t => cases t with
      | cons r2 t => cases t with
        | cons r3 t => cases t; exact ⟨_, _, _, rfl, r1, r2, r3⟩
  obtain ⟨t1, rfl⟩ := r1
  obtain ⟨t2, rfl⟩ := r2
  obtain ⟨t3, rfl⟩ := r3
  exact Reads.tuple (kp _ _ ho) hc hd (ReadsAll.cons (Reads.str x t1) (ReadsAll.cons (Reads.str y t2) (ReadsAll.cons (Reads.str z t3) ReadsAll.nil)))
theorem paired_each {H : Hp} : ∀ {out : List Value} {ps : List (List Key × Addr)}, EachIs (fun v p => v = Value.ref p.2) out ps → (∀ p ∈ ps, H p.2 = some (.tup (p.1.map kV))) →
    Vals ((ps.map (·.2)).map V.ref) out ∧ Paired (fun k b => H b = some (.tup (k.map kV))) (ps.map (·.1)) (ps.map (·.2))
  | _, _, .nil, _ => ⟨.nil, .nil⟩
  | _, _, .cons r t, h => by
    obtain ⟨a, b⟩ := paired_each t fun p hp => h p (List.mem_cons_of_mem _ hp)
    exact ⟨.cons r a, .cons (h _ List.mem_cons_self) b⟩
theorem each_refs : ∀ (ps : List (List Key × Addr)), EachIs (fun v p => v = Value.ref p.2) (ps.map fun p => Value.ref p.2) ps
  | [] => .nil
  | p :: ps => .cons rfl (each_refs ps)
theorem cr_sortD (hc : X.calm = true) (hu : X.A.units + 64 < cLine) : CallR X (.builtin "sorted") rSortD := by
  intro pins s σ H vs us Q I r h
  obtain ⟨d, ws, rfl, hd, tri, q⟩ := h
  obtain ⟨u, rfl, ru⟩ := vals1 r
  obtain rfl : u = Value.ref d := ru
  obtain ⟨z, hs, ks, pr, o, es, ep, ho, hx, hdt, he, hn⟩ := (show ObjOk X.prog X.w H s.heap d (.dT ws) from hd.ok I.hok)
  have l1 : es.size = ks.length := size_of_entries he
  have l2 : ws.length = ks.length := Paired.length pr
  refine Calls.call_function_entry kind_sorted plain_sorted entry_sorted (args_sorted1 _) ?_
  unfold Builtin.«sorted»
  refine wpAny_bind (m := checkCount "sorted" 1 1 _) (wpAny_pure ?_)
  refine wpAny_bind (PySem.W.kdu_collect (A := X.A.in1) (kdl_raw hs hx hdt) (I.ok.hd hc) ho (by omega) fun h' tk acc kp it => ?_)
  obtain ⟨ps, hps⟩ : ∃ ps : List (List Key × Addr), ps = ks.map fun x => (x.1, x.2.1) := ⟨_, rfl⟩
  have hat : ∀ p ∈ ps, H p.2 = some (.tup (p.1.map kV)) := by rw [hps]; exact pair_of pr
  have hks : ps.map (·.1) = ws.map (·.1) := by rw [hps, List.map_map, keys_of pr]; rfl
  have ea : acc.toList = ps.map fun p => Value.ref p.2 := by
    have hl : acc.toList.length = ks.length := by rw [Array.length_toList, it.1]; exact l1
    rw [hps, List.map_map]
    refine List.ext_getElem? fun j => ?_
    rw [List.getElem?_map]
    cases hj : acc.toList[j]? with
    | none =>
      have h1 := List.getElem?_eq_none_iff.mp hj
      rw [List.getElem?_eq_none (by omega)]
      rfl
    | some v =>
      obtain ⟨en, hen, hv⟩ := it.2 j v (by rw [← Array.getElem?_toList]; exact hj)
      have qe := entry_at he j
      rw [hen] at qe
      cases hb : ks[j]? with
      | none =>
        rw [hb] at qe
        cases qe
      | some b =>
        rw [hb] at qe
        rw [hv, show en = _ from Option.some.inj qe]
        rfl
  have lp : ps.length = ks.length := by rw [hps, List.length_map]
  rw [ea]
  have hline : (ps.map fun p => Value.ref p.2).length ≤ sizeLine := by rw [List.length_map]; omega
  refine wpAny_bind (wpAny_newList ?_ hline)
  have hoL : (h'.push (seqObj "list" (ps.map fun p => Value.ref p.2).toArray 0)).get? h'.objs.size = some (seqObj "list" (ps.map fun p => Value.ref p.2).toArray 0) := Heap.get?_push_size _ rfl
  have trip : ∀ p ∈ ps, ∃ x y z : Str, p.1 = [.inr x, .inr y, .inr z] := fun p hp => tri p.1 (by rw [← hks]; exact List.mem_map.mpr ⟨p, hp, rfl⟩)
  have er : EachIs (fun v p => ∃ as, Reads (h'.push (seqObj "list" (ps.map fun p => Value.ref p.2).toArray 0)) v (.tuple (p.1.map keyD)) as ∧ h'.objs.size ∉ as) (ps.map fun p => Value.ref p.2) ps := by
    have gen : ∀ qs : List (List Key × Addr), (∀ p ∈ qs, p ∈ ps) → EachIs (fun v p => ∃ as, Reads (h'.push (seqObj "list" (ps.map fun p => Value.ref p.2).toArray 0)) v (.tuple (p.1.map keyD)) as ∧ h'.objs.size ∉ as) (qs.map fun p => Value.ref p.2) qs := by
      intro qs
      induction qs with
      | nil => exact fun _ => .nil
      | cons p qs ih =>
        intro hq
        refine .cons ?_ (ih fun p hp => hq p (List.mem_cons_of_mem _ hp))
        obtain ⟨x, y, z, ek⟩ := trip p (hq p List.mem_cons_self)
        have hp := hat p (hq p List.mem_cons_self)
        rw [ek] at hp ⊢
        exact ⟨[], reads3 I hp (fun c o e => Heap.get?_push_of_some _ (kp c o e)), by simp⟩
    exact gen ps fun p hp => hp
  have al : AllAlike (ps.map fun p => .tuple (p.1.map keyD)) := by
    intro a ha b hb
    obtain ⟨p, hp, rfl⟩ := List.mem_map.mp ha
    obtain ⟨p', hp', rfl⟩ := List.mem_map.mp hb
    obtain ⟨x, y, z, e1⟩ := trip p hp
    obtain ⟨x', y', z', e2⟩ := trip p' hp'
    rw [e1, e2]
    exact alike3 ..
  have so : Sortable (ps.map fun p => .tuple (p.1.map keyD)) := .inl fun a ha => by
    obtain ⟨p, hp, rfl⟩ := List.mem_map.mp ha
    obtain ⟨x, y, z, e1⟩ := trip p hp
    rw [e1]
    exact ⟨_, _, rfl⟩
  refine wpAny_bind (wpAny_holding (PySem.W.list_sort_data hoL (each_refs ps) er al so (by omega) (fun p hp => ?_) fun out ho1 ho2 => ?_))
  · obtain ⟨x, y, z, e1⟩ := trip p hp
    rw [e1]
    show X.A.in1.units + 1 + (PyData.tuple [.str x, .str y, .str z]).depth < cLine
    have : (PyData.tuple [.str x, .str y, .str z]).depth ≤ 2 := by simp [PyData.depth, PyData.depthAll]
    have : X.A.in1.units ≤ X.A.units + 2 := by first | exact Nat.le_refl _ | (show X.A.units + 1 ≤ _; omega) | (show X.A.units ≤ _; omega)
    omega
  · obtain ⟨c, hcc⟩ := sortedHeap_at (vs := ps.map fun p => Value.ref p.2) (out := out.toArray) hoL
    have pm := List.mergeSort_perm ps (dataLe false fun p => PyData.tuple (p.1.map keyD))
    obtain ⟨v1, v2⟩ := paired_each ho2 fun p hp => hat p (pm.mem_iff.mp hp)
    have mk : (ps.mergeSort (dataLe false fun p => PyData.tuple (p.1.map keyD))).map (·.1) = sortK (ws.map (·.1)) := by
      rw [← hks]
      exact List.map_mergeSort fun a _ b _ => rfl
    rw [mk] at v2
    have zl : (((ps.mergeSort (dataLe false fun p => PyData.tuple (p.1.map keyD))).map (·.2)).map V.ref).length ≤ sizeLine := by
      rw [List.length_map, List.length_map, List.length_mergeSort]
      omega
    have gn : s.heap.get? h'.objs.size = none := by
      cases e : s.heap.get? h'.objs.size with
      | none => rfl
      | some ob => exact absurd (Heap.lt_size (kp _ _ e)) (Nat.lt_irrefl _)
    refine wpAny_pure ⟨_, rfl, .ref h'.objs.size, _, I.laidN (t' := tk) (o := .lst (((ps.mergeSort (dataLe false fun p => PyData.tuple (p.1.map keyD))).map (·.2)).map V.ref)) (fun b ob e => ?_) gn (I.hok.gone gn) ⟨zl, out, c, v1, hcc⟩, rfl, q _ _ (I.hok.gone gn) v2⟩
    have e' := kp b ob e
    have hlt := Heap.lt_size e'
    rw [sortedHeap_old (Nat.ne_of_lt hlt) (by rw [size_push']; exact Nat.lt_succ_of_lt hlt)]
    exact Heap.get?_push_of_some _ e'
end
/-! ### small rules -/
section
variable {X : Cx}
theorem pa_starK {K : PySem.W.Frag} {e : Expr} {p : Pos} {es : List Expr} {te : TE} {t : TA} (hK : X.K = K) (he : PE X e te) (hr : PA X es t) (hs : starEach (.Starred e p :: es) X.env = (true, eval e X.env) :: starEach es X.env := by rfl) : PA X (.Starred e p :: es) (StX.tStar K te t) := by
  subst hK
  exact StX.pa_star he hr hs
def rInD : R2 := fun x y H Q => ∃ a o, y = .ref a ∧ DGet H a x o ∧ Q (.bl o.isSome) H
def rNinD : R2 := fun x y H Q => ∃ a o, y = .ref a ∧ DGet H a x o ∧ Q (.bl (!o.isSome)) H
theorem op_inD (hu : X.A.units + 1 < cLine) : OpR X (compareOp .In) rInD := by
  intro pins s σ H x y v u Q I rx ry h
  obtain ⟨a, o, rfl, g, q⟩ := h
  obtain rfl : u = Value.ref a := ry
  exact d_in hu I g rx fun s3 I3 => ⟨.bl o.isSome, H, I3, rfl, q⟩
theorem op_ninD (hu : X.A.units + 1 < cLine) : OpR X (compareOp .NotIn) rNinD := by
  intro pins s σ H x y v u Q I rx ry h
  obtain ⟨a, o, rfl, g, q⟩ := h
  obtain rfl : u = Value.ref a := ry
  exact d_notIn hu I g rx fun s3 I3 => ⟨.bl (!o.isSome), H, I3, rfl, q⟩
theorem sl_tupK {K : PySem.W.Frag} (hK : X.K = K) : SlR X (rSlT K) := by subst hK; exact sl_tup
theorem sl_listK {K : PySem.W.Frag} (hK : X.K = K) : SlR X (rSlL K) := by subst hK; exact sl_list
end
theorem scal_intE (a b : Int) : scal (.int a) (.int b) = true := rfl
theorem scal_blE (a b : Bool) : scal (.bl a) (.bl b) = true := rfl
/-- zip of two, the second shorter -/
theorem walk_zipS {K : PySem.W.Frag} {s1 s2 : LZ.Sv} {xs ys : List V} (hl : ys.length < xs.length) : Walk (LZ.ItzN K [s1, s2]) ys.length (fun H => s1.has K H xs ∧ s2.has K H ys) (YPair (fun i => xs[i]?) (fun i => ys[i]?)) := by
  refine ⟨fun i H hi q j s e => ?_, fun H q => ⟨1, by simp, fun s e => ?_, fun j s hj e => ?_⟩, fun i H v H' hi q y => ?_⟩
  · match j with
    | 0 => cases e; exact ⟨xs, _, q.1, List.getElem?_eq_getElem (by omega)⟩
    | 1 => cases e; exact ⟨ys, _, q.2, List.getElem?_eq_getElem hi⟩
    | j + 2 => cases e
  · cases e
    exact ⟨ys, q.2, Nat.le_refl _⟩
  · obtain rfl : j = 0 := by omega
    cases e
    exact ⟨xs, _, q.1, List.getElem?_eq_getElem hl⟩
  · obtain ⟨T, zs, h1, h2, h3, h4, h5⟩ := y
    have a := h5 0 s1 xs rfl q.1
    have b := h5 1 s2 ys rfl q.2
    have hx := List.getElem?_eq_getElem (show i < xs.length by omega)
    have hy := List.getElem?_eq_getElem hi
    rw [hx] at a
    rw [hy] at b
    obtain ⟨z1, z2, rfl⟩ : ∃ z1 z2, zs = [z1, z2] := by
      match zs, h4 with
      | [z1, z2], _ => exact ⟨z1, z2, rfl⟩
    have ea : xs[i]? = some z1 := hx.trans a.symm
    have eb : ys[i]? = some z2 := hy.trans b.symm
    exact ⟨T, z1, z2, h1, h2, h3, ea, eb⟩
/-! ### comprehensions with two for -/
/-- all but D stays -/
def Sb (D : Addr) (H H' : Hp) : Prop := ∀ b o, b ≠ D → H b = some o → H' b = some o
theorem Sb.put {D : Addr} {H H' : Hp} {o : HO} (h : Sb D H H') : Sb D H (upd H' D o) := fun b u hb e => by
  rw [upd_ne hb]
  exact h b u hb e
theorem Sb.same {D : Addr} {H0 H H' : Hp} (e : Same H0 H) (hD : H0 D = none) (h : Sb D H H') : Same H0 H' := fun b o hb => h b o (ne_of_none hb hD) (e b o hb)
/-- what the second for of a comprehension is asked -/
def Inner (J1 : It) (g1 : TG) (te : TE) (vs1 : List Nat) (σ2 : L2.St) (D : Addr) (Nx : Hp → Prop) (H4 : Hp) : Prop := ∃ W1 : Nat → Nat → Hp → Prop, (∃ m, W1 0 m H4) ∧ ∀ j k H, W1 j k H →
  (J1.stop j H ∧ Nx H) ∨ (J1.go j H ∧ ∃ Nx1 : Hp → Prop, (∀ H', Nx1 H' → ∃ k', k' < k ∧ W1 (j + 1) k' H') ∧ ∀ x H', J1.yld j H x H' → g1 x (wipe σ2 vs1) H' fun σ3 H5 => wipe σ3 vs1 = wipe σ2 vs1 ∧ tYes σ3 H5 fun b H6 =>
    if b = true then te σ3 H6 fun y H7 => ∃ acc, H7 D = some (.lst acc) ∧ acc.length < sizeLine ∧ Nx1 (upd H7 D (.lst (acc ++ [y]))) else Nx1 H6)
theorem inner_cat {J1 : It} {G1 : Hp → Prop} {ys : List V} (W1 : Walk J1 ys.length G1 (YAt ys)) {j1 : Nat} {te : TE} {vs1 : List Nat} {σ2 : L2.St} {H4 : Hp} {D : Addr} {acc : List V} {Nx : Hp → Prop} (v : V → V) (hD : H4 D = some (.lst acc)) (hz : acc.length + ys.length ≤ 1000000)
    (hG1 : ∀ H', Sb D H4 H' → G1 H') (hw1 : ∀ y, wipe ((wipe σ2 vs1).set j1 (some y)) vs1 = wipe σ2 vs1) (hte : ∀ y, y ∈ ys → ∀ H', Sb D H4 H' → ∀ R : VK, R (v y) H' → te ((wipe σ2 vs1).set j1 (some y)) H' R)
    (fin : ∀ H', Sb D H4 H' → H' D = some (.lst (acc ++ ys.map v)) → Nx H') : Inner J1 (gName j1) te vs1 σ2 D Nx H4 := by
  obtain ⟨P1, hP1⟩ : ∃ P1 : Nat → Hp → Prop, ∀ j H', P1 j H' ↔ (Sb D H4 H' ∧ H' D = some (.lst (acc ++ (ys.take j).map v))) := ⟨_, fun _ _ => Iff.rfl⟩
  refine ⟨fun j m H' => m = ys.length - j ∧ j ≤ ys.length ∧ P1 j H', ⟨ys.length, rfl, Nat.zero_le _, (hP1 _ _).mpr ⟨fun b o _ e => e, by rw [List.take_zero, List.map_nil, List.append_nil]; exact hD⟩⟩, ?_⟩
  rintro j m H2 ⟨rfl, hj, p1⟩
  obtain ⟨sb, hd⟩ := (hP1 _ _).mp p1
  by_cases hlt : j < ys.length
  · refine .inr ⟨W1.goes j H2 hlt (hG1 H2 sb), P1 (j + 1), fun H' p' => ⟨ys.length - (j + 1), by omega, rfl, hlt, p'⟩, fun y H' yy => ?_⟩
    obtain ⟨rfl, ey⟩ := W1.yields j H2 y H' hlt (hG1 H2 sb) yy
    refine ⟨hw1 y, hte y (List.mem_of_getElem? ey) H' sb _ ⟨_, hd, ?_, (hP1 _ _).mpr ⟨sb.put, ?_⟩⟩⟩
    · rw [List.length_append, List.length_map, List.length_take]
      exact Nat.lt_of_le_of_lt (show acc.length + min j ys.length ≤ 1000000 by omega) (by decide)
    · have et : ys.take (j + 1) = ys.take j ++ [y] := by rw [List.take_add_one, ey]; rfl
      rw [upd_same, et, List.map_append, List.append_assoc]
      rfl
  · have e : j = ys.length := by omega
    subst e
    rw [List.take_length] at hd
    exact .inl ⟨W1.stops H2 (hG1 H2 sb), fin H2 sb hd⟩
def catN (f : Nat → List V) (n : Nat) : List V := (List.range n).flatMap f
theorem catN_succ (f : Nat → List V) (n : Nat) : catN f (n + 1) = catN f n ++ f n := by
  unfold catN
  rw [List.range_succ, List.flatMap_append]
  simp
theorem lc2_cat {J : It} {n : Nat} {G : Hp → Prop} {Y : Nat → Hp → V → Hp → Prop} (W : Walk J n G Y) {g : TG} {wi1 : TI} {g1 : TG} {te : TE} {vs vs1 : List Nat} {σ : L2.St} {H : Hp} {Q : VK} (f : Nat → List V) (hG : ∀ H1, Same H H1 → G H1)
    (he : ∀ i x H1 H2 D (Nx : Hp → Prop), i < n → H D = none → Same H H1 → H1 D = some (.lst (catN f i)) → Y i H1 x H2 → (∀ H3, Same H H3 → H3 D = some (.lst (catN f i ++ f i)) → Nx H3) →
      g x (wipe σ vs) H2 fun σ2 H3 => wipe σ2 vs = wipe σ vs ∧ tYes σ2 H3 fun b H4 => if b = true then wi1 σ2 H4 fun J1 H5 => Inner J1 g1 te vs1 σ2 D Nx H5 else Nx H4)
    (q : ∀ p H2, H p = none → Same H H2 → H2 p = some (.lst (catN f n)) → Q (.ref p) H2) : Lc2Loop J g wi1 g1 te vs vs1 σ H Q := by
  intro D hD
  obtain ⟨Pv, hP⟩ : ∃ Pv : Nat → Hp → Prop, ∀ i H', Pv i H' ↔ (Same H H' ∧ H' D = some (.lst (catN f i))) := ⟨_, fun _ _ => Iff.rfl⟩
  refine ⟨fun i m H' => m = n - i ∧ i ≤ n ∧ Pv i H', ⟨n, rfl, Nat.zero_le _, (hP _ _).mpr ⟨Same.new hD, upd_same⟩⟩, ?_⟩
  rintro i m H1 ⟨rfl, hi, p⟩
  obtain ⟨sm, hd⟩ := (hP _ _).mp p
  by_cases hlt : i < n
  · refine .inr ⟨W.goes i H1 hlt (hG H1 sm), Pv (i + 1), fun H' p' => ⟨n - (i + 1), by omega, rfl, hlt, p'⟩, fun x H' y => ?_⟩
    exact he i x H1 H' D (Pv (i + 1)) hlt hD sm hd (W.yields i H1 x H' hlt (hG H1 sm) y) fun H3 s3 d3 => (hP _ _).mpr ⟨s3, by rw [catN_succ]; exact d3⟩
  · have e : i = n := by omega
    subst e
    exact .inl ⟨W.stops H1 (hG H1 sm), q D H1 hD sm hd⟩
theorem walk_itI {d : Addr} {o : Obj} {ws : List (List Key × V)} : Walk (ItI d o ws) ws.length (fun H => H d = some (.frz o (.dT ws)))
    (fun i H x H' => ∃ (T q : Addr) (k : List Key) (v : V), ws[i]? = some (k, v) ∧ x = .ref T ∧ H T = none ∧ H q = some (.tup (k.map kV)) ∧ H' = upd H T (.tup [.ref q, v])) :=
  ⟨fun _ _ hi q => ⟨q, hi⟩, fun _ q => ⟨q, Nat.le_refl _⟩, fun _ _ _ _ _ _ y => y⟩
/-! ### dict comprehensions over what is walked -/
def DcLoop (J : It) (g : TG) (tk tv : TE) (vs : List Nat) (σ : L2.St) (H1 : Hp) (Q : VK) : Prop := ∀ D, H1 D = none → ∃ W : Nat → Nat → Hp → Prop, (∃ m, W 0 m (upd H1 D (.dT []))) ∧ ∀ i m H, W i m H →
  (J.stop i H ∧ Q (.ref D) H) ∨ (J.go i H ∧ ∃ Nx : Hp → Prop, (∀ H', Nx H' → ∃ m', m' < m ∧ W (i + 1) m' H') ∧ ∀ x H', J.yld i H x H' → g x (wipe σ vs) H' fun σ2 H2 => wipe σ2 vs = wipe σ vs ∧ tYes σ2 H2 fun b H3 =>
    if b = true then tk σ2 H3 fun y H4 => tv σ2 H4 fun z H5 => ∃ H6, DPut H5 D y z H6 ∧ Nx H6 else Nx H3)
theorem tDcT_eq (wi : TI) (g : TG) (tk tv : TE) (vs : List Nat) (σ : L2.St) (H : Hp) (Q : VK) : tDcT wi g tYes tk tv vs σ H Q = wi σ H fun J H1 => DcLoop J g tk tv vs σ H1 Q := rfl
theorem put_new {κ : Type} [DecidableEq κ] {ws : List (κ × V)} {k : κ} {v : V} (h : ∀ p ∈ ws, p.1 ≠ k) : putK ws k v = ws ++ [(k, v)] := by
  unfold putK
  rw [if_neg]
  intro z
  obtain ⟨p, hp, e⟩ := List.any_eq_true.mp z
  exact h p hp (of_decide_eq_true e)
theorem dcT_out {J : It} {n : Nat} {G : Hp → Prop} {Y : Nat → Hp → V → Hp → Prop} (W : Walk J n G Y) {g : TG} {tk tv : TE} {vs : List Nat} {σ : L2.St} {H : Hp} {Q : VK} (f : Nat → List Key × V) (nd : ∀ i j, i < j → j < n → (f i).1 ≠ (f j).1) (hn : n ≤ 1000000) (hG : ∀ H1, Same H H1 → G H1)
    (he : ∀ i x H1 H2 D (Nx : Hp → Prop), i < n → H D = none → Same H H1 → Y i H1 x H2 → (∀ b H3, Same H1 H3 → H3 b = some (.tup ((f i).1.map kV)) → ∃ H6, DPut H3 D (.ref b) (f i).2 H6 ∧ Nx H6) →
      g x (wipe σ vs) H2 fun σ2 H3 => wipe σ2 vs = wipe σ vs ∧ tYes σ2 H3 fun c H4 => if c = true then tk σ2 H4 fun y H5 => tv σ2 H5 fun z H6 => ∃ H7, DPut H6 D y z H7 ∧ Nx H7 else Nx H4)
    (q : ∀ p H2, H p = none → Same H H2 → H2 p = some (.dT ((List.range n).map f)) → Q (.ref p) H2) : DcLoop J g tk tv vs σ H Q := by
  intro D hD
  obtain ⟨Pv, hP⟩ : ∃ Pv : Nat → Hp → Prop, ∀ i H', Pv i H' ↔ (Same H H' ∧ H' D = some (.dT ((List.range i).map f))) := ⟨_, fun _ _ => Iff.rfl⟩
  refine ⟨fun i m H' => m = n - i ∧ i ≤ n ∧ Pv i H', ⟨n, rfl, Nat.zero_le _, (hP _ _).mpr ⟨Same.new hD, upd_same⟩⟩, ?_⟩
  rintro i m H1 ⟨rfl, hi, p⟩
  obtain ⟨sm, hd⟩ := (hP _ _).mp p
  by_cases hlt : i < n
  · refine .inr ⟨W.goes i H1 hlt (hG H1 sm), Pv (i + 1), fun H' p' => ⟨n - (i + 1), by omega, rfl, hlt, p'⟩, fun x H' y => ?_⟩
    refine he i x H1 H' D (Pv (i + 1)) hlt hD sm (W.yields i H1 x H' hlt (hG H1 sm) y) fun b H3 s3 hb => ?_
    have ln : ((List.range i).map f).length < sizeLine := by
      rw [List.length_map, List.length_range]
      exact Nat.lt_of_le_of_lt (show i ≤ 1000000 by omega) (by decide)
    refine ⟨_, DPut.t (s3 _ _ hd) hb ln, (hP _ _).mpr ⟨Same.lay (sm.trans s3) hD, ?_⟩⟩
    rw [upd_same, put_new]
    · rw [List.range_succ, List.map_append]
      rfl
    · intro q hq
      obtain ⟨j, hj, rfl⟩ := List.mem_map.mp hq
      exact nd j i (List.mem_range.mp hj) hlt
  · have e : i = n := by omega
    subst e
    exact .inl ⟨W.stops H1 (hG H1 sm), q D H1 hD sm hd⟩
/-- a slot stored, the rest of the block left as it is -/
theorem sSl_go {K : PySem.W.Frag} {ta tv : TE} {f : Str} {D : Ends} {σ : L2.St} {H : Hp} (h : tv σ H fun y H1 => ta σ H1 fun x H2 => ∃ a C dx p vs i, x = .ref a ∧ Slt H2 a C dx vs ∧ SCls K C ∧ Slot1 K C f p i ∧ D.nx σ (slH H2 a C dx (putS i y vs))) : sSl K ta tv f D σ H := h
end LP

set_option Elab.async false
set_option linter.all false
set_option maxRecDepth 100000
set_option maxHeartbeats 4000000
/-! LPV: sets of texts by a comprehension, their number; dicts of pairs. -/
namespace LP
open PySem PySem.Spec L2 SlX
open PyProof.Rows hiding St
section
variable {P : Program} {w : World} {A : Around} {E : Value → Shared → Prop} {s : Shared}
/-- a text more -/
theorem setT_plus {a : Addr} {k : Str} {tk : Tok} {xs : List Str} {Q : Value → Shared → Prop} (T : HoldsT w s.heap a xs xs.length) (room : xs.length + 1 < scanBound)
    (q : ∀ h', Heap.SameBut a s.heap h' → HoldsT w h' a (xs ++ [k]) (xs ++ [k]).length → Q .none { s with heap := h', toks := s.toks + 1 }) : wpAny (model P w) A (call (.builtin "set.add") [.ref a, .str k tk]) Q E s := by
  obtain ⟨M, m, R, hm, hM⟩ := T
  have ty : s.TypeIs (.ref a) "set" := by
    obtain ⟨o, es, ep, t, ho, hex, hd, _⟩ := R
    exact ⟨o, ho, hex.1⟩
  refine wpAny_call_entry F.slot_set_add ty F.entry_set_add ?_ (F.args_set_add_2 _ _)
  unfold Builtin.«set.add» Builtin.Frozenset.oneOther Builtin.Frozenset.addrOf setAdd
  simp only [List.isEmpty_nil, bind_assoc]
  refine wpAny_bind (wpAny_pure (wpAny_bind (wpAny_pure (wpAny_bind (wpAny_holding (wpAny_bind ((strKind P w).pyHash (strKind_is P w k tk) ?_)))))))
  refine setT_add (s := { s with toks := s.toks + 1 }) R (Nat.lt_of_le_of_lt (Nat.succ_le_succ hm) room) fun h' sb r => wpAny_pure ⟨_, rfl, q h' sb ⟨_, _, r, ?_, fun j => ?_⟩⟩
  · rw [List.length_append]
    show _ ≤ xs.length + 1
    split <;> omega
  · rw [List.take_length, Bool.or_eq_true, decide_eq_true_eq, List.mem_append, List.mem_singleton, hM j, List.take_length]
theorem newSet_okT {Q : Value → Shared → Prop} (h : Q (.ref s.heap.objs.size) { s with heap := s.heap.push (freshSet w) }) : wpAny (model P w) A (newSet (.type "set")) Q E s := PpSet.newSet_ok h
end
section
variable {X : Cx}
theorem txS_get {pins : List (Addr × Obj)} {σ : L2.St} {H : Hp} {s : Shared} {a : Addr} {xs : List Str} (I : Inv X pins σ H s) (ha : H a = some (TxS X.w a xs)) : HoldsT X.w s.heap a xs xs.length := by
  exact (I.hok a _ ha).1
/-- {e for ..}, the items texts -/
def tScT (w : World) (wi : TI) (g : TG) (tt : TT) (te : TE) (vs : List Nat) : TE := fun σ H Q => wi σ H fun J H1 => ∀ D, H1 D = none → ∃ W : Nat → Nat → Hp → Prop, (∃ m, W 0 m (upd H1 D (TxS w D []))) ∧ ∀ i m H, W i m H →
  (J.stop i H ∧ Q (.ref D) H) ∨ (J.go i H ∧ ∃ Nx : Hp → Prop, (∀ H', Nx H' → ∃ m', m' < m ∧ W (i + 1) m' H') ∧ ∀ x H', J.yld i H x H' → g x (wipe σ vs) H' fun σ2 H2 => wipe σ2 vs = wipe σ vs ∧ tt σ2 H2 fun b H3 =>
    if b = true then te σ2 H3 fun y H4 => ∃ (k : Str) (xs : List Str), y = .str k ∧ H4 D = some (TxS w D xs) ∧ xs.length + 1 < scanBound ∧ Nx (upd H4 D (TxS w D (xs ++ [k]))) else Nx H3)
theorem pe_scT {elt tg iter : Expr} {ifs : List Expr} {scope : Scope} {own : List (Str × Nat)} {pos : Pos} {wi : TI} {g : TG} {tt : TT} {te : TE} (hc : X.calm = true) (hN : X.N.Nodup) (hi : PI X tg iter wi) (ok : BlkOk X.N X.env.scope scope own)
    (hg : Blk X scope fun Y => PG Y tg g) (ht : Blk X scope fun Y => PTs Y ifs tt) (he : Blk X scope fun Y => PE Y elt te) (hs : ∀ x, foldedSetIterable iter X.env x = pure x := by intro _; rfl) :
    PE X (.SetComp elt [⟨tg, iter, ifs, 0⟩] scope pos) (tScT X.w wi g tt te (own.map (·.2))) := by
  refine ⟨fun pins s σ H Q I h => ?_⟩
  rw [PpSet.eval_SetComp]
  have has : ∀ y ∈ scope.names, y.2 = .free → ∃ c, X.env.cells.lookup y.1 = some c := fun y hy e => (ok.free y hy e).elim (fun k => I.ok.has _ (.inl k)) (fun k => I.ok.has _ (.inr k))
  refine wpAny_comprehension_free rfl hs (closure_ok has) ok.kind (fun y hy e => by rw [ok.uniq y hy, e]) ?_
  refine thn (hi.run pins s σ H _ I h) fun xv s1 hx => thn hx fun itv s2 h2 => ?_
  obtain ⟨it, fp, tn, J, H2, rfl, I2, T, st2, f2, q⟩ := h2
  refine newSet_okT (newEnv_comp ?_)
  obtain ⟨D, hD⟩ : ∃ D, s2.heap.objs.size = D := ⟨_, rfl⟩
  rw [hD]
  have fresh : H2 D = none := I2.hok.fresh (Nat.le_of_eq hD)
  obtain ⟨W, ⟨m0, w0⟩, turn⟩ := q D fresh
  obtain ⟨s3, hs3⟩ : ∃ s3 : Shared, s3 = { s2 with heap := s2.heap.push (freshSet X.w) } := ⟨_, rfl⟩
  have hh3 : s3.heap = s2.heap.push (freshSet X.w) := by rw [hs3]
  have old : ∀ b o, s2.heap.get? b = some o → s3.heap.get? b = some o := fun b o e => by rw [hh3]; exact Heap.get?_push_of_some _ e
  obtain ⟨H3, hH3⟩ : ∃ H3, upd H2 D (TxS X.w D []) = H3 := ⟨_, rfl⟩
  rw [hH3] at w0
  have I3 : Inv X pins σ H3 s3 := by
    rw [← hH3, hs3]
    refine I2.laid (t' := s2.toks) (fun b o e => Heap.get?_push_of_some _ e) (Nat.le_of_eq hD) ?_
    rw [← hD]
    exact txS_ok (setT_fresh X.w [])
  have f3 : ∀ b ∈ fp, FpOk X pins H3 b ∧ b < s3.heap.objs.size := fun b hb => by
    obtain ⟨o, e, _⟩ := T.obj _ _ st2 b hb
    have lt2 := Heap.lt_size e
    have nb : b ≠ D := Nat.ne_of_lt (hD ▸ lt2)
    refine ⟨⟨?_, (f2 b hb).2⟩, Heap.lt_size (old b o e)⟩
    rw [← hH3, upd_ne nb]
    exact (f2 b hb).1
  have st3 : tn 0 s3.heap := T.keep _ _ _ st2 fun b _ o e => old b o e
  have I4 := block_start I3 ok hN f3
  rw [← hs3]
  obtain ⟨ce, hce⟩ : ∃ ce, compEnvC scope (cellsFrom (s3.heap.objs.size + 1) scope.names (cloFrom X.env.cells scope.names [])) s3.heap.objs.size X.env = ce := ⟨_, rfl⟩
  have here := And.intro (hg s3 H3 s3.heap.objs.size (cellsFrom (s3.heap.objs.size + 1) scope.names (cloFrom X.env.cells scope.names [])) fp) (ht s3 H3 s3.heap.objs.size (cellsFrom (s3.heap.objs.size + 1) scope.names (cloFrom X.env.cells scope.names [])) fp)
  have pe := he s3 H3 s3.heap.objs.size (cellsFrom (s3.heap.objs.size + 1) scope.names (cloFrom X.env.cells scope.names [])) fp
  rw [hce] at I4 here pe
  have cL : ce.locals = s3.heap.objs.size := by rw [← hce]; rfl
  obtain ⟨pg, pt⟩ := here
  obtain ⟨s4, hs4⟩ : ∃ s4 : Shared, s4 = { s3 with heap := pushCells (s3.heap.push { cls := .type "dict", data := .dict #[] }) scope.names } := ⟨_, rfl⟩
  rw [← hs4] at I4
  have st4 : tn 0 s4.heap := T.keep _ _ _ st3 fun b _ o e => by rw [hs4]; exact pushCells_keeps _ _ _ _ (Heap.get?_push_of_some _ e)
  have noFp : ∀ b ∈ fp, H3 b = none := fun b hb => (f3 b hb).1.1
  have stat : ∀ {σ' : L2.St} {H' : Hp} {s' : Shared}, Inv (X.blk s3 H3 scope ce fp) [] σ' H' s' → (∀ b ∈ fp, H' b = none) → ∀ b ∈ fp, FpOk (X.blk s3 H3 scope ce fp) [] H' b := fun {σ' H' s'} K' hn b hb =>
    ⟨hn b hb, (K'.ok.exf b hb).1, K'.ok.exfs b hb, .inl hb, fun x c e => (K'.ok.exf b hb).2 x c e, fun p hp => by cases (show p ∈ ([] : List (Addr × Obj)) ++ [] from hp)⟩
  have loop : ∀ post, (∀ s6 m H5, Inv X pins σ H5 s6 → Q (.ref D) H5 → s6.heap.Ns s3.heap.objs.size m → FpOk X pins H5 s3.heap.objs.size → post (.ok .next) s6) →
      codeAny (model X.prog X.w) X.A (.compLoop (.SetComp elt [⟨tg, iter, ifs, 0⟩] scope pos) 0 (.ref it) (.ref D) ce) post s4 := by
    intro post hpost
    refine PpSet.compLoopS_any (fun n s' => ∃ i H', Inv (X.blk s3 H3 scope ce fp) [] (wipe σ (own.map (·.2))) H' s' ∧ tn i s'.heap ∧ (∀ b ∈ fp, H' b = none) ∧ W i n H') ?_ m0 ⟨0, H3, I4, st4, noFp, w0⟩
    rintro n s5 ⟨i, H5, I5, st5, n5, w5⟩
    rcases turn i n H5 w5 with ⟨stop, qq⟩ | ⟨go, Nx, hNx, step⟩
    · have e1 := T.done (X.blk s3 H3 scope ce fp) rfl rfl rfl hc i [] s5 _ H5 (fun _ _ => False) I5 (stat I5 n5) st5 stop
      refine thnF e1 fun r s6 ⟨hr, I6⟩ => ?_
      subst hr
      have back : Inv X pins σ H5 s6 := I3.call' (ch := fp) I6.os I6.base I6.hok I6.bare fun b hb =>
        let z := (f3 b hb).1
        ⟨z.2.2.2.1, z.2.1, z.2.2.2.2.1, z.2.2.2.2.2⟩
      have nC : H5 s3.heap.objs.size = none := cL ▸ (show H5 ce.locals = none from I6.free)
      obtain ⟨m, hn, _⟩ := I6.loc
      have hn2 : s6.heap.Ns s3.heap.objs.size m := cL ▸ (show s6.heap.Ns ce.locals m from hn)
      exact hpost s6 m H5 back qq hn2 (I3.fpOk (Nat.le_refl _) nC)
    · have e1 := T.item (X.blk s3 H3 scope ce fp) rfl rfl rfl hc i [] s5 _ H5 (fun _ _ => False) I5 (stat I5 n5) st5 go
      refine thnF e1 fun r s6 ⟨u, hr, h6⟩ => ?_
      subst hr
      refine thnF h6 fun _ s7 ⟨x, H7, I7, r7, y7, st7, n7⟩ => ?_
      have P7 := I7.pinned (stat I7 n7) (T.obj _ _ st7)
      refine thnF (pg.run _ s7 _ H7 x u _ P7 r7 (step x H7 y7)) fun _ s8 ⟨σ8, H8, I8, hw8, q8⟩ => ?_
      refine thnF (pt.run _ s8 σ8 H8 _ I8 q8) fun b s9 ⟨H9, I9, q9⟩ => ?_
      have fin : ∀ {s' : Shared} {H' : Hp}, Inv (X.blk s3 H3 scope ce fp) ([] ++ pinsAt fp s7.heap) σ8 H' s' → Nx H' → ∃ m, m < n ∧ ∃ i H', Inv (X.blk s3 H3 scope ce fp) [] (wipe σ (own.map (·.2))) H' s' ∧ tn i s'.heap ∧ (∀ b ∈ fp, H' b = none) ∧ W i m H' := by
        intro s' H' K' nx
        obtain ⟨m', hm, w'⟩ := hNx H' nx
        have pin' : ∀ b ∈ fp, ∀ o, s7.heap.get? b = some o → s'.heap.get? b = some o ∧ H' b = none := fun b hb o e =>
          have z := K'.pin (b, o) (List.mem_append_right _ (List.mem_append_right _ (mem_pinsAt hb e)))
          ⟨z.1, z.2.1⟩
        have hl : (wipe σ (own.map (·.2))).length = σ8.length := by rw [← hw8, wipe_length]
        refine ⟨m', hm, i + 1, H', (K'.unpinned (pins := [])).weak hl (fun j v e => (wipe_some (hw8 ▸ e)).1), T.keep _ _ _ st7 fun b hb o e => (pin' b hb o e).1, fun b hb => ?_, w'⟩
        obtain ⟨o, e, _⟩ := T.obj _ _ st7 b hb
        exact (pin' b hb o e).2
      cases b with
      | false => exact fin I9 q9
      | true =>
        refine thnF (pe.run _ s9 σ8 H9 _ I9 q9) fun z s10 ⟨yv, H10, I10, r10, k, xs, ey, hD10, hz10, nx⟩ => ?_
        subst ey
        obtain ⟨tk, rfl⟩ : ∃ tk, z = Value.str k tk := r10
        have T0 := txS_get (X := X.blk s3 H3 scope ce fp) I10 hD10
        refine setT_plus T0 hz10 fun h' sb new => ?_
        have have_o : ∃ u, h'.get? D = some u := by
          obtain ⟨_, _, ⟨o, _, _, _, ho, _⟩, _⟩ := new
          exact ⟨o, ho⟩
        exact fin (I10.write (e := D) (t' := s10.toks + 1) (by rw [hD10]; trivial) (.inl rfl) (fun b u hb hu => (sb.2 b hb).trans hu) have_o (txS_ok new)) nx
  subst hce hs4
  refine PpSet.codeAny_compStart_set (loop _ ?key) (T.self X.A 0 _ _ _ st4 (loop _ ?key))
  intro s6 m H5 K' qq hn f
  refine ⟨m, hn, fun h9 sb => ?_⟩
  obtain ⟨a0, a1, a2, a3, a4, a5⟩ := f
  exact ⟨.ref D, H5, K'.turned (t' := s6.toks) (fun b o hb e => (sb.2 b hb).trans e) a0 a1 a3 a4 a5, rfl, qq⟩
/-- the same, folded -/
def ScLoop (w : World) (J : It) (g : TG) (te : TE) (vs : List Nat) (σ : L2.St) (H1 : Hp) (Q : VK) : Prop := ∀ D, H1 D = none → ∃ W : Nat → Nat → Hp → Prop, (∃ m, W 0 m (upd H1 D (TxS w D []))) ∧ ∀ i m H, W i m H →
  (J.stop i H ∧ Q (.ref D) H) ∨ (J.go i H ∧ ∃ Nx : Hp → Prop, (∀ H', Nx H' → ∃ m', m' < m ∧ W (i + 1) m' H') ∧ ∀ x H', J.yld i H x H' → g x (wipe σ vs) H' fun σ2 H2 => wipe σ2 vs = wipe σ vs ∧
    te σ2 H2 fun y H4 => ∃ (k : Str) (xs : List Str), y = .str k ∧ H4 D = some (TxS w D xs) ∧ xs.length + 1 < scanBound ∧ Nx (upd H4 D (TxS w D (xs ++ [k]))))
theorem tScT_eq (w : World) (wi : TI) (g : TG) (te : TE) (vs : List Nat) (σ : L2.St) (H : Hp) (Q : VK) : tScT w wi g tYes te vs σ H Q = wi σ H fun J H1 => ScLoop w J g te vs σ H1 Q := rfl
theorem sc_texts {w : World} {J : It} {n : Nat} {G : Hp → Prop} {Y : Nat → Hp → V → Hp → Prop} (W : Walk J n G Y) {g : TG} {te : TE} {vs : List Nat} {σ : L2.St} {H : Hp} {Q : VK} (f : Nat → Str) (hn : n + 1 < scanBound) (hG : ∀ H1, Same H H1 → G H1)
    (he : ∀ i x H1 H2, i < n → Same H H1 → Y i H1 x H2 → ∀ R : VK, (∀ H3, Same H1 H3 → R (.str (f i)) H3) → g x (wipe σ vs) H2 fun σ2 H3 => wipe σ2 vs = wipe σ vs ∧ te σ2 H3 R)
    (q : ∀ p H2, H p = none → Same H H2 → H2 p = some (TxS w p ((List.range n).map f)) → Q (.ref p) H2) : ScLoop w J g te vs σ H Q := by
  intro D hD
  refine ⟨fun i m H' => m = n - i ∧ i ≤ n ∧ Same H H' ∧ H' D = some (TxS w D ((List.range i).map f)), ⟨n, rfl, Nat.zero_le _, Same.new hD, upd_same⟩, ?_⟩
  rintro i m H1 ⟨rfl, hi, sm, hd⟩
  by_cases hlt : i < n
  · refine .inr ⟨W.goes i H1 hlt (hG _ sm), fun H' => Same H H' ∧ H' D = some (TxS w D ((List.range (i + 1)).map f)), fun H' p => ⟨n - (i + 1), by omega, rfl, hlt, p⟩, fun x H2 y => he i x H1 H2 hlt sm (W.yields i H1 x H2 hlt (hG _ sm) y) _ fun H3 s3 => ⟨f i, _, rfl, s3 _ _ hd, ?_, Same.lay (sm.trans s3) hD, ?_⟩⟩
    · rw [List.length_map, List.length_range]
      omega
    · rw [upd_same, List.range_succ, List.map_append]
      rfl
  · have e : i = n := by omega
    subst e
    exact .inl ⟨W.stops H1 (hG _ sm), q D H1 hD sm hd⟩
/-- len of a set of texts -/
def rLenTx (w : World) : List V → Hp → VK → Prop := fun vs H Q => ∃ (a : Addr) (xs : List Str), vs = [.ref a] ∧ H a = some (TxS w a xs) ∧ ∀ ks : List Str, ks.Nodup → (∀ k, k ∈ ks ↔ k ∈ xs) → Q (.int (ks.length : Int)) H
theorem cr_lenTx {w : World} (hw : X.w = w) : CallR X (.builtin "len") (rLenTx w) := by
  subst hw
  intro pins s σ H vs us Q I r h
  obtain ⟨a, xs, rfl, ha, q⟩ := h
  rw [Vals.ref1 r]
  obtain ⟨M, m, ⟨o, es, ep, t, ho, hex, hd, T, hf, hn, hw⟩, hm, hM⟩ := txS_get I ha
  have fe := T.few
  refine call_len_set ho hex hd hf (by have : scanBound < 2 ^ 63 := by decide
                                       omega) ?_
  have q2 := q (es.toList.map tkey) T.nd fun k => by rw [← T.mem k, hM k, List.take_length]
  rw [List.length_map, Array.length_toList] at q2
  exact ⟨.int (es.size : Int), H, I.kept (t' := s.toks + 1 + 1) fun b ob q => q, ⟨_, rfl⟩, q2⟩
theorem pairs_at {P : Program} {w : World} : ∀ {es : List DictEntry} {kvs : List (Key × Value)}, Pairs (mixKind P w) es kvs → ∀ (i : Nat) (e : DictEntry), es[i]? = some e → ∃ k, kvs[i]? = some (k, e.val) ∧ (mixKind P w).is k e.key = true
  | _, _, .nil, i, e, h => by simp at h
  | _, _, .cons (kv := kv) a b t, 0, e, h => by
    cases h
    exact ⟨kv.1, by rw [b]; rfl, a⟩
  | _, _, .cons a b t, i + 1, e, h => by
    obtain ⟨k, h1, h2⟩ := pairs_at t i e h
    exact ⟨k, h1, h2⟩
theorem vals_kv : ∀ {kvs : List (Key × V)} {vs : List (Key × Value)}, KV kvs vs → Vals (kvs.map (·.2)) (vs.map (·.2))
  | _, _, .nil => .nil
  | _, _, .cons h t => .cons h.2 (vals_kv t)
section
variable {e : Expr} {te : TE} {p apos cpos pos : Pos}
/-- list(e.values()) -/
def tListVals (te : TE) : TE := fun σ H Q => te σ H fun x H1 => ∃ (d : Addr) (kvs : List (Key × V)), x = .ref d ∧ H1 d = some (.dK kvs) ∧ ∀ l, H1 l = none → Q (.ref l) (upd H1 l (.lst (kvs.map (·.2))))
theorem pe_listVals (hc : X.calm = true) (he : PE X e te) (hg : Gl X "list") (hm : X.mg "list" = none) (hv : bootBuiltins "list" = some (.type "list")) (hbase : attributeBase e "values" X.env (eval e X.env) = eval e X.env := by rfl) (hline : (apos.endLine == cpos.line) = true := by rfl)
    (hs : starEach [.Call (.Attribute e "values" apos) [] [] cpos] X.env = (false, eval (.Call (.Attribute e "values" apos) [] [] cpos) X.env) :: starEach [] X.env := by rfl) :
    PE X (.Call (.Name "list" p) [.Call (.Attribute e "values" apos) [] [] cpos] [] pos) (tListVals te) := by
  refine ⟨fun pins s σ H Q I hq => wpAny_Call_Name_kw (ld_blt I hg hm hv (PyProof.Rows.callWith_type1 ?_ hs rfl))⟩
  rw [hs]
  refine Calls.spliced_cons (wpAny_Call_method (T := "dict") (id := "dict.values") hbase rfl hline F.plainAttrs_dict F.slot_dict_values F.type_dict_values (thn (he.run pins s σ H _ I hq) ?_))
  rintro u s1 ⟨x, H1, I1, rx, d, kvs, ex, hd, q⟩
  subst ex
  obtain rfl : u = Value.ref d := rx
  obtain ⟨hz, hs0, vs, kv, hdo⟩ := I1.hok d _ hd
  obtain ⟨ep, hat⟩ := hdo.dictAt
  have lk : kvs.length = vs.length := Paired.length kv
  have I2 : Inv X pins σ H1 { s1 with heap := s1.heap.push { cls := .type "dict_values", data := .fields #[.ref d] } } := I1.kept (t' := s1.toks) fun b ob q => Heap.get?_push_of_some _ q
  refine ⟨hdo.typeIs, hdo.mapOf.noDict, ?_⟩
  show wpAny (model X.prog X.w) X.A (callWith cpos (.builtin "dict.values") [.ref d] [] []) _ X.xe s1
  refine method_meetsIn F.slot_dict_values F.entry_dict_values rfl (PySem.evalArgs_none ⟨rfl, hdo.typeIs, F.args_dict_values_1 _, _, meets_dict_values (mixKind X.prog X.w) d hs0, ⟨vs, hdo⟩, Calls.spliced_nil ?_⟩)
  refine PySem.W.kdl_call (PySem.W.kdl_values (knd := mixKind X.prog X.w) (d := d) (kvs := vs) (ep := ep)) (I1.ok.hd hc) ⟨⟨_, Heap.get?_push_size _ rfl, rfl, rfl⟩, hat.push _⟩ (by omega) fun h' tk acc c hk hS hacc => ?_
  have ev : acc.toList = vs.map (·.2) := PySem.W.kdl_vals_eq acc.toList (by rw [Array.length_toList]; exact hacc.1) fun j v ej => hacc.2 j v (by rw [← Array.getElem?_toList]; exact ej)
  have vv : Vals (kvs.map (·.2)) acc.toList := by rw [ev]; exact vals_kv kv
  exact ⟨.ref _, _, I2.laid (t' := tk) (o := .lst (kvs.map (·.2))) hk (Nat.le_refl _) ⟨by rw [List.length_map]; exact hz, acc.toList, c, vv, by rw [Array.toArray_toList]; exact hS⟩, rfl, q _ (I2.hok.fresh (Nat.le_refl _))⟩
/-- dict(e.items()) -/
def tDictItems (te : TE) : TE := fun σ H Q => te σ H fun x H1 => ∃ (d : Addr) (kvs : List (Key × V)), x = .ref d ∧ H1 d = some (.dK kvs) ∧ ∀ l, H1 l = none → Q (.ref l) (upd H1 l (.dK (mergeK [] kvs)))
theorem pe_dictItems (hc : X.calm = true) (he : PE X e te) (hg : Gl X "dict") (hm : X.mg "dict" = none) (hv : bootBuiltins "dict" = some (.type "dict")) (hbase : attributeBase e "items" X.env (eval e X.env) = eval e X.env := by rfl) (hline : (apos.endLine == cpos.line) = true := by rfl)
    (hs : starEach [.Call (.Attribute e "items" apos) [] [] cpos] X.env = (false, eval (.Call (.Attribute e "items" apos) [] [] cpos) X.env) :: starEach [] X.env := by rfl) :
    PE X (.Call (.Name "dict" p) [.Call (.Attribute e "items" apos) [] [] cpos] [] pos) (tDictItems te) := by
  refine ⟨fun pins s σ H Q I hq => wpAny_Call_Name_kw (ld_blt I hg hm hv (PyProof.Rows.callWith_type1 ?_ hs rfl))⟩
  rw [hs]
  refine Calls.spliced_cons (wpAny_Call_method (T := "dict") (id := "dict.items") hbase rfl hline F.plainAttrs_dict F.slot_dict_items F.type_dict_items (thn (he.run pins s σ H _ I hq) ?_))
  rintro u s1 ⟨x, H1, I1, rx, d, kvs, ex, hd, q⟩
  subst ex
  obtain rfl : u = Value.ref d := rx
  obtain ⟨hz, hs0, vs, kv, hdo⟩ := I1.hok d _ hd
  have lk : kvs.length = vs.length := Paired.length kv
  have I2 : Inv X pins σ H1 { s1 with heap := s1.heap.push { cls := .type "dict_items", data := .fields #[.ref d] } } := I1.kept (t' := s1.toks) fun b ob q => Heap.get?_push_of_some _ q
  refine ⟨hdo.typeIs, hdo.mapOf.noDict, ?_⟩
  show wpAny (model X.prog X.w) X.A (callWith cpos (.builtin "dict.items") [.ref d] [] []) _ X.xe s1
  refine method_meetsIn F.slot_dict_items F.entry_dict_items rfl (PySem.evalArgs_none ⟨rfl, hdo.typeIs, F.args_dict_items_1 _, _, meets_dict_items (mixKind X.prog X.w) d hs0, ⟨vs, hdo⟩, Calls.spliced_nil ?_⟩)
  obtain ⟨ob, es, ep, g1, g2, g3, g4, g5, g6⟩ := id hdo
  have raw : s1.heap.DictRaw d es ep := ⟨ob, g1, g2, g3⟩
  have lo : (s1.heap.push { cls := .type "dict_items", data := .fields #[.ref d] }).objs.size = s1.heap.objs.size + 1 := Heap.size_push ..
  refine PySem.call_dict_pairs (knd := mixKind X.prog X.w) (kvs := vs) (PySem.PairArg.items s1.heap.objs.size d es ep) (I1.ok.hd hc) ⟨⟨_, Heap.get?_push_size _ rfl, rfl, rfl, rfl⟩, ⟨ob, Heap.get?_push_of_some _ g1, g2, g3⟩⟩ ⟨?_, ?_⟩ ?_ fun h' tk hd' hk => ?_
  · rw [← Array.length_toList]
    exact (Pairs.length g5).symm
  · rintro i key v ⟨hi, rfl, rfl⟩
    exact pairs_at g5 i _ (by rw [Array.getElem?_toList]; exact Array.getElem?_eq_getElem hi)
  · rw [← Array.length_toList, Pairs.length g5, ← lk]
    exact hz
  · have hm2 : ((s1.heap.push { cls := .type "dict_items", data := .fields #[.ref d] }).objs.size == sysModules) = false := beq_eq_false_iff_ne.mpr (Nat.ne_of_gt I2.big)
    have hlen : (mergeK [] kvs).length ≤ sizeLine := Nat.le_trans (length_mergeK kvs []) (by rw [List.length_nil, Nat.zero_add]; exact hz)
    exact ⟨.ref _, _, I2.laid (t' := tk) (fun b o e => hk b o (fun z => nomatch z) e) (Nat.le_refl _) (show ObjOk X.prog X.w _ _ _ (.dK (mergeK [] kvs)) from ⟨hlen, hm2, merged [] vs, KV.merge kv .nil, hd'⟩), rfl, q _ (I2.hok.fresh (Nat.le_refl _))⟩
end
end
end LP

set_option Elab.async false
set_option linter.all false
set_option maxRecDepth 100000
set_option maxHeartbeats 4000000
/-! LPW: defs called that may raise; first, *more = list. -/
namespace LPW
open PySem PySem.Spec PySem.W PySem.Calls PyProof.Rows
section
variable {prog : Program} {w : World} {A : Around} {E : Value → Shared → Prop} {s : Shared} {env : Env} {elts : List Expr} {k : Nat} {pos : Pos}
theorem star1 {l : Addr} {v : Value} {vs : List Value} {Q : List Value → Shared → Prop} (hl : s.heap.IsList l (v :: vs).toArray) (hh : A.handled = none) (hz : vs.length + 1 ≤ 16384)
    (h : ∀ (h' : Heap) tk, (∀ b o, s.heap.get? b = some o → h'.get? b = some o) → s.heap.get? h'.objs.size = none → Q [v, .ref h'.objs.size] { s with heap := h'.push (listOf vs.toArray 0), toks := tk }) : wpAny (model prog w) A (unpackItems (.ref l) 2 (some 1)) Q E s := by
  have hlt : l ≠ s.heap.objs.size := by obtain ⟨o, ho, _⟩ := hl; exact Nat.ne_of_lt (Heap.lt_size ho)
  have hll : l < s.heap.objs.size := by obtain ⟨o, ho, _⟩ := hl; exact Heap.lt_size ho
  have hsz : (v :: vs).toArray.size = vs.length + 1 := by rw [List.size_toArray, List.length_cons]
  unfold unpackItems
  refine wpAny_bind ?_
  unfold notIterableAtAll
  refine wpAny_bind (wpAny_specialOf hl.typeIs slot_list_iter.lookup ?_)
  refine wpAny_pure ?_
  simp only [Bool.false_eq_true, if_false]
  refine wpAny_bind (wpAny_holding (wpAny_pyIter_list hl ?_))
  refine wpAny_bind (wpAny_holding (kun_draw hlt 1 0 _ _ ⟨_, Heap.get?_push_size _ rfl, rfl, rfl⟩ (hl.push _) (by omega) fun h₁ hit₁ hs₁ => ?_))
  have hl₁ : h₁.IsList l (v :: vs).toArray := (hl.push _).extBut hs₁.extBut hlt
  rw [Nat.zero_add] at hit₁
  have hit₁' := hit₁
  obtain ⟨oi, hoi, _⟩ := hit₁'
  have hl₁' := hl₁
  obtain ⟨ol, hol, _⟩ := hl₁'
  rw [List.drop_zero]
  have hfl : ((v :: vs).toArray.toList.take 1).length = 1 := by rw [List.length_take, Array.length_toList]; omega
  rw [if_neg (show ¬ (((v :: vs).toArray.toList.take 1).length < 1) by rw [hfl]; omega)]
  refine wpAny_bind (wpAny_holding (kun_collect (s := { s with heap := h₁ }) (T := "list_iterator") (.inr (.inr (.inl rfl))) (Walks.list (A := A.in1) hh s.heap.objs.size l hlt (v :: vs).toArray) (fun j u st => st.1.typeIs) (k := 1) (by omega) ⟨hit₁, hl₁⟩ (Heap.lt_size hoi) (Heap.lt_size hol) (fun h₂ tk hk => ?_) (by rw [sizeLine_eq]; omega)))
  have he : ∀ b o, s.heap.get? b = some o → h₂.get? b = some o := fun b o e => by
    have hb : b ≠ s.heap.objs.size := Nat.ne_of_lt (Heap.lt_size e)
    exact hk b o hb (hs₁.extBut b o hb (Heap.get?_push_of_some _ e))
  have nn : s.heap.get? h₂.objs.size = none := by
    cases e : s.heap.get? h₂.objs.size with
    | none => rfl
    | some o => exact absurd (Heap.lt_size (he _ _ e)) (Nat.lt_irrefl _)
  show wpAny _ _ (newList ((vs.take (vs.length - 0))) >>= fun d => pure ([v] ++ [d] ++ (vs.drop (vs.length - 0)))) _ _ _
  rw [Nat.sub_zero, List.take_length, List.drop_length]
  refine wpAny_bind (wpAny_newObj_type (wpAny_pure (h h₂ tk he nn)) ?_)
  show vs.toArray.size ≤ sizeLine
  rw [List.size_toArray, sizeLine_eq]
  omega
end
end LPW
namespace LP
open PySem PySem.Spec L2 SlX
open PyProof.Rows hiding St
section
variable {X : Cx} {k : Nat} {f : Addr} {fd : FuncData} {ps : List Str} {sp : Sp} {x : Str} {st : Stmt} {e : Expr} {es : List Expr} {np pos : Pos} {t : TA} {E : XK}
/-- a def that may raise, called -/
theorem pe_dfX (tk : Takes X (fun cls d _ H => E cls d H)) (D : Df X.K X.mg x st ps f fd) (G : FnOk X.prog X.w X.K X.mg X.base (L2.CX X.prog X.w) k f fd ps sp) (hr : Room k X.A)
    (hg : Gl X x) (ha : PA X (e :: es) t) (hdb : (x == ("__debug__" : Str)) = false := by decide) (he : starEach (e :: es) X.env = (false, eval e X.env) :: starEach es X.env := by rfl) (hpl : (backTo pos (starEach es X.env)).any (·.1) = false := by rfl) :
    PE X (.Call (.Name x np) (e :: es) [] pos) (tCall sp [] E t) :=
  pe_call G hr hg D.g D.F.kp D.b .nil (passX tk) ha hdb he hpl
/-- t, *u = list -/
def gStar1 (t : TGs) : TG := fun v σ H Q => ∃ (a : Addr) (y : V) (xs : List V), v = .ref a ∧ H a = some (.lst (y :: xs)) ∧ xs.length + 1 ≤ 16384 ∧ ∀ D, H D = none → t [y, .ref D] σ (upd H D (.lst xs)) Q
theorem pg_star1 {K : PySem.W.Frag} {t1 t2 : Expr} {p2 : Pos} {j : Nat} {t : TGs} (hK : X.K = K) (hc : X.calm = true) (h : PGs X [t1, t2] t)
    (hn : (assignEach [t1, .Starred t2 p2] X.env).length = 2 := by rfl) (hst : (assignEach [t1, .Starred t2 p2] X.env).findIdx? (·.1) = some 1 := by rfl)
    (hm : (assignEach [t1, .Starred t2 p2] X.env).map (·.2) = (assignEach [t1, t2] X.env).map (·.2) := by rfl) : PG X (.Tuple [t1, .Starred t2 p2] j pos) (gStar1 t) := by
  refine ⟨fun pins s σ H v u Q I r hw => ?_⟩
  obtain ⟨a, y, xs, rfl, ha, hz, q⟩ := hw
  cases r
  obtain ⟨z, its, n, rv, _, e⟩ := I.lstM ha
  cases rv with
  | @cons _ u _ us r1 rt =>
    rw [PyProof.Rows.assign_Tuple]
    refine wpAny_bind (wpAny_standAt ?_)
    unfold unpack
    rw [hn, hst, hm]
    have IL : s.heap.IsList a (u :: us).toArray := PySem.IsL.isList e
    have lx : us.length = xs.length := (Vals.length rt).symm
    refine wpAny_bind (wpAny_holding (LPW.star1 IL (I.ok.hd hc) (by omega) fun h' tk kp nn => ?_))
    have hnD : H h'.objs.size = none := I.hok.gone nn
    have zx : xs.length ≤ sizeLine := Nat.le_trans (Nat.le_succ _) z
    have J : L2.Inv X pins σ (upd H h'.objs.size (.lst xs)) { s with heap := h'.push (PySem.W.listOf us.toArray 0), toks := tk } :=
      I.laidN (t' := tk) (fun b o e => Heap.get?_push_of_some _ (kp b o e)) nn hnD ⟨zx, us, 0, rt, Heap.get?_push_size _ rfl⟩
    exact h.run pins _ σ _ [y, .ref h'.objs.size] _ Q J (.cons r1 (.cons rfl .nil)) (q _ hnD)
end
end LP

set_option Elab.async false
set_option linter.all false
set_option maxRecDepth 100000
set_option maxHeartbeats 4000000
/-! LPF: match of a list by names, classmethods called with a star, defs that a value holds. -/
namespace LP
open PySem PySem.Spec L2 SlX
open PyProof.Rows hiding St signs
/-! ### match -/
/-- patterns that take whatever stands there under a name -/
def Caps (ps : List Pattern) (ns : List Str) : Prop := Paired (fun p n => ∃ pos, p = Pattern.MatchAs none (some n) pos) ps ns
def capS : List Nat → List V → St → St
  | i :: is, v :: vs, σ => capS is vs (σ.set i (some v))
  | _, _, σ => σ
section
variable {M : Model} {A : Around} {E : Value → Shared → Prop} {s : Shared} {env : Env}
theorem each_caps : ∀ {ps : List Pattern} {ns : List Str} {us : List Value} {Q : Option (List (Str × Value)) → Shared → Prop}, Caps ps ns → ns.length = us.length → Q (some (ns.zip us)) s → wpAny M A (matchEach ps env us) Q E s
  | _, _, us, Q, .nil, hl, h => by
    cases us with
    | nil => exact wpAny_matchEach_nil h
    | cons _ _ => cases hl
  | p :: ps, n :: ns, us, Q, .cons hp t, hl, h => by
    cases us with
    | nil => cases hl
    | cons u us =>
      obtain ⟨pos, rfl⟩ := hp
      refine wpAny_matchEach_cons (wpAny_matchPattern_Capture ?_)
      exact each_caps (ps := ps) (ns := ns) (us := us) t (by simpa using hl) h
end
section
variable {X : Cx} {pins : List (Addr × Obj)} {H : Hp}
theorem store_caps {M : Model} {A : Around} {E : Value → Shared → Prop} (hN : X.N.Nodup) : ∀ {is : List Nat} {ns : List Str} {vs : List V} {us : List Value} {σ : St} {s : Shared} {Q : Unit → Shared → Prop}, Paired (fun i n => X.N[i]? = some n ∧ X.env.scope.names.lookup n = some .local) is ns →
    ns.length = us.length → Vals vs us → Inv X pins σ H s → (∀ s', Inv X pins (capS is vs σ) H s' → Q () s') → wpAny M A (assignInOrder ((ns.zip us).map fun p => bindName X.env p.1) ((ns.zip us).map (·.2))) Q E s
  | _, _, vs, us, σ, s, Q, .nil, hl, r, I, h => by
    cases us with
    | nil =>
      cases r
      exact assignInOrder_nil (h s I)
    | cons _ _ => cases hl
  | i :: is, n :: ns, vs, us, σ, s, Q, .cons hi t, hl, r, I, h => by
    cases r with
    | nil => cases hl
    | @cons v u vs us rv r =>
      show wpAny M A (assignInOrder (bindName X.env n :: (ns.zip us).map fun p => bindName X.env p.1) (u :: (ns.zip us).map (·.2))) Q E s
      refine assignInOrder_cons (wpAny_bindName (store_ok I hN hi.1 (.inl hi.2) rv (fun s1 I1 => ?_) (.inr hi.2)))
      exact store_caps hN t (by simpa using hl) r I1 h
/-- match e: case [a, b, ..] if g: body -/
def tMatch (K : PySem.W.Frag) (n : Nat) (is : List Nat) (te : TE) (tg : TT) (tb : TS) : TS := fun D σ H => te σ H fun x H1 => ∃ a xs, x = .ref a ∧ SqL K H1 a xs ∧
  ((xs.length = n → tg (capS is xs σ) H1 fun b H2 => if b = true then tb D (capS is xs σ) H2 else D.nx (capS is xs σ) H2) ∧ (xs.length ≠ n → D.nx σ H1))
theorem ps_match1 {K : PySem.W.Frag} {subj g : Expr} {ps : List Pattern} {ns : List Str} {is : List Nat} {body : List Stmt} {te : TE} {tg : TT} {tb : TS} {pos p1 : Pos} (hK : X.K = K) (hc : X.calm = true) (hs : PE X subj te) (hp : Caps ps ns) (hN : X.N.Nodup)
    (hi : Paired (fun i n => X.N[i]? = some n ∧ X.env.scope.names.lookup n = some .local) is ns) (hg : PT X g tg) (hb : PSs X body tb)
    (hstar : ps.findIdx? (·.isStar) = none := by rfl) (hwild : (ps.all fun p => p.isWildcard || (p.isStar && p.names.isEmpty)) = false := by rfl) :
    PS X (.Match subj [⟨.MatchSequence ps p1, some g, body⟩] pos) (tMatch K ps.length is te tg tb) := by
  subst hK
  refine ⟨fun pins s σ H D I h => ?_⟩
  refine wpAny_Match (thn (hs.run pins s σ H _ I h) fun u s1 ⟨x, H1, I1, r1, a, xs, ex, hq, q1, q2⟩ => ?_)
  subst ex
  cases r1
  obtain ⟨its, rv, pl, hz⟩ := I1.list hq
  have hsz : its.toArray.size = xs.length := by rw [List.size_toArray]; exact rv.length.symm
  have fit : (its.toArray.size : Int) < 2 ^ 63 := by
    have := sizeLine_eq
    have hz : xs.length ≤ sizeLine := hz
    omega
  have lp : ps.length = ns.length := Paired.length hp
  refine wpAny_matchCases_cons ?_
  by_cases hn : xs.length = ps.length
  · refine matchSeq_list_hit pl.isList fit (by rw [hsz, hn]) ?_ hstar hwild
    have e : ps.length = its.toArray.size := by rw [hsz, hn]
    rw [e]
    refine PySem.W.kun_itemsOf (I1.ok.hd hc) pl.isList fun h' hx => ?_
    have I2 : Inv X pins σ H1 { s1 with heap := h', toks := s1.toks + 1 + 1 } := I1.kept (t' := s1.toks + 1 + 1) fun b o e => hx b o (Nat.ne_of_lt (Heap.lt_size e)) e
    refine each_caps hp (by rw [← lp, e, Array.length_toList]) ?_
    refine store_caps hN hi (by rw [← lp, e, Array.length_toList]) (by simpa using rv) I2 fun s3 I3 => ?_
    refine thn (hg.run pins s3 _ H1 _ I3 (q1 hn)) fun b s4 ⟨H2, I4, q⟩ => ?_
    cases b with
    | true => exact hb.run pins s4 _ H2 D I4 q
    | false => exact wpAny_matchCases_nil ⟨_, H2, I4, q⟩
  · refine matchSeq_list_miss pl.isList fit (by rw [hsz]; exact hn) ?_ hstar hwild
    refine wpAny_matchCases_nil ⟨σ, H1, ?_, q2 hn⟩
    exact I1.kept (t' := s1.toks + 1 + 1) fun b o e => e
end
/-! ### classmethods -/
section
variable {X : Cx} {CX : CXT} {k : Nat} {C p g : Addr} {mc : Value} {sp : Sp} {E : XK} {o e : Expr} {es : List Expr} {f m : Str} {pos apos sp_ : Pos} {ta te : TE} {t : TA} {pl : Sem Bool}
/-- e.m(*y), e the class at C, m a classmethod -/
def tCMethS (K : PySem.W.Frag) (C : Addr) (sp : Sp) (E : XK) (ta te : TE) : TE := fun σ H Q => ta σ H fun x H1 => x = .ref C ∧ te σ H1 fun y H2 => ∃ a xs, y = V.ref a ∧ (SqT K H2 a xs ∨ SqL K H2 a xs) ∧ sp (.ref C :: xs) H2 Q E
theorem starcall1_of {M : Model} {A : Around} {E : Value → Shared → Prop} {s : Shared} {env : Env} {o e2 : Expr} {m : Str} {p apos pos : Pos} {Q : Value → Shared → Prop} (hbase : attributeBase o m env (eval o env) = eval o env)
    (hst : starEach [.Starred e2 p] env = [(true, eval e2 env)])
    (h : wpAny M A (eval o env) (fun ov s₁ => wpAny M A (getAttr ov m true) (fun f s₂ => wpAny M A (callWith pos f [] (backTo pos [(true, eval e2 env)]) []) Q E s₂) E s₁) E s) :
    wpAny M A (eval (.Call (.Attribute o m apos) [.Starred e2 p] [] pos) env) Q E s := by
  have hke : backToKw pos (keywordEach [] env) = [] := rfl
  have hform : methodCallForm ([Expr.Starred e2 p].length + ([] : List Keyword).length) (backTo pos [(true, eval e2 env)]) [] = false := rfl
  have hpos : methodCallPos false o env apos pos = pure pos := rfl
  have hcal : ∀ ov, calleeOf false o env ov m = (getAttr ov m true >>= fun v => pure (v, [])) := fun _ => rfl
  rw [arm_eval_Call, hbase, hst, hke]
  refine wpAny_bind (wpAny_mono h (fun ov s₁ h₁ => ?_) fun _ _ x => x)
  refine wpAny_bind (wpAny_standAt ?_)
  unfold methodCall
  rw [hform, hpos, hcal]
  refine wpAny_bind (wpAny_holding (wpAny_bind (wpAny_mono h₁ (fun f s₂ h₂ => wpAny_pure ?_) fun _ _ x => x)))
  exact wpAny_bind (wpAny_pure h₂)
theorem pe_cmethS {K : PySem.W.Frag} (hK : X.K = K) (he : PE X o ta) (r : ClX.CRead X.K C mc) (c : ClX.CMet X.K C mc m p g) (F : FnR X.prog X.w X.K X.mg X.base CX k g sp) (hr : Room k X.A) (hx : Passes CX X E) (ha : PE X e te)
    (hbase : attributeBase o m X.env (eval o X.env) = eval o X.env := by rfl)
    (hst : starEach [.Starred e sp_] X.env = [(true, eval e X.env)] := by rfl) :
    PE X (.Call (.Attribute o m apos) [.Starred e sp_] [] pos) (tCMethS K C sp E ta te) := by
  subst hK
  refine ⟨fun pins s σ H Q I h => ?_⟩
  refine starcall1_of hbase hst (thn (he.run pins s σ H _ I h) fun u s1 ⟨x, H1, I1, rx, ex, q⟩ => ?_)
  subst ex
  obtain rfl : u = Value.ref C := rx
  refine ClX.getcmet_ok I1 r c fun s2 I2 => ?_
  refine PySem.W.ks_call rfl (PySem.W.keeps_M (K := X.K) (self := .ref C) c.fi) (PySem.W.ks_lone (thn (ha.run _ s2 σ H1 _ I2 q) fun v s3 ⟨y, H2, I3, ry, a, xs, ey, hxs, q2⟩ => ?_))
  subst ey
  obtain rfl : v = Value.ref a := ry
  refine StX.star_any I3 hxs fun us s4 I4 rv => ⟨⟨ClX.pin_at I4, I4.kIn⟩, ?_⟩
  exact ClX.run_cm F hr hx I4 rv q2
/-- e.m(), e the class at C, m a classmethod -/
def tCMeth0 (C : Addr) (sp : Sp) (E : XK) (ta : TE) : TE := fun σ H Q => ta σ H fun x H1 => x = .ref C ∧ sp [.ref C] H1 Q E
theorem pe_cmeth0 (he : PE X o ta) (r : ClX.CRead X.K C mc) (c : ClX.CMet X.K C mc m p g) (F : FnR X.prog X.w X.K X.mg X.base CX k g sp) (hr : Room k X.A) (hx : Passes CX X E)
    (ht : eval (.Call (.Attribute o m apos) [] [] pos) X.env = (do
      let ov ← eval o X.env
      standAt apos.atName
      let (f, first) ← holding [ov] (getMethod ov m pl)
      callWith pos f first (backTo pos (starEach [] X.env)) (backToKw pos (keywordEach [] X.env))) := by rfl) :
    PE X (.Call (.Attribute o m apos) [] [] pos) (tCMeth0 C sp E ta) := by
  refine ⟨fun pins s σ H Q I h => ?_⟩
  refine PySem.W.methodCall_KW (pl := pl) (thn (he.run pins s σ H _ I h) fun u s1 ⟨x, H1, I1, rx, ex, q⟩ => ?_) ht
  subst ex
  obtain rfl : u = Value.ref C := rx
  refine ClX.getmethcm_ok I1 r c fun s2 I2 => ?_
  exact PySem.W.callWith_M0 (K := X.K) ⟨ClX.pin_at I2, I2.kIn⟩ c.fi (ClX.run_cm (us := []) F hr hx I2 .nil q)
end
/-! ### defs that a value holds -/
/-- the def at f keeps a promise, whether it may raise or not -/
structure HeldV (P : Program) (w : World) (K : PySem.W.Frag) (mg : Str → Option Value) (base : Heap) (k : Nat) (f : Addr) (sp : Sp) : Prop where
  ex : ∃ (fd : FuncData) (ps : List Str), (FnOk P w K mg base CX0 k f fd ps sp ∨ FnOk P w K mg base (L2.CX P w) k f fd ps sp) ∧ PySem.W.keepIn K (.ref f) = true ∧ Binds K fd ps []
theorem takes_false {X : Cx} : Takes X (fun _ _ _ _ => False) := fun u s' ⟨a, B, sI, pins, σ, H, cls, d, e, I, nb, up, sky, na, os, ag, w⟩ => w.elim
section
variable {X : Cx} {k : Nat} {fe e : Expr} {es : List Expr} {tf : TE} {t : TA} {pos : Pos}
def tCallV (S : Addr → Sp → Prop) (tf : TE) (t : TA) : TE := fun σ H Q => tf σ H fun y H1 => ∃ f sp, y = V.ref f ∧ S f sp ∧ t σ H1 fun vs H2 => sp vs H2 Q E0
theorem pe_callV {S : Addr → Sp → Prop} (hS : ∀ f sp, S f sp → HeldV X.prog X.w X.K X.mg X.base k f sp) (hr : Room k X.A) (hf : PE X fe tf) (ha : PA X (e :: es) t)
    (ht : eval (.Call fe (e :: es) [] pos) X.env = (do callWith pos (← eval fe X.env) [] (backTo pos (starEach (e :: es) X.env)) (backToKw pos (keywordEach [] X.env))) := by rfl)
    (he : starEach (e :: es) X.env = (false, eval e X.env) :: starEach es X.env := by rfl) (hpl : (backTo pos (starEach es X.env)).any (·.1) = false := by rfl) : PE X (.Call fe (e :: es) [] pos) (tCallV S tf t) := by
  refine ⟨fun pins s σ H Q I h => ?_⟩
  refine Call_ (thn (hf.run pins s σ H _ I h) fun u s1 ⟨y, H1, I1, ry, f, sp, ey, hs, q⟩ => ?_) ht
  subst ey
  obtain rfl : u = Value.ref f := ry
  obtain ⟨fd, ps, F, hk, hb⟩ := (hS f sp hs).ex
  refine PySem.W.callWith_K (h₀ := X.base) I1.ok.mod.kin hk (thn (ha.run pos pins s1 σ H1 _ I1 q) fun us s2 ⟨vs, H2, I2, r, q2⟩ => ⟨I2.kIn, ?_⟩) he hpl
  have q3 : sp (vs ++ []) H2 Q E0 := by rw [List.append_nil]; exact q2
  rcases F with F | F
  · exact run_fn F hr hb .nil pass0 I2 r q3
  · exact run_fn F hr hb .nil (passX takes_false) I2 r q3
end
/-! ### def m(cls, *v), a classmethod -/
structure Cm (K : PySem.W.Frag) (C : Addr) (m q : Str) (st : Stmt) (pc pv : Str) (p f : Addr) (fd : FuncData) : Prop where
  F : Fun K m q st f fd
  rd : ClX.CRead K C (.type "type")
  at_ : ClX.CMet K C (.type "type") m p f
  b : ∀ (u : Value) (rest : List Value), bindArgs fd ⟨u :: rest, []⟩ = (newTuple rest >>= fun t => pure [(pc, u), (pv, t)])
section
variable {P : Program} {w : World} {K : PySem.W.Frag} {mg : Str → Option Value} {base : Heap} {C p f : Addr} {m q pc pv : Str} {st : Stmt} {fd : FuncData} {N : List Str} {k : Nat} {sp : Sp}
def spStar (sp : Sp) : Sp := fun vs H Q E => ∃ v rest, vs = v :: rest ∧ rest.length ≤ sizeLine ∧ ∀ p, H p = none → sp [v, V.ref p] (upd H p (.tup rest)) Q E
theorem Cm.ok (D : Cm K C m q st pc pv p f fd) (S : FnScope N [pc, pv] (defScope st))
    (hbody : ∀ (cdv : Value) (A : Around) (outer : List Env) (s : Shared) (H : Hp) (vs : List V) (Q : VK) (E : XK), Room k (A.deeper (envOfC q (defScope st) s.heap.objs.size f cdv)) → sp vs H Q E →
      ∃ t, PSs (cxOf CX0 P w K mg base N q (defScope st) f cdv A outer s H E).nox (defBody st) t ∧ t { nx := fun _ H' => Q .non H', rt := Q } (start N vs) H) :
    FnR P w K mg base CX0 (k + 1) f (spStar sp) := by
  obtain ⟨oc, od, kV, doc, pm, an, cdv, ct, osl, rfl, lk, hcd⟩ := D.F.ex
  refine (StX.fn_star (ps := [pc]) (pv := pv) (sp := sp) lk hcd S StX.cxUp_none (fun us rest hl => ?_) fun A outer s H vs Q E hr hsp => ?_).imp fun vs H Q E h => ?_
  · match us, hl with
    | [u], _ => exact D.b u rest
  · obtain ⟨t, h, q⟩ := hbody cdv A outer s H vs Q E hr hsp
    exact ⟨t, h.nox, q⟩
  · obtain ⟨v, rest, rfl, hz, h⟩ := h
    exact ⟨[v], rest, rfl, rfl, hz, h⟩
theorem Cm.okX (D : Cm K C m q st pc pv p f fd) (S : FnScope N [pc, pv] (defScope st))
    (hbody : ∀ (cdv : Value) (A : Around) (outer : List Env) (s : Shared) (H : Hp) (vs : List V) (Q : VK) (E : XK), Room k (A.deeper (envOfC q (defScope st) s.heap.objs.size f cdv)) →
      Takes (cxOf (L2.CX P w) P w K mg base N q (defScope st) f cdv A outer s H E) (fun cls d _ H' => E cls d H') → sp vs H Q E →
      ∃ t, PSs (cxOf (L2.CX P w) P w K mg base N q (defScope st) f cdv A outer s H E) (defBody st) t ∧ t { nx := fun _ H' => Q .non H', rt := Q } (start N vs) H) :
    FnR P w K mg base (L2.CX P w) (k + 1) f (spStar sp) := by
  obtain ⟨oc, od, kV, doc, pm, an, cdv, ct, osl, rfl, lk, hcd⟩ := D.F.ex
  refine (StX.fn_star (ps := [pc]) (pv := pv) (sp := sp) lk hcd S StX.cxUp (fun us rest hl => ?_) fun A outer s H vs Q E hr hsp => ?_).imp fun vs H Q E h => ?_
  · match us, hl with
    | [u], _ => exact D.b u rest
  · exact hbody cdv A outer s H vs Q E hr (takes_of rfl rfl rfl rfl) hsp
  · obtain ⟨v, rest, rfl, hz, h⟩ := h
    exact ⟨[v], rest, rfl, rfl, hz, h⟩
end
section
variable {X : Cx} {k : Nat} {C f : Addr} {fd : FuncData} {ps : List Str} {sp : Sp} {x q : Str} {st : Stmt} {np pos : Pos}
/-- C(), C a plain class with an own __init__(self) -/
theorem pe_mkP0 (O : Oq X.K X.mg x C) (D : Mt X.K C "__init__" q st ps f fd) (G : FnOk X.prog X.w X.K X.mg X.base CX0 k f fd ps sp) (hr : Room (k + 1) X.A) (hg : Gl X x) (hdb : (x == ("__debug__" : Str)) = false := by decide) : PE X (.Call (.Name x np) [] [] pos) (tMake C sp [] E0 tNil) :=
  pe_make0 ⟨O.mks, D.at_, D.fn, O.kp⟩ G hr hg O.g D.b .nil pass0 hdb
theorem pe_mtP0 {m : Str} {o : Expr} {ta : TE} {apos : Pos} {pl : Sem Bool} (O : Oq X.K X.mg x C) (D : Mt X.K C m q st ps f fd) (G : FnOk X.prog X.w X.K X.mg X.base CX0 k f fd ps sp) (hr : Room k X.A) (he : PE X o ta)
    (ht : eval (.Call (.Attribute o m apos) [] [] pos) X.env = (do
      let ov ← eval o X.env
      standAt apos.atName
      let (f, first) ← holding [ov] (getMethod ov m pl)
      callWith pos f first (backTo pos (starEach [] X.env)) (backToKw pos (keywordEach [] X.env))) := by rfl) :
    PE X (.Call (.Attribute o m apos) [] [] pos) (tMeth C m sp [] E0 ta tNil) := pe_meth0 he O.cl D.m G hr D.b .nil pass0 ht
end
end LP

set_option linter.all false
/-! PT: texts of patterns in plain words; what the scans over them find. Signs are code points: 40 opens, 41 shuts, 35 is again. -/
namespace PT
/-- a scan that may stop -/
def run {σ : Type} (f : σ → Nat → Option σ) : σ → List Nat → Option σ
  | s, [] => some s
  | s, c :: l => (f s c).bind fun s' => run f s' l
theorem run_cons {σ : Type} {f : σ → Nat → Option σ} {s s' : σ} {c : Nat} {l : List Nat} (h : f s c = some s') : run f s (c :: l) = run f s' l := by
  show (f s c).bind _ = _
  rw [h]
  rfl
theorem run_step {σ : Type} {f : σ → Nat → Option σ} {s e : σ} {c : Nat} {l : List Nat} (h : run f s (c :: l) = some e) : ∃ s', f s c = some s' ∧ run f s' l = some e := by
  cases hs : f s c with
  | none =>
    have h' : (f s c).bind (fun s' => run f s' l) = some e := h
    rw [hs] at h'
    cases h'
  | some s' =>
    rw [run_cons hs] at h
    exact ⟨s', rfl, h⟩
theorem run_append {σ : Type} {f : σ → Nat → Option σ} {s s' : σ} {l m : List Nat} (h : run f s l = some s') : run f s (l ++ m) = run f s' m := by
  induction l generalizing s with
  | nil => cases h; rfl
  | cons c l ih =>
    obtain ⟨t, h1, h2⟩ := run_step h
    rw [List.cons_append, run_cons h1]
    exact ih h2
def Lt (c : Nat) : Prop := 97 ≤ c ∧ c ≤ 122
/-- a sequence, nested at most d deep -/
inductive Sq : Nat → List Nat → Prop
  | one {d c : Nat} (h : Lt c) : Sq d [c]
  | rep {d : Nat} {l : List Nat} (h : Sq d l) : Sq (d + 1) (40 :: (l ++ [41, 35]))
  | cat {d : Nat} {l m : List Nat} (h : Sq d l) (k : Sq d m) : Sq d (l ++ m)
theorem Sq.up {d : Nat} {l : List Nat} (h : Sq d l) : Sq (d + 1) l := by
  induction h with
  | one h => exact .one h
  | rep _ ih => exact .rep ih
  | cat _ _ a b => exact .cat a b
theorem Sq.mono {d e : Nat} {l : List Nat} (h : Sq d l) (k : d ≤ e) : Sq e l := by
  induction k with
  | refl => exact h
  | step _ ih => exact ih.up
theorem Sq.pos {d : Nat} {l : List Nat} (h : Sq d l) : 0 < l.length := by
  induction h with
  | one _ => exact Nat.one_pos
  | rep _ _ => simp
  | cat _ _ a b => rw [List.length_append]; omega
theorem Sq.signs {d : Nat} {l : List Nat} (h : Sq d l) : ∀ c, c ∈ l → Lt c ∨ c = 40 ∨ c = 41 ∨ c = 35 := by
  induction h with
  | one h => intro c hc; rw [List.mem_singleton.mp hc]; exact .inl h
  | rep _ ih =>
    intro c hc
    rcases List.mem_cons.mp hc with rfl | hc
    · exact .inr (.inl rfl)
    · rcases List.mem_append.mp hc with hc | hc
      · exact ih c hc
      · rcases List.mem_cons.mp hc with rfl | hc
        · exact .inr (.inr (.inl rfl))
        · exact .inr (.inr (.inr (List.mem_singleton.mp hc)))
  | cat _ _ a b =>
    intro c hc
    rcases List.mem_append.mp hc with hc | hc
    · exact a c hc
    · exact b c hc
/-! ### depths -/
structure Ds where
  dep : Nat
  most : Nat
  last : Nat
deriving DecidableEq
/-- one sign: the depth, the greatest depth, the last sign; none where the text is no pattern -/
def dst (s : Ds) (c : Nat) : Option Ds :=
  if c = 40 then (if s.last = 41 then none else some ⟨s.dep + 1, max s.most (s.dep + 1), 40⟩)
  else if c = 41 then (if s.last = 41 ∨ s.last = 40 ∨ s.dep = 0 then none else some ⟨s.dep - 1, s.most, 41⟩)
  else if c = 35 then (if s.last = 41 then some ⟨s.dep, s.most, 35⟩ else none)
  else if 97 ≤ c ∧ c ≤ 122 then (if s.last = 41 then none else some ⟨s.dep, s.most, c⟩) else none
theorem Sq.dep {d : Nat} {l : List Nat} (h : Sq d l) : ∃ x, x ≤ d ∧ ∀ s : Ds, s.last ≠ 41 → s.dep ≤ s.most → ∃ e, e ≠ 40 ∧ e ≠ 41 ∧ run dst s l = some ⟨s.dep, max s.most (s.dep + x), e⟩ := by
  induction h with
  | @one d c h =>
    refine ⟨0, Nat.zero_le _, fun s hs hm => ⟨c, by unfold Lt at h; omega, by unfold Lt at h; omega, ?_⟩⟩
    have e : dst s c = some ⟨s.dep, s.most, c⟩ := by
      unfold dst Lt at *
      rw [if_neg (by omega), if_neg (by omega), if_neg (by omega), if_pos h, if_neg hs]
    rw [run_cons e]
    show some _ = some _
    rw [Nat.add_zero, Nat.max_eq_left hm]
  | @rep d l h ih =>
    obtain ⟨x, hx, ih⟩ := ih
    refine ⟨x + 1, by omega, fun s hs hm => ⟨35, by decide, by decide, ?_⟩⟩
    have e1 : dst s 40 = some ⟨s.dep + 1, max s.most (s.dep + 1), 40⟩ := by
      unfold dst
      rw [if_pos rfl, if_neg hs]
    obtain ⟨e, he, he2, hr⟩ := ih ⟨s.dep + 1, max s.most (s.dep + 1), 40⟩ (show (40 : Nat) ≠ 41 by decide) (Nat.le_max_right _ _)
    rw [run_cons e1, run_append hr]
    have e2 : dst ⟨s.dep + 1, max (max s.most (s.dep + 1)) (s.dep + 1 + x), e⟩ 41 = some ⟨s.dep, max (max s.most (s.dep + 1)) (s.dep + 1 + x), 41⟩ := by
      unfold dst
      rw [if_neg (by decide), if_pos rfl, if_neg (by simp [he, he2])]
      rfl
    have e3 : dst ⟨s.dep, max (max s.most (s.dep + 1)) (s.dep + 1 + x), 41⟩ 35 = some ⟨s.dep, max (max s.most (s.dep + 1)) (s.dep + 1 + x), 35⟩ := by
      unfold dst
      rw [if_neg (by decide), if_neg (by decide), if_pos rfl, if_pos rfl]
    rw [run_cons e2, run_cons e3]
    show some _ = some _
    congr 2
    omega
  | @cat d l m h k a b =>
    obtain ⟨x, hx, a⟩ := a
    obtain ⟨y, hy, b⟩ := b
    refine ⟨max x y, Nat.max_le.mpr ⟨hx, hy⟩, fun s hs hm => ?_⟩
    obtain ⟨e, he, he2, hr⟩ := a s hs hm
    obtain ⟨e', he', he2', hr'⟩ := b ⟨s.dep, max s.most (s.dep + x), e⟩ he2 (Nat.le_trans hm (Nat.le_max_left _ _))
    refine ⟨e', he', he2', ?_⟩
    rw [run_append hr, hr']
    congr 2
    show max (max s.most (s.dep + x)) (s.dep + y) = _
    omega
/-! ### what the text is at a number -/
structure Fs where
  worth : Option (List Nat)
  wait : List (Option (List Nat))
deriving DecidableEq
def times (n : Nat) (l : List Nat) : List Nat := (List.replicate n l).flatten
def fst (n : Nat) (s : Fs) (c : Nat) : Option Fs :=
  if c = 40 then some ⟨none, s.wait ++ [s.worth]⟩
  else if c = 35 then (match s.worth, s.wait.getLast? with
    | some w, some v => if (v.getD [] ++ times n w).length ≤ 100000 then some ⟨some (v.getD [] ++ times n w), s.wait.dropLast⟩ else none
    | _, _ => none)
  else if c = 41 then some s
  else if (s.worth.getD [] ++ [c]).length ≤ 100000 then some ⟨some (s.worth.getD [] ++ [c]), s.wait⟩ else none
theorem times_len (n : Nat) (l : List Nat) : (times n l).length = n * l.length := by
  unfold times
  induction n with
  | zero => simp
  | succ n ih => rw [List.replicate_succ, List.flatten_cons, List.length_append, ih, Nat.succ_mul]; omega
theorem Sq.fold {d : Nat} {l : List Nat} (h : Sq d l) (n : Nat) (hn : 1 ≤ n) : ∃ x : List Nat, x.length ≤ l.length * n ^ d ∧ ∀ s : Fs, (s.worth.getD []).length + l.length * n ^ d ≤ 100000 → run (fst n) s l = some ⟨some (s.worth.getD [] ++ x), s.wait⟩ := by
  induction h with
  | @one d c h =>
    refine ⟨[c], ?_, fun s hb => ?_⟩
    · show 1 ≤ 1 * n ^ d
      rw [Nat.one_mul]
      exact Nat.one_le_pow _ _ hn
    · have e : fst n s c = some ⟨some (s.worth.getD [] ++ [c]), s.wait⟩ := by
        unfold fst Lt at *
        rw [if_neg (by omega), if_neg (by omega), if_neg (by omega), if_pos]
        rw [List.length_append]
        have : 1 ≤ n ^ d := Nat.one_le_pow _ _ hn
        have h2 : [c].length * n ^ d = n ^ d := Nat.one_mul _
        rw [h2] at hb
        show _ + 1 ≤ _
        omega
      rw [run_cons e]
      rfl
  | @rep d l h ih =>
    obtain ⟨x, hx, ih⟩ := ih
    refine ⟨times n x, ?_, fun s hb => ?_⟩
    · rw [times_len, List.length_cons, List.length_append, Nat.pow_succ]
      have h1 : n * x.length ≤ n * (l.length * n ^ d) := Nat.mul_le_mul_left n hx
      have h2 : n * (l.length * n ^ d) = l.length * (n ^ d * n) := by
        rw [Nat.mul_left_comm, Nat.mul_comm n]
      have h3 : l.length * (n ^ d * n) ≤ (l.length + [41, 35].length + 1) * (n ^ d * n) := Nat.mul_le_mul_right _ (by omega)
      omega
    · have e1 : fst n s 40 = some ⟨none, s.wait ++ [s.worth]⟩ := by
        unfold fst
        rw [if_pos rfl]
      have hb2 : l.length * n ^ d ≤ l.length * (n ^ d * n) := Nat.mul_le_mul_left _ (Nat.le_mul_of_pos_right _ hn)
      have hb3 : l.length * (n ^ d * n) ≤ (40 :: (l ++ [41, 35])).length * n ^ (d + 1) := by
        rw [Nat.pow_succ]
        exact Nat.mul_le_mul_right _ (by simp; omega)
      have hb4 : n * x.length ≤ l.length * (n ^ d * n) := by
        have h1 : n * x.length ≤ n * (l.length * n ^ d) := Nat.mul_le_mul_left n hx
        have h2 : n * (l.length * n ^ d) = l.length * (n ^ d * n) := by
          rw [Nat.mul_left_comm, Nat.mul_comm n]
        omega
      rw [run_cons e1, run_append (ih _ (by show 0 + _ ≤ _; omega))]
      have e2 : fst n ⟨some ((none : Option (List Nat)).getD [] ++ x), s.wait ++ [s.worth]⟩ 41 = some ⟨some ((none : Option (List Nat)).getD [] ++ x), s.wait ++ [s.worth]⟩ := by
        unfold fst
        rw [if_neg (by decide), if_neg (by decide), if_pos rfl]
      have e3 : fst n ⟨some ((none : Option (List Nat)).getD [] ++ x), s.wait ++ [s.worth]⟩ 35 = some ⟨some (s.worth.getD [] ++ times n x), s.wait⟩ := by
        unfold fst
        rw [if_neg (by decide), if_pos rfl]
        have hb5 : (s.worth.getD [] ++ times n x).length ≤ 100000 := by
          rw [List.length_append, times_len]
          omega
        simp only [List.getLast?_append, List.getLast?_singleton, Option.some_or, List.dropLast_concat, Option.getD_none, List.nil_append]
        rw [if_pos hb5]
      rw [run_cons e2, run_cons e3]
      rfl
  | @cat d l m h k a b =>
    obtain ⟨x, hx, a⟩ := a
    obtain ⟨y, hy, b⟩ := b
    refine ⟨x ++ y, ?_, fun s hb => ?_⟩
    · rw [List.length_append, List.length_append, Nat.add_mul]
      omega
    · rw [List.length_append, Nat.add_mul] at hb
      rw [run_append (a s (by omega)), b _ (by show (s.worth.getD [] ++ x).length + _ ≤ _; rw [List.length_append]; omega)]
      simp
/-! ### weights -/
structure Ws where
  found : Nat
  dep : Nat
def wst (s : Ws) (c : Nat) : Option Ws :=
  if c = 40 then (if s.dep < 30 then some ⟨s.found, s.dep + 1⟩ else none)
  else if c = 41 then (if s.dep = 0 then none else some ⟨s.found, s.dep - 1⟩)
  else if c = 35 then some s
  else some ⟨s.found + 2 ^ s.dep, s.dep⟩
theorem Sq.weight {d : Nat} {l : List Nat} (h : Sq d l) : ∀ s : Ws, s.dep + d ≤ 30 → ∃ x, x ≤ l.length * 2 ^ (s.dep + d) ∧ run wst s l = some ⟨s.found + x, s.dep⟩ := by
  induction h with
  | @one d c h =>
    intro s hs
    refine ⟨2 ^ s.dep, ?_, ?_⟩
    · show _ ≤ 1 * _
      rw [Nat.one_mul]
      exact Nat.pow_le_pow_right (by decide) (by omega)
    · have e : wst s c = some ⟨s.found + 2 ^ s.dep, s.dep⟩ := by
        unfold wst Lt at *
        rw [if_neg (by omega), if_neg (by omega), if_neg (by omega)]
      rw [run_cons e]
      rfl
  | @rep d l h ih =>
    intro s hs
    have e1 : wst s 40 = some ⟨s.found, s.dep + 1⟩ := by
      unfold wst
      rw [if_pos rfl, if_pos (by omega)]
    obtain ⟨x, hx, hr⟩ := ih ⟨s.found, s.dep + 1⟩ (by show s.dep + 1 + d ≤ 30; omega)
    refine ⟨x, ?_, ?_⟩
    · rw [List.length_cons, List.length_append]
      have h3 : l.length * 2 ^ (s.dep + 1 + d) ≤ (l.length + [41, 35].length + 1) * 2 ^ (s.dep + (d + 1)) := Nat.mul_le_mul (by omega) (Nat.pow_le_pow_right (by decide) (by omega))
      exact Nat.le_trans hx h3
    · rw [run_cons e1, run_append hr]
      have e2 : wst ⟨s.found + x, s.dep + 1⟩ 41 = some ⟨s.found + x, s.dep⟩ := by
        unfold wst
        rw [if_neg (by decide), if_pos rfl, if_neg (by simp)]
        rfl
      have e3 : wst ⟨s.found + x, s.dep⟩ 35 = some ⟨s.found + x, s.dep⟩ := by
        unfold wst
        rw [if_neg (by decide), if_neg (by decide), if_pos rfl]
      rw [run_cons e2, run_cons e3]
      rfl
  | @cat d l m h k a b =>
    intro s hs
    obtain ⟨x, hx, hr⟩ := a s hs
    obtain ⟨y, hy, hr'⟩ := b ⟨s.found + x, s.dep⟩ hs
    refine ⟨x + y, ?_, ?_⟩
    · rw [List.length_append, Nat.add_mul]
      have : y ≤ m.length * 2 ^ (s.dep + d) := hy
      omega
    · rw [run_append hr, hr']
      congr 2
      show s.found + x + y = _
      omega
/-! ### parts: cut is what stands between two places -/
structure Ps (α : Type) where
  found : List α
  beg : List Nat
  at_ : Nat
/-- one sign of the text -/
def pst {α : Type} (cut : Nat → Nat → α) (s : Ps α) (c : Nat) : Option (Ps α) :=
  if c = 40 then some ⟨s.found, s.beg ++ [s.at_ + 1], s.at_ + 1⟩
  else if c = 41 then (match s.beg.getLast? with
    | some b => some ⟨s.found ++ [cut b s.at_], s.beg.dropLast, s.at_ + 1⟩
    | none => none)
  else some ⟨s.found, s.beg, s.at_ + 1⟩
theorem Sq.parts {α : Type} {d : Nat} {l : List Nat} (h : Sq d l) (cut : Nat → Nat → α) : ∀ s : Ps α, ∃ fs : List α, fs.length ≤ l.length ∧ run (pst cut) s l = some ⟨s.found ++ fs, s.beg, s.at_ + l.length⟩ := by
  induction h with
  | @one d c h =>
    intro s
    refine ⟨[], Nat.zero_le _, ?_⟩
    have e : pst cut s c = some ⟨s.found, s.beg, s.at_ + 1⟩ := by
      unfold pst Lt at *
      rw [if_neg (by omega), if_neg (by omega)]
    rw [run_cons e, List.append_nil]
    rfl
  | @rep d l h ih =>
    intro s
    have e1 : pst cut s 40 = some ⟨s.found, s.beg ++ [s.at_ + 1], s.at_ + 1⟩ := by
      unfold pst
      rw [if_pos rfl]
    obtain ⟨fs, hf, hr⟩ := ih ⟨s.found, s.beg ++ [s.at_ + 1], s.at_ + 1⟩
    refine ⟨fs ++ [cut (s.at_ + 1) (s.at_ + 1 + l.length)], by simp; omega, ?_⟩
    rw [run_cons e1, run_append hr]
    have e2 : pst cut ⟨s.found ++ fs, s.beg ++ [s.at_ + 1], s.at_ + 1 + l.length⟩ 41 = some ⟨s.found ++ fs ++ [cut (s.at_ + 1) (s.at_ + 1 + l.length)], s.beg, s.at_ + 1 + l.length + 1⟩ := by
      unfold pst
      rw [if_neg (by decide), if_pos rfl]
      simp
    have e3 : pst cut ⟨s.found ++ fs ++ [cut (s.at_ + 1) (s.at_ + 1 + l.length)], s.beg, s.at_ + 1 + l.length + 1⟩ 35 = some ⟨s.found ++ fs ++ [cut (s.at_ + 1) (s.at_ + 1 + l.length)], s.beg, s.at_ + 1 + l.length + 1 + 1⟩ := by
      unfold pst
      rw [if_neg (by decide), if_neg (by decide)]
    rw [run_cons e2, run_cons e3]
    show some _ = some _
    rw [List.append_assoc, List.length_cons, List.length_append]
    congr 2
    show _ = s.at_ + (l.length + 2 + 1)
    omega
  | @cat d l m h k a b =>
    intro s
    obtain ⟨x, hx, hr⟩ := a s
    obtain ⟨y, hy, hr'⟩ := b ⟨s.found ++ x, s.beg, s.at_ + l.length⟩
    refine ⟨x ++ y, by rw [List.length_append, List.length_append]; omega, ?_⟩
    rw [run_append hr, hr', List.length_append, List.append_assoc]
    congr 2
    show s.at_ + l.length + m.length = _
    omega
/-! ### lengths at a number -/
structure Ls where
  worth : Option Nat
  wait : List (Option Nat)
deriving DecidableEq
def big : Nat := 2 ^ 9000
theorem small_big {x : Nat} (h : x ≤ 100000) : x < big :=
  Nat.lt_of_lt_of_le (Nat.lt_of_le_of_lt h (show 100000 < 2 ^ 17 by decide)) (Nat.pow_le_pow_right (by decide) (by decide))
def lst (n : Nat) (s : Ls) (c : Nat) : Option Ls :=
  if c = 40 then some ⟨none, s.wait ++ [s.worth]⟩
  else if c = 35 then (match s.worth, s.wait.getLast? with
    | some w, some v => if w < big then some ⟨some (v.getD 0 + w * n), s.wait.dropLast⟩ else none
    | _, _ => none)
  else if c = 41 then some s
  else some ⟨some (s.worth.getD 0 + 1), s.wait⟩
def toL (s : Fs) : Ls := ⟨s.worth.map List.length, s.wait.map (Option.map List.length)⟩
theorem lst_of {n c : Nat} {s s' : Fs} (hn : 1 ≤ n) (h : fst n s c = some s') : lst n (toL s) c = some (toL s') := by
  unfold fst at h
  unfold lst
  split at h
  · cases h
    rw [if_pos ‹_›]
    simp [toL]
  · rw [if_neg ‹_›]
    split at h
    · rw [if_pos ‹_›]
      obtain ⟨wo, wt⟩ := s
      cases wo with
      | none => cases h
      | some w =>
        dsimp only at h
        cases hl : wt.getLast? with
        | none => rw [hl] at h; cases h
        | some v =>
          rw [hl] at h
          dsimp only at h
          split at h
          rotate_left
          · cases h
          cases h
          have e : (toL ⟨some w, wt⟩).wait.getLast? = some (v.map List.length) := by
            show (wt.map (Option.map List.length)).getLast? = _
            rw [List.getLast?_map, hl]
            rfl
          have e1 : (toL ⟨some w, wt⟩).worth = some w.length := rfl
          have hw : w.length < big := by
            refine small_big ?_
            rename_i hle
            rw [List.length_append, times_len] at hle
            have : w.length ≤ n * w.length := Nat.le_mul_of_pos_left _ hn
            omega
          rw [e, e1]
          dsimp only
          rw [if_pos hw]
          show some _ = some _
          unfold toL
          congr 2
          · show some _ = some _
            rw [List.length_append, times_len, Nat.mul_comm]
            cases v <;> rfl
          · show (wt.map _).dropLast = _
            rw [List.map_dropLast]
    · rw [if_neg ‹_›]
      split at h
      · rw [if_pos ‹_›]
        cases h
        rfl
      · rw [if_neg ‹_›]
        split at h
        rotate_left
        · cases h
        cases h
        unfold toL
        congr 2
        show some _ = some _
        rw [List.length_append]
        cases s.worth <;> rfl
theorem run_lst {n : Nat} {l : List Nat} {s s' : Fs} (hn : 1 ≤ n) (h : run (fst n) s l = some s') : run (lst n) (toL s) l = some (toL s') := by
  induction l generalizing s with
  | nil => cases h; rfl
  | cons c l ih =>
    obtain ⟨t, h1, h2⟩ := run_step h
    rw [run_cons (lst_of hn h1)]
    exact ih h2
end PT

set_option Elab.async false
set_option linter.all false
set_option maxRecDepth 100000
set_option maxHeartbeats 2000000
/-! PTS: texts as lists of signs; loops over them. -/
namespace PT
open PySem PySem.Spec L2 LP
open PyProof.Rows hiding St signs
def tx (l : List Nat) : Str := ⟨l.toArray⟩
def sg (c : Nat) : Str := ⟨#[c]⟩
theorem len_tx (l : List Nat) : (tx l).length = l.length := by
  show (l.toArray).size = _
  simp
theorem signs_tx (l : List Nat) : LP.signs (tx l) = l.map fun c => V.str (sg c) := by
  unfold LP.signs tx
  simp [LP.sgn, sg]
theorem tx_append (l m : List Nat) : tx l ++ tx m = tx (l ++ m) := by
  show (⟨(tx l).cps ++ (tx m).cps⟩ : Str) = _
  unfold tx
  simp
theorem tx_inj {l m : List Nat} : tx l = tx m ↔ l = m := ⟨fun e => by
  have e2 : l.toArray = m.toArray := Str.mk.inj e
  simpa using e2, fun e => by rw [e]⟩
theorem repS_tx (l : List Nat) (n : Nat) : repS (tx l) ((n : Nat) : Int) = tx (times n l) := by
  have e := tl_rep (tx l) ((n : Nat) : Int)
  rw [Int.toNat_natCast, show TL.tl (tx l) = l from by show l.toArray.toList = l; simp] at e
  have e2 : (repS (tx l) ((n : Nat) : Int)).cps = (times n l).toArray := by
    rw [← Array.toList_inj]
    show TL.tl _ = _
    rw [e]
    rfl
  show (⟨(repS (tx l) ((n : Nat) : Int)).cps⟩ : Str) = _
  rw [e2]
  rfl
theorem log_lt {x k : Nat} (hk : 0 < k) (h : x < 2 ^ k) : x.log2 < k := by
  by_cases h0 : x = 0
  · subst h0
    exact hk
  · exact (Nat.log2_lt h0).mpr h
theorem mulW {m n : Nat} (hm : m < big) (hn : n < 10 ^ 60) : CMulW ((m : Nat) : Int) ((n : Nat) : Int) := by
  unfold CMulW
  rw [Int.natAbs_natCast, Int.natAbs_natCast]
  have h1 : m.log2 < 9000 := log_lt (by decide) hm
  have h2 : n.log2 < 200 := log_lt (by decide) (Nat.lt_trans hn (by decide))
  omega
theorem sg_tx (c : Nat) : sg c = tx [c] := rfl
theorem sg_inj {a b : Nat} : sg a = sg b ↔ a = b := by
  rw [sg_tx, sg_tx, tx_inj]
  simp
theorem open_sg : Str.ofString "(" = sg 40 := rfl
theorem shut_sg : Str.ofString ")" = sg 41 := rfl
theorem again_sg : Str.ofString "#" = sg 35 := rfl
theorem scal_bl (a b : Bool) : scal (.bl a) (.bl b) = true := rfl
theorem scal_int (a b : Int) : scal (.int a) (.int b) = true := rfl
theorem cast0 : ((0 : Nat) : Int) = 0 := rfl
theorem beq_sg (a b : Nat) : (sg a == sg b) = decide (a = b) := by
  by_cases h : a = b
  · subst h; simp
  · have : sg a ≠ sg b := fun e => h (sg_inj.mp e)
    simp [h, this]
theorem in3 (c : Nat) : inV (.str (sg c)) [.str (sg 40), .str (sg 41), .str (sg 35)] = decide (c = 40 ∨ c = 41 ∨ c = 35) := by
  show ((sg 40 == sg c) || ((sg 41 == sg c) || ((sg 35 == sg c) || false))) = _
  rw [beq_sg, beq_sg, beq_sg]
  by_cases h1 : c = 40
  · subst h1; rfl
  · by_cases h2 : c = 41
    · subst h2; rfl
    · by_cases h3 : c = 35
      · subst h3; rfl
      · simp [h1, h2, h3, Ne.symm h1, Ne.symm h2, Ne.symm h3]
theorem in2 (c : Nat) : inV (.str (sg c)) [.str (sg 40), .str (sg 41)] = decide (c = 40 ∨ c = 41) := by
  show ((sg 40 == sg c) || ((sg 41 == sg c) || false)) = _
  rw [beq_sg, beq_sg]
  by_cases h1 : c = 40
  · subst h1; rfl
  · by_cases h2 : c = 41
    · subst h2; rfl
    · simp [h1, h2, Ne.symm h1, Ne.symm h2]
theorem flat3 (a b c : Str) : [V.str a, .str b, .str c].all flatV = true := rfl
theorem flat2 (a b : Str) : [V.str a, .str b].all flatV = true := rfl
theorem flat_str (a : Str) : flatV (.str a) = true := rfl
theorem drop_cons {l : List Nat} {i : Nat} (h : i < l.length) : l.drop i = l[i] :: l.drop (i + 1) := by
  rw [List.drop_eq_getElem_cons h]
/-- a loop over the signs of a text: what is left -/
theorem loop_sfx {l : List Nat} {g : TG} {tb : TS} {D : Ends} {σ : St} {H : Hp} (Pv : List Nat → St → Hp → Prop) (h0 : Pv l σ H)
    (hs : ∀ (c : Nat) (r : List Nat) (σ : St) (H : Hp), (∃ m, l = m ++ c :: r) → Pv (c :: r) σ H → g (.str (sg c)) σ H fun σ2 H2 => Later tb { D with nx := Pv r, ct := Pv r, bk := D.nx } σ2 H2)
    (hd : ∀ σ H, Pv [] σ H → D.nx σ H) : Loop (Its (tx l)) g tb D σ H := by
  refine loop_it (walk_signs (tx l)) (fun i σ H => Pv (l.drop i) σ H) h0 (fun _ _ _ _ _ => trivial) (fun i x σ H H' hi hp y => ?_) (fun σ H hp => ?_)
  · obtain ⟨rfl, e⟩ := y
    rw [signs_tx, List.length_map] at hi
    rw [signs_tx, List.getElem?_map, List.getElem?_eq_getElem hi] at e
    cases e
    refine hs _ _ σ _ ⟨l.take i, ?_⟩ ?_
    · rw [← drop_cons hi, List.take_append_drop]
    · have := hp
      rw [drop_cons hi] at this
      exact this
  · rw [signs_tx, List.length_map, List.drop_length] at hp
    exact hd σ H hp
/-- the same, with the places -/
theorem loop_esfx {K : PySem.W.Frag} {l : List Nat} {g : TG} {tb : TS} {D : Ends} {σ : St} {H : Hp} (Pv : List Nat → St → Hp → Prop) (h0 : Pv l σ H)
    (hs : ∀ (m : List Nat) (c : Nat) (r : List Nat) (T : Addr) (σ : St) (H : Hp), l = m ++ c :: r → Pv (c :: r) σ H → H T = none → g (.ref T) σ (upd H T (.tup [.int ((m.length : Nat) : Int), .str (sg c)])) fun σ2 H2 => Later tb { D with nx := Pv r, ct := Pv r, bk := D.nx } σ2 H2)
    (hd : ∀ σ H, Pv [] σ H → D.nx σ H) : Loop (LZ.ItnE K (.str (tx l))) g tb D σ H := by
  refine loop_it (LZ.walk_enumN (xs := LP.signs (tx l))) (fun i σ H => Pv (l.drop i) σ H) h0 (fun _ _ _ _ _ => rfl) (fun i x σ H H' hi hp y => ?_) (fun σ H hp => ?_)
  · obtain ⟨T, a, b, rfl, hT, rfl, ea, eb⟩ := y
    rw [signs_tx, List.length_map] at hi
    dsimp only at eb
    rw [signs_tx, List.getElem?_map, List.getElem?_eq_getElem hi] at eb
    cases eb
    cases ea
    have el : (l.take i).length = i := by rw [List.length_take]; omega
    have := hs (l.take i) l[i] (l.drop (i + 1)) T σ H (by rw [← drop_cons hi, List.take_append_drop]) (by
      have := hp
      rw [drop_cons hi] at this
      exact this) hT
    rw [el] at this
    exact this
  · rw [signs_tx, List.length_map, List.drop_length] at hp
    exact hd σ H hp
/-- what the scans find -/
def depL (l : List Nat) : Option Nat := match run dst ⟨0, 0, 40⟩ l with
  | some ⟨0, x, e⟩ => if e = 40 ∨ e = 41 then none else some x
  | _ => none
def depV (l : List Nat) : V := match depL l with
  | some x => .int (x : Int)
  | none => .non
theorem depV_of {l : List Nat} {x y z : Nat} (h : run dst ⟨0, 0, 40⟩ l = some ⟨x, y, z⟩) : depV l = if x = 0 ∧ ¬(z = 40 ∨ z = 41) then .int (y : Int) else .non := by
  unfold depV depL
  rw [h]
  cases x with
  | succ x =>
    rw [if_neg (by omega)]
    rfl
  | zero =>
    by_cases hz : z = 40 ∨ z = 41
    · simp [hz]
    · simp [hz]
theorem depV_none {l : List Nat} (h : run dst ⟨0, 0, 40⟩ l = none) : depV l = .non := by
  unfold depV depL
  rw [h]
def cutT (l : List Nat) (b a : Nat) : Str := cutS (tx l) (some (b : Int)) (some (a : Int))
def parL (l : List Nat) : Option (List Str) := match run (pst (cutT l)) ⟨[], [], 0⟩ l with
  | some ⟨fs, _, _⟩ => some fs
  | none => none
def wtL (l : List Nat) : Option Nat := match run wst ⟨0, 0⟩ l with
  | some ⟨x, _⟩ => some x
  | none => none
def valL (n : Nat) (l : List Nat) : Option (List Nat) := match run (fst n) ⟨none, []⟩ l with
  | some ⟨some x, _⟩ => some x
  | _ => none
def lenL (n : Nat) (l : List Nat) : Option Nat := match run (lst n) ⟨none, []⟩ l with
  | some ⟨some x, _⟩ => some x
  | _ => none
theorem last_at {α : Type} {l : List α} {b : α} (h : l.getLast? = some b) : l[l.length - 1]? = some b := by
  rw [List.getLast?_eq_getElem?] at h
  exact h
theorem map_dropLast' {α β : Type} (f : α → β) (l : List α) : (l.map f).dropLast = l.dropLast.map f := by rw [List.map_dropLast]
theorem last_map {α β : Type} {f : α → β} {l : List α} {b : α} (h : l.getLast? = some b) : (l.map f)[(l.map f).length - 1]? = some (f b) := by
  rw [List.length_map, List.getElem?_map, last_at h]
  rfl
theorem last_len {α : Type} {l : List α} {b : α} (h : l.getLast? = some b) : l.dropLast.length + 1 = l.length := by
  cases l with
  | nil => cases h
  | cons a t => simp
theorem two_pow (k : Nat) : (2 : Int) * ((2 ^ k : Nat) : Int) = ((2 ^ (k + 1) : Nat) : Int) := by
  rw [Nat.pow_succ, Nat.mul_comm]
  rfl
theorem half_pow {k : Nat} (h : k ≠ 0) : ((2 ^ k : Nat) : Int) / 2 = ((2 ^ (k - 1) : Nat) : Int) := by
  obtain ⟨j, rfl⟩ : ∃ j, k = j + 1 := ⟨k - 1, by omega⟩
  rw [Nat.pow_succ, Nat.add_sub_cancel]
  omega
/-- the signs that are letters -/
def lets (l : List Nat) : List Nat := l.filter fun c => !decide (c = 40 ∨ c = 41 ∨ c = 35)
theorem Sq.lets {d : Nat} {l : List Nat} (h : Sq d l) : l.filter (fun c => decide (97 ≤ c ∧ c ≤ 122)) = lets l := by
  unfold PT.lets
  refine List.filter_congr fun c hc => ?_
  rw [← decide_not]
  refine decide_eq_decide.mpr ?_
  rcases h.signs c hc with h | h | h | h
  · unfold Lt at h
    omega
  · omega
  · omega
  · omega
theorem Sq.depL {d : Nat} {l : List Nat} (h : Sq d l) : ∃ x e, x ≤ d ∧ depL l = some x ∧ run dst ⟨0, 0, 40⟩ l = some ⟨0, x, e⟩ := by
  obtain ⟨x, hx, hr⟩ := h.dep
  obtain ⟨e, he, he2, hr⟩ := hr ⟨0, 0, 40⟩ (show (40 : Nat) ≠ 41 by decide) (Nat.le_refl 0)
  have e1 : run dst ⟨0, 0, 40⟩ l = some ⟨0, x, e⟩ := by
    rw [hr]
    congr 2
    show max 0 (0 + x) = x
    omega
  refine ⟨x, e, hx, ?_, e1⟩
  unfold PT.depL
  rw [e1]
  exact if_neg (by omega)
theorem Sq.parL {d : Nat} {l : List Nat} (h : Sq d l) : ∃ fs n, fs.length ≤ l.length ∧ parL l = some fs ∧ run (pst (cutT l)) ⟨[], [], 0⟩ l = some ⟨fs, [], n⟩ := by
  obtain ⟨fs, hf, hr⟩ := h.parts (cutT l) ⟨[], [], 0⟩
  refine ⟨fs, _, hf, ?_, hr⟩
  unfold PT.parL
  rw [hr]
  rfl
theorem Sq.wtL {d : Nat} {l : List Nat} (h : Sq d l) (hd : d ≤ 30) : ∃ x, x ≤ l.length * 2 ^ d ∧ wtL l = some x ∧ run wst ⟨0, 0⟩ l = some ⟨x, 0⟩ := by
  obtain ⟨x, hx, hr⟩ := h.weight ⟨0, 0⟩ (by show 0 + d ≤ 30; omega)
  have e : run wst ⟨0, 0⟩ l = some ⟨x, 0⟩ := by
    rw [hr]
    show some (Ws.mk (0 + x) 0) = _
    rw [Nat.zero_add]
  refine ⟨x, ?_, ?_, e⟩
  · rw [show (Ws.mk 0 0).dep + d = d from Nat.zero_add d] at hx
    exact hx
  unfold PT.wtL
  rw [e]
theorem Sq.valL {d : Nat} {l : List Nat} (h : Sq d l) (n : Nat) (hn : 1 ≤ n) (hb : l.length * n ^ d ≤ 100000) : ∃ x : List Nat, x.length ≤ l.length * n ^ d ∧ valL n l = some x ∧ run (fst n) ⟨none, []⟩ l = some ⟨some x, []⟩ ∧ lenL n l = some x.length ∧ run (lst n) ⟨none, []⟩ l = some ⟨some x.length, []⟩ := by
  obtain ⟨x, hx, hr⟩ := h.fold n hn
  have e : run (fst n) ⟨none, []⟩ l = some ⟨some x, []⟩ := by
    rw [hr _ (by show 0 + _ ≤ _; omega)]
    rfl
  have e2 : run (lst n) ⟨none, []⟩ l = some ⟨some x.length, []⟩ := run_lst hn e
  refine ⟨x, hx, ?_, e, ?_, e2⟩
  · unfold PT.valL
    rw [e]
  · unfold PT.lenL
    rw [e2]
theorem pst_all {α : Type} {R : α → Prop} {cut : Nat → Nat → α} (h : ∀ b a, R (cut b a)) : ∀ (l : List Nat) (s s' : Ps α), run (pst cut) s l = some s' → (∀ f, f ∈ s.found → R f) → ∀ f, f ∈ s'.found → R f
  | [], s, s', e, hf => by cases e; exact hf
  | c :: l, s, s', e, hf => by
    obtain ⟨t, h1, h2⟩ := run_step e
    refine pst_all h l t s' h2 ?_
    unfold pst at h1
    split at h1
    · cases h1; exact hf
    · split at h1
      · split at h1
        · cases h1
          intro f hm
          rcases List.mem_append.mp hm with hm | hm
          · exact hf f hm
          · rw [List.mem_singleton.mp hm]
            exact h _ _
        · cases h1
      · cases h1; exact hf
theorem ok_tx {l : List Nat} (h : ∀ c, c ∈ l → c < 1114112) : PyData.strOk (tx l) = true := by
  unfold PyData.strOk tx
  rw [List.all_toArray, List.all_eq_true]
  intro c hc
  exact decide_eq_true (h c hc)
theorem ok_cut {l : List Nat} (h : ∀ c, c ∈ l → c < 1114112) (b a : Nat) : PyData.strOk (cutT l b a) = true := by
  unfold cutT cutS
  refine ok_tx (l := List.take _ (List.drop _ _)) fun c hc => ?_
  have h1 := List.mem_of_mem_drop (List.mem_of_mem_take hc)
  exact h c (by
    have h2 : c ∈ l.toArray.toList := h1
    simpa using h2)
theorem Sq.small {d : Nat} {l : List Nat} (h : Sq d l) : ∀ c, c ∈ l → c < 1114112 := fun c hc => by
  rcases h.signs c hc with h | h | h | h
  · exact Nat.lt_of_le_of_lt h.2 (by decide)
  · omega
  · omega
  · omega
end PT

set_option Elab.async false
set_option linter.all false
set_option maxRecDepth 100000
set_option maxHeartbeats 2000000
/-! DT: == of data that are alike; sorted texts are one list. -/
namespace LP
open PySem PySem.Spec L2
open PyProof.Rows hiding St signs
theorem rising_pw : ∀ (p : Str) (l : List Str), risingS p l = true → (p :: l).Pairwise (fun a b => ¬ b.cps.toList < a.cps.toList)
  | p, [], _ => by simp
  | p, x :: l, h => by
    unfold risingS at h
    rw [Bool.and_eq_true, Bool.not_eq_true', ltCps_eq, decide_eq_false_iff_not] at h
    have ih := rising_pw x l h.2
    refine List.pairwise_cons.mpr ⟨fun y hy => ?_, ih⟩
    rcases List.mem_cons.mp hy with rfl | hy
    · exact h.1
    · have h2 := (List.pairwise_cons.mp ih).1 y hy
      intro z
      have hx : x.cps.toList ≤ y.cps.toList := List.not_lt.mp h2
      have hp : p.cps.toList ≤ x.cps.toList := List.not_lt.mp h.1
      exact absurd z (List.not_lt.mpr (List.le_trans hp hx))
theorem sorted_pw {l : List Str} (h : sortedS l = true) : l.Pairwise (fun a b => ¬ b.cps.toList < a.cps.toList) := by
  cases l with
  | nil => exact .nil
  | cons x r => exact rising_pw x r h
theorem key_inj {a b : Str} (h : a.cps.toList = b.cps.toList) : a = b := by
  have : a.cps = b.cps := Array.toList_inj.mp h
  cases a
  cases b
  cases this
  rfl
theorem pw_unique : ∀ (ys zs : List Str), ys.Pairwise (fun a b => ¬ b.cps.toList < a.cps.toList) → zs.Pairwise (fun a b => ¬ b.cps.toList < a.cps.toList) → ys.Nodup → zs.Nodup → (∀ k, k ∈ ys ↔ k ∈ zs) → ys = zs
  | [], zs, _, _, _, _, m => by
    cases zs with
    | nil => rfl
    | cons b t => exact absurd ((m b).mpr (List.mem_cons_self ..)) (List.not_mem_nil)
  | a :: r, zs, py, pz, ny, nz, m => by
    cases zs with
    | nil => exact absurd ((m a).mp (List.mem_cons_self ..)) (List.not_mem_nil)
    | cons b t =>
      have py' := List.pairwise_cons.mp py
      have pz' := List.pairwise_cons.mp pz
      have ny' := List.nodup_cons.mp ny
      have nz' := List.nodup_cons.mp nz
      have e : a = b := by
        rcases List.mem_cons.mp ((m a).mp (List.mem_cons_self ..)) with e | ha
        · exact e
        · rcases List.mem_cons.mp ((m b).mpr (List.mem_cons_self ..)) with e | hb
          · exact e.symm
          · have h1 := List.not_lt.mp (pz'.1 a ha)
            have h2 := List.not_lt.mp (py'.1 b hb)
            exact key_inj (List.le_antisymm h2 h1)
      subst e
      rw [pw_unique r t py'.2 pz'.2 ny'.2 nz'.2 fun k => ⟨fun hk => ?_, fun hk => ?_⟩]
      · rcases List.mem_cons.mp ((m k).mp (List.mem_cons_of_mem _ hk)) with e | h
        · subst e
          exact absurd hk ny'.1
        · exact h
      · rcases List.mem_cons.mp ((m k).mpr (List.mem_cons_of_mem _ hk)) with e | h
        · subst e
          exact absurd hk nz'.1
        · exact h
/-- what is sorted out of the same members is the same list -/
theorem Sorted.uniq {ys zs xs xs' : List Str} (h : Sorted ys xs) (h' : Sorted zs xs') (e : ∀ k, k ∈ xs ↔ k ∈ xs') : ys = zs :=
  pw_unique ys zs (sorted_pw h.up) (sorted_pw h'.up) h.nd h'.nd fun k => (h.mem k).trans ((e k).trans (h'.mem k).symm)
/-- promises of one def, put together -/
theorem fnOk_ex {P : Program} {w : World} {K : PySem.W.Frag} {mg : Str → Option Value} {base : Heap} {CX : CXT} {k : Nat} {f : Addr} {fd : FuncData} {ps : List Str} {ι : Type} {sp : ι → Sp} (F : ∀ i, FnOk P w K mg base CX k f fd ps (sp i)) :
    FnOk P w K mg base CX k f fd ps (fun vs H Q E => ∃ i, sp i vs H Q E) :=
  ⟨fun vs H Q E ⟨i, q⟩ => (F i).len vs H Q E q, fun A outer s H args us vs Q E hr he hb hv ⟨i, hs⟩ => (F i).run A outer s H args us vs Q E hr he hb hv hs⟩
/-! ### data -/
theorem dps {K : PySem.W.Frag} {H : Hp} : ∀ l : List Str, DpAll K H (l.map .str) (l.map .str)
  | [] => .nil
  | x :: l => .cons (.str x) (dps l)
theorem lays : ∀ l : List Str, (∀ x, x ∈ l → PyData.strOk x = true) → PyData.canLayAll0 (l.map .str) = true
  | [], _ => rfl
  | x :: l, h => by
    rw [List.map_cons, PyData.canLayAll0, lays l (fun y hy => h y (List.mem_cons_of_mem _ hy))]
    rw [show PyData.canLay0 (.str x) = PyData.strOk x from rfl, h x (List.mem_cons_self ..)]
    rfl
theorem deps : ∀ l : List Str, PyData.depthAll (l.map .str) = 0
  | [] => rfl
  | x :: l => by
    rw [List.map_cons, PyData.depthAll, PyData.depth, deps l]
    rfl
/-- two values that are the same data -/
theorem eq_same {K : PySem.W.Frag} {H : Hp} {x y : V} {d : PyData} {Q : VK} (hx : Dp K H x d) (hy : Dp K H y d) (hs : SeqAt.shaped d = true) (q : Q (.bl true) H) : rEqD K x y H Q := by
  refine ⟨d, d, hx, hy, hs, hs, ?_⟩
  have h : d.canLay0 = true := by
    unfold SeqAt.shaped at hs
    rw [Bool.and_eq_true] at hs
    exact hs.1
  rw [SeqAt.eqv_refl d h]
  exact q
theorem ne_same {K : PySem.W.Frag} {H : Hp} {x y : V} {d : PyData} {Q : VK} (hx : Dp K H x d) (hy : Dp K H y d) (hs : SeqAt.shaped d = true) (q : Q (.bl false) H) : rNeD K x y H Q := by
  refine ⟨d, d, hx, hy, hs, hs, ?_⟩
  have h : d.canLay0 = true := by
    unfold SeqAt.shaped at hs
    rw [Bool.and_eq_true] at hs
    exact hs.1
  rw [SeqAt.eqv_refl d h]
  exact q
theorem seqIx {r : Int} {n : Nat} (h0 : 0 ≤ r) (h1 : r < (n : Int)) : seqIndex? r n = some r.toNat := by
  unfold seqIndex?
  have h2 : ¬ r < 0 := by omega
  simp [h0, h1, h2]
theorem erase_map {α β : Type} (f : α → β) : ∀ (l : List α) (k : Nat), (l.map f).eraseIdx k = (l.eraseIdx k).map f
  | [], _ => rfl
  | x :: l, 0 => rfl
  | x :: l, k + 1 => by
    show f x :: (l.map f).eraseIdx k = _
    rw [erase_map f l k]
    rfl
/-! ### the dice change, what else is there stays -/
def Dk (d : Addr) (H H' : Hp) : Prop := (∀ b o, b ≠ d → H b = some o → H' b = some o) ∧ ∃ x y z : Int, H' d = some (.lst [.int x, .int y, .int z])
theorem Dk.refl {d : Addr} {H : Hp} {x y z : Int} (h : H d = some (.lst [.int x, .int y, .int z])) : Dk d H H := ⟨fun _ _ _ e => e, x, y, z, h⟩
theorem Dk.trans {d : Addr} {A B C : Hp} (h : Dk d A B) (k : Dk d B C) : Dk d A C := ⟨fun b o hb e => k.1 b o hb (h.1 b o hb e), k.2⟩
theorem Dk.same {d : Addr} {A B C : Hp} (h : Dk d A B) (k : Same B C) : Dk d A C := ⟨fun b o hb e => k _ _ (h.1 b o hb e), let ⟨x, y, z, q⟩ := h.2; ⟨x, y, z, k _ _ q⟩⟩
theorem Dk.of {d : Addr} {A B : Hp} {x y z : Int} (h : A d = some (.lst [.int x, .int y, .int z])) (k : Same A B) : Dk d A B := ⟨fun b o _ e => k _ _ e, x, y, z, k _ _ h⟩
theorem Dk.roll {d : Addr} {A : Hp} (x y z : Int) : Dk d A (upd A d (.lst [.int x, .int y, .int z])) := ⟨fun b o hb e => by rw [upd_ne hb]; exact e, x, y, z, upd_same⟩
/-- an object that was not there may change -/
theorem Dk.lay {d : Addr} {H H' : Hp} (k : Dk d H H') {p : Addr} {o : HO} (hp : H p = none) (hd : p ≠ d) : Dk d H (upd H' p o) := by
  obtain ⟨k1, x, y, z, k2⟩ := k
  refine ⟨fun b u hb e => ?_, x, y, z, ?_⟩
  · rw [upd_ne (ne_of_none e hp)]
    exact k1 b u hb e
  · rw [upd_ne hd.symm]
    exact k2
theorem Dk.ne {d : Addr} {H : Hp} {x y z : Int} (h : H d = some (.lst [.int x, .int y, .int z])) {p : Addr} (hp : H p = none) : p ≠ d := by
  intro e
  rw [e, h] at hp
  cases hp
theorem Dk.none {d : Addr} {H H' : Hp} (k : Dk d H H') {p : Addr} (hd : p ≠ d) (h : H' p = Option.none) : H p = Option.none := by
  cases e : H p with
  | none => rfl
  | some o =>
    rw [k.1 p o hd e] at h
    cases h
end LP

set_option Elab.async false
set_option linter.all false
set_option maxRecDepth 100000
set_option maxHeartbeats 4000000
/-! LPU: a lambda handed to a def that gives its answer, or a field of what it catches. -/
namespace LP
open PySem PySem.Spec L2 SlX
open PyProof.Rows hiding St
section
open LamX
variable {X : Cx}
theorem takes_len {X : Cx} {W : WX} (t : Takes X W) : Takes X (fun cls d σ H => σ.length = X.N.length → W cls d σ H) := fun u s' ⟨a, B, sI, pins, σ, H, cls, d, e, I, nb, up, sky, na, os, ag, w⟩ =>
  t u s' ⟨a, B, sI, pins, σ, H, cls, d, e, I, nb, up, sky, na, os, ag, w I.len⟩
/-- try: return a() / except x as n: return [n.f] -/
def TTc (K : PySem.W.Frag) (CS : Addr) (ef : Str) : (XK → Hp → VK → Prop) → Hp → VK → Prop := fun tl H Q =>
  tl (fun cls d H' => PySem.W.exmOne K cls (.ref CS) = some true ∧ cls = .ref CS ∧ ∃ (dd : Addr) (v : V), d = some dd ∧ H' dd = some (.xd [(ef, v)]) ∧ ∀ p, H' p = none → Q (.ref p) (upd H' p (.lst [v]))) H (fun v H' => Q v H')
theorem caught_gives {Ng : List Str} {x a e n ef q : Str} {sg : Scope} {g CS : Addr} {cdg : Value} {p1 p2 p3 p4 p5 p6 p7 p8 p9 p10 : Pos} (hge : sg.names.lookup e = some .globalImplicit) (hme : X.mg e = some (.ref CS)) (hde : (e == ("__debug__" : Str)) = false) (h0 : ∀ f : Addr, (L2.start Ng [V.ref f])[0]? = some (some (V.ref f)))
    (hN : Ng.Nodup) (hi : Ng[1]? = some n) (hn : sg.names.lookup n = some .local) (xf : XfC X.K CS) (no : PySem.W.findIn X.K (.ref CS) ef = some none) (hl : Ng.length = 2) (hdn : (n == ("__debug__" : Str)) = false) (hcn : (n == ("__classdict__" : Str)) = false) :
    GivesTo X Ng x sg g cdg [.Try [.Return (some (.Call (.Name a p1) [] [] p2)) p3] [.ExceptHandler (some (.Name e p4)) (some n) [.Return (some (.List [.Attribute (.Name n p5) ef p6] p7)) p8] p9] [] [] p10] a q (TTc X.K CS ef) := by
  intro f c' s H Q tl act hc h
  have hgl : Gl (cxOf C8.CX0 X.prog X.w X.K X.mg X.base Ng x sg g cdg X.A X.stack s H C8.E0).nox e := hge
  refine ⟨_, pss_one (ps_try_as (X := (cxOf C8.CX0 X.prog X.w X.K X.mg X.base Ng x sg g cdg X.A X.stack s H C8.E0).nox) (c := .ref CS) (i := 1)
      (tb := fun W D σ H => ∃ Ech : XK, (∀ cls d σ' H', Ech cls d H' → σ'.length = Ng.length → W cls d σ' H') ∧ σ[0]? = some (some (.ref f)) ∧ H c' = some (CodeO c' q) ∧ tl Ech H fun v H' => D.rt v H')
      rfl rfl hN hi hn ⟨hgl, hde, .inl hme⟩ LamX.takes0 (fun W pn xe tk _ => ?_) (fun a oe cls d pn hz hf => pss_one (ps_ret (pe_lst (pa_cons (pe_xf (C := CS) xf no hz hf (pe_var (i := 1) hi (.inl hn) hdn hcn)) pa_nil))))), ?_⟩
  · refine ⟨fun pins s' σ H' D I h' => ?_⟩
    obtain ⟨Ech, hW, h1, h2, h3⟩ := h'
    have hp := act _ pn xe Ech p1 p2 (takes_len tk) hW
    have hq := pss_one (ps_ret (pos := p3) hp)
    exact hq.run pins s' σ H' D I ⟨h1, h2, h3⟩
  · refine ⟨fun cls d H' => PySem.W.exmOne X.K cls (.ref CS) = some true ∧ cls = .ref CS ∧ ∃ (dd : Addr) (v : V), d = some dd ∧ H' dd = some (.xd [(ef, v)]) ∧ ∀ p, H' p = none → Q (.ref p) (upd H' p (.lst [v])), fun cls d σ' H' z hs => ?_, h0 f, hc, h⟩
    obtain ⟨e1, rfl, dd, v, rfl, hd, hq⟩ := z
    refine ⟨true, e1, fun _ a ha => ?_, fun hb => by cases hb⟩
    have hx : (σ'.set 1 (some (V.ref a)))[1]? = some (some (V.ref a)) := by
      rw [List.getElem?_set_self (by omega)]
    exact ⟨_, hx, rfl, rfl, dd, _, v, rfl, hd, by rw [List.lookup_cons_self], Nat.le_of_ble_eq_true rfl, hq⟩
theorem TTc_eq {K : PySem.W.Frag} {CS : Addr} {ef : Str} {tl : XK → Hp → VK → Prop} {H : Hp} {Q : VK} : TTc K CS ef tl H Q = tl (fun cls d H' => PySem.W.exmOne K cls (.ref CS) = some true ∧ cls = .ref CS ∧ ∃ (dd : Addr) (v : V), d = some dd ∧ H' dd = some (.xd [(ef, v)]) ∧ ∀ p, H' p = none → Q (.ref p) (upd H' p (.lst [v]))) H (fun v H' => Q v H') := rfl
/-- x(lambda: body), x a def of this form -/
theorem pe_lc {K : PySem.W.Frag} {T : List (Addr × Str)} {x a e n ef : Str} {g c P CS : Addr} {fd : FuncData} {st : Stmt} {Ng : List Str} {params : Arguments} {body : Expr} {scope : Scope} {t : XK → TE} {p lpos pos : Pos} {p1 p2 p3 p4 p5 p6 p7 p8 p9 p10 : Pos} (k : Nat) (hK : X.K = K)
    (D : Df X.K X.mg x st [a] g fd) (Sg : FnScope Ng [a] (defScope st)) (hNg : Ng[0]? = some a) (hva : Vis (defScope st) a)
    (hbg : defBody st = [.Try [.Return (some (.Call (.Name a p1) [] [] p2)) p3] [.ExceptHandler (some (.Name e p4)) (some n) [.Return (some (.List [.Attribute (.Name n p5) ef p6] p7)) p8] p9] [] [] p10])
    (hge : (defScope st).names.lookup e = some .globalImplicit) (hme : X.mg e = some (.ref CS)) (hde : (e == ("__debug__" : Str)) = false) (h0 : ∀ f : Addr, (L2.start Ng [V.ref f])[0]? = some (some (V.ref f)))
    (hi : Ng[1]? = some n) (hn : (defScope st).names.lookup n = some .local) (xf : XfC X.K CS) (no : PySem.W.findIn X.K (.ref CS) ef = some none) (hl : Ng.length = 2) (hdn : (n == ("__debug__" : Str)) = false) (hcn : (n == ("__classdict__" : Str)) = false)
    (hg : Gl X x) (TB : TabB X.base X.mg c P) (hcode : X.env.code = .ref c) (hmT : (P, X.env.qual ++ "<lambda>") ∈ T) (hu : ∀ p ∈ T, p.1 = P → p.2 = X.env.qual ++ "<lambda>") (hr : Room (k + 2) X.A) (L : LamS X.env.scope scope) (hdef : defaultsOf params X.env = ([], []))
    (hbind : ∀ (q : Str) (cl : List (Str × Addr)) (pm cv ctv : Value), bindArgs (PySem.W.kla_fn "<lambda>" q params body scope cl pm cv ctv) ⟨[], []⟩ = pure [])
    (hbody : ∀ (A : Around) (outer : List Env) (s : Shared) (H : Hp) (E : XK) (f c' : Addr), Room k (A.deeper (lamEnv X scope s.heap.objs.size f c')) → PE (lamCx X A outer s H E scope f c') body (t E))
    (hdb : (x == ("__debug__" : Str)) = false := by decide) (hd : (a == ("__debug__" : Str)) = false := by decide) (hcd : (a == ("__classdict__" : Str)) = false := by decide) :
    PE X (.Call (.Name x p) [.Lambda params body scope lpos] [] pos) (tLam T (TTc K CS ef) t) := by
  subst hK
  obtain ⟨oc, od, kV, doc, pm, an, cdv, ct, osl, rfl, lk, hcg⟩ := D.F.ex
  refine pe_lamcall hg D.g D.F.kp lk hcg D.b Sg hNg hva ?_ TB hcode hmT hu hr L hdef hbind hbody hdb hd hcd
  rw [hbg]
  exact caught_gives hge hme hde h0 Sg.nd hi hn xf no hl hdn hcn
end
end LP

set_option Elab.async false
set_option linter.all false
set_option maxRecDepth 100000
set_option maxHeartbeats 4000000
/-! LPJ: sorted(set) of tuples of ints of any sign. -/
namespace LPJ
open PySem PySem.Spec PyProof.Rows L2
theorem items_some {ns : List Int} {vs : List Value} (h : IntsAre vs ns) : ∀ i, PyProof.Rows.tupItems (fun _ => false) i vs = some (ns.map Sum.inl) := by
  induction h with
  | nil => intro i; rfl
  | cons n t h ih =>
    intro i
    simp [PyProof.Rows.tupItems, ih]
/-- a tuple of ints in a heap -/
theorem tup_of {h : Heap} {v : Value} {ns : List Int} (x : TS.TupInts h v ns) (hn : ns ≠ []) : (∃ f, TupOf h (fun _ => false) v f) ∧ ∃ l, G.tupKeyC h (fun _ => false) v = some l := by
  obtain ⟨a, xs, rfl, ⟨o, ho, hc, n, hd⟩, i⟩ := x
  constructor
  · cases ns with
    | nil => exact absurd rfl hn
    | cons k ns =>
      have i2 := i
      generalize hx : xs.toList = us at i2
      cases i2 with
      | cons _ t r =>
        refine ⟨.int k t, a, o, xs, n, rfl, ho, hc, hd, ?_, fun _ => ⟨k, t, rfl⟩, fun e => by cases e⟩
        rw [← Array.getElem?_toList, hx]
        rfl
  · refine ⟨ns.map Sum.inl, ?_⟩
    unfold G.tupKeyC
    rw [if_pos (by simp [G.isTupObj, ho, hc])]
    simp only [PyProof.Rows.tupKey, ho, hd]
    exact items_some i 0
theorem tups_of {h : Heap} : ∀ {vs : List Value}, (∀ v ∈ vs, ∃ f, TupOf h (fun _ => false) v f) → ∃ fs, TupsOf h (fun _ => false) vs fs
  | [], _ => ⟨[], .nil⟩
  | v :: vs, hv => by
    obtain ⟨f, hf⟩ := hv v List.mem_cons_self
    obtain ⟨fs, hfs⟩ := tups_of (vs := vs) fun u hu => hv u (List.mem_cons_of_mem _ hu)
    exact ⟨f :: fs, .cons hf hfs⟩
theorem refs_in {L : List (Addr × List Int)} : ∀ vs : List Value, (∀ v ∈ vs, v ∈ L.map fun q => Value.ref q.1) → ∃ L1 : List (Addr × List Int), vs = L1.map (fun q => Value.ref q.1) ∧ ∀ q ∈ L1, q ∈ L
  | [], _ => ⟨[], rfl, fun q h => by cases h⟩
  | v :: vs, h => by
    obtain ⟨q, hq, e⟩ := List.mem_map.mp (h v List.mem_cons_self)
    obtain ⟨L1, e1, h1⟩ := refs_in vs fun u hu => h u (List.mem_cons_of_mem _ hu)
    exact ⟨q :: L1, by rw [List.map_cons, e, e1], fun r hr => (List.mem_cons.mp hr).elim (fun z => by rw [z]; exact hq) (h1 r)⟩
section
variable {P : Program} {w : World} {A : Around} {E : Value → Shared → Prop} {s : Shared}
theorem sorted_any {a : Addr} {L : List (Addr × List Int)} {es : Array (Int × Value)} {ep : Nat} {t : SetTable} {Q : Value → Shared → Prop} (R : SetTR P w s.heap a L es ep t) (hh : A.handled = none) (hn : ∀ p ∈ L, p.2 ≠ [])
    (hQ : ∀ s' p (out : Array Value) (c : Nat) (L' : List (Addr × List Int)), (∀ b o, s.heap.get? b = some o → s'.heap.get? b = some o) → s'.gens = s.gens → s'.os = s.os → s.heap.objs.size ≤ p →
      s'.heap.get? p = some (seqObj "list" out c) → out.toList = L'.map (fun q => Value.ref q.1) → (∀ q ∈ L', q ∈ L) → L'.length = L.length → Q (.ref p) s') :
    wpAny (model P w) A (call (.builtin "sorted") [.ref a]) Q E s := by
  obtain ⟨o, ho, hex, hd⟩ := R.ob
  have hfew := R.few
  have hsz := R.size
  refine Calls.call_function_entry kind_sorted plain_sorted entry_sorted (args_sorted1 _) ?_
  unfold Builtin.«sorted»
  refine wpAny_bind (m := checkCount "sorted" 1 1 _) (wpAny_pure ?_)
  refine wpAny_bind (collect_set (A := A.in1) hh ⟨o, ho, hex.1, hd⟩ R.fits (by unfold scanBound; omega) R.tab.ris R.led fun s1 vs k1 hz g1 o1 pm => ?_)
  have hes : es.toList.map (·.2) = L.map fun q => Value.ref q.1 := by
    rw [R.rows]
    unfold rowsOf
    rw [List.map_map]
    rfl
  rw [hes] at pm
  have hvl : vs.length = L.length := by rw [pm.length_eq, List.length_map]
  refine wpAny_bind (wpAny_newList ?_ (by rw [sizeLine_eq]; omega))
  have hoL : (s1.heap.push (seqObj "list" vs.toArray 0)).get? s1.heap.objs.size = some (seqObj "list" vs.toArray 0) := Heap.get?_push_size _ rfl
  have x : ∀ v ∈ vs, ∃ ns, TS.TupInts (s1.heap.push (seqObj "list" vs.toArray 0)) v ns ∧ ns ≠ [] := fun v hv => by
    obtain ⟨q, hq, e⟩ := List.mem_map.mp (pm.mem_iff.mp hv)
    rw [← e]
    exact ⟨q.2, tupInts_of (P := P) (w := w) (isT_keep (R.tup q hq) fun b u e => Heap.get?_push_of_some _ (k1 b u e)), hn q hq⟩
  obtain ⟨fs, hfs⟩ := tups_of fun v hv => by
    obtain ⟨ns, h1, h2⟩ := x v hv
    exact (tup_of h1 h2).1
  refine wpAny_bind (wpAny_holding (wpAny_call_entry slot_list_sort ⟨_, hoL, rfl⟩ entry_list_sort (G.list_sort_tups (s := { s1 with heap := s1.heap.push (seqObj "list" vs.toArray 0) }) hoL hfs (fun v hv => by
    obtain ⟨ns, h1, h2⟩ := x v hv
    exact (tup_of h1 h2).2) (by rw [sizeLine_eq]; omega) fun st a1 _ _ => ⟨_, rfl, ?_⟩) (args_list_sort _)))
  generalize hout : (arrOf st).map (·.2) = out
  have po : out.toList.Perm vs := by
    have z := (Array.perm_iff_toList_perm.mp a1).map Prod.snd
    rw [pairsOf_toList, List.map_snd_zip (Nat.le_refl _)] at z
    rw [← hout, Array.toList_map]
    exact z
  obtain ⟨c, hc⟩ := sortedHeap_at (vs := vs) (out := out) hoL
  obtain ⟨L', e', hs'⟩ := refs_in (L := L) out.toList fun v hv => pm.mem_iff.mp (po.mem_iff.mp hv)
  refine wpAny_pure ⟨_, rfl, hQ _ s1.heap.objs.size out c L' (fun b u e => ?_) g1 o1 hz hc e' hs' ?_⟩
  · have q := k1 b u e
    have hlt := Heap.lt_size q
    show (sortedHeap (s1.heap.push (seqObj "list" vs.toArray 0)) s1.heap.objs.size vs out).get? b = some u
    rw [sortedHeap_old (Nat.ne_of_lt hlt) (by rw [size_push']; exact Nat.lt_succ_of_lt hlt)]
    exact Heap.get?_push_of_some _ q
  · have := po.length_eq
    rw [e', List.length_map] at this
    omega
end
/-- sorted(set), tuples of ints: a list of them all -/
def rSortedZ (K : PySem.W.Frag) (P : Program) (w : World) : List V → Hp → VK → Prop := fun vs H Q => ∃ (a : Addr) (L : List (Addr × List Int)), vs = [V.ref a] ∧ H a = some (SetTO P w a L) ∧ (∀ p ∈ L, SqT K H p.1 (p.2.map V.int)) ∧ (∀ p ∈ L, p.2 ≠ []) ∧
  ∀ _ : (L.map (·.2)).Nodup, ∀ (L' : List (Addr × List Int)) (p : Addr), (∀ q ∈ L', q ∈ L) → L'.length = L.length → L'.length < 64 → H p = none → Q (.ref p) (upd H p (.lst (L'.map fun q => V.ref q.1)))
section
variable {X : Cx}
theorem cr_sortedZ {K : PySem.W.Frag} {P : Program} {w : World} (hK : X.K = K) (hP : X.prog = P) (hw : X.w = w) (hc : X.calm = true) : CallR X (.builtin "sorted") (rSortedZ K P w) := by
  subst hK hP hw
  intro pins s σ H vs us Q I r h
  obtain ⟨a, L, rfl, ha, hk, hn, q⟩ := h
  have R0 : SetT0 X.prog X.w s.heap a L := (I.hok a _ ha).1
  obtain ⟨es, ep, t, R⟩ := R0.full fun p hp => I.isT (hk p hp)
  rw [Vals.ref1 r]
  refine sorted_any R (I.ok.hd hc) hn fun s' p out c L' k g o hp hg hout hs hl => ?_
  have hfew : L'.length < 64 := by
    have := R.few
    omega
  have hlen : (L'.map fun q => V.ref q.1).length ≤ sizeLine := by rw [List.length_map, sizeLine_eq]; omega
  have hn : H p = none := I.hok.fresh hp
  have hv : Vals (L'.map fun q => V.ref q.1) out.toList := by rw [hout]; exact vals_of_refs L'
  have J : Inv X pins σ (upd H p (.lst (L'.map fun q => V.ref q.1))) { s with heap := s'.heap, gens := s'.gens, drawn := s'.drawn, toks := s'.toks } :=
    I.call (ch := []) (Un.laid k hp hn) (I.hok.laid k hp ⟨hlen, out.toList, c, hv, hg⟩) (by rw [g]; exact I.bare) (fun _ z => nomatch z)
  have e : s' = { s with heap := s'.heap, gens := s'.gens, drawn := s'.drawn, toks := s'.toks } := by
    cases s'
    cases s
    cases o
    rfl
  rw [e]
  exact ⟨.ref p, _, J, rfl, q R.nd L' p hs hl hfew hn⟩
theorem cr_setZ {K : PySem.W.Frag} {P : Program} {w : World} (hK : X.K = K) (hP : X.prog = P) (hw : X.w = w) (hc : X.calm = true) (hu : X.A.units + 64 < cLine) : CallR X (.type "set") (rSetOfT K P w) := by
  subst hK hP hw
  exact cr_setOfT hc hu
end
end LPJ

set_option Elab.async false
set_option linter.all false
set_option maxRecDepth 100000
set_option maxHeartbeats 4000000
/-! LPK: max and min of a tuple of ints. -/
namespace LPK
open PySem PySem.Spec PyProof.Rows L2
section
variable {prog : Program} {w : World} {A : Around} {E : Value → Shared → Prop} {s : Shared} {l : Addr} {xs : Array (Int × Tok)}
theorem max_tup0 {Q : Value → Shared → Prop} (hh : A.handled = none) (hl : s.heap.IsTuple l (intItems xs)) (hne : 0 < xs.size)
    (h : ∀ v h' tk, (intItems xs)[argBest (fun i j => decide (numAt xs i > numAt xs j)) (xs.size - 1)]? = some v → (∀ b o, s.heap.get? b = some o → h'.get? b = some o) → Q v { s with heap := h', toks := tk }) :
    wpAny (model prog w) A (call (.builtin "max") [.ref l]) Q E s := by
  have lt : l < s.heap.objs.size := by
    obtain ⟨o, ho, _⟩ := hl
    exact Heap.lt_size ho
  refine call_max_walk (wpAny_pyIter_tuple hl ?_)
  refine ⟨_, [_, l], [_], _, _, _, _, rfl, Walks.tuple (A := A.in1) hh _ l (Nat.ne_of_lt lt) (intItems xs), ⟨⟨_, Heap.get?_push_size _ rfl, rfl, rfl⟩, hl.push _⟩, fun c hc => ?_, by simpa [intItems] using hne, CmpOf.ints_gt (numAt xs) (fun _ _ => intItems_at), fun v h' tk hP hk => ?_⟩
  · show c < (s.heap.push _).objs.size
    rw [Heap.size_push]
    rcases List.mem_cons.mp hc with rfl | hc
    · exact Nat.lt_succ_self _
    · rw [List.mem_singleton.mp hc]
      exact Nat.lt_succ_of_lt lt
  · refine h v h' tk (by simpa [intItems] using hP) fun b o e => hk b o (fun hm => ?_) (Heap.get?_push_of_some _ e)
    have := Heap.lt_size e
    rw [List.mem_singleton.mp hm] at this
    exact Nat.lt_irrefl _ this
theorem min_tup0 {Q : Value → Shared → Prop} (hh : A.handled = none) (hl : s.heap.IsTuple l (intItems xs)) (hne : 0 < xs.size)
    (h : ∀ v h' tk, (intItems xs)[argBest (fun i j => decide (numAt xs i < numAt xs j)) (xs.size - 1)]? = some v → (∀ b o, s.heap.get? b = some o → h'.get? b = some o) → Q v { s with heap := h', toks := tk }) :
    wpAny (model prog w) A (call (.builtin "min") [.ref l]) Q E s := by
  have lt : l < s.heap.objs.size := by
    obtain ⟨o, ho, _⟩ := hl
    exact Heap.lt_size ho
  refine call_min_walk (wpAny_pyIter_tuple hl ?_)
  refine ⟨_, [_, l], [_], _, _, _, _, rfl, Walks.tuple (A := A.in1) hh _ l (Nat.ne_of_lt lt) (intItems xs), ⟨⟨_, Heap.get?_push_size _ rfl, rfl, rfl⟩, hl.push _⟩, fun c hc => ?_, by simpa [intItems] using hne, CmpOf.ints_lt (numAt xs) (fun _ _ => intItems_at), fun v h' tk hP hk => ?_⟩
  · show c < (s.heap.push _).objs.size
    rw [Heap.size_push]
    rcases List.mem_cons.mp hc with rfl | hc
    · exact Nat.lt_succ_self _
    · rw [List.mem_singleton.mp hc]
      exact Nat.lt_succ_of_lt lt
  · refine h v h' tk (by simpa [intItems] using hP) fun b o e => hk b o (fun hm => ?_) (Heap.get?_push_of_some _ e)
    have := Heap.lt_size e
    rw [List.mem_singleton.mp hm] at this
    exact Nat.lt_irrefl _ this
theorem max_tup {its : List Value} {ns : List Int} {Q : Value → Shared → Prop} (hh : A.handled = none) (hl : s.heap.IsTuple l its.toArray) (hi : IntsAre its ns) (hne : 0 < ns.length)
    (h : ∀ h' tk M t', (∀ b o, s.heap.get? b = some o → h'.get? b = some o) → M ∈ ns → (∀ a, a ∈ ns → a ≤ M) → Q (.int M t') { s with heap := h', toks := tk }) : wpAny (model prog w) A (call (.builtin "max") [.ref l]) Q E s := by
  obtain ⟨xs, e⟩ := hi.allInts.items
  have hn : numsOf (intItems xs).toList = ns := by rw [← e]; exact hi.numsOf
  rw [nums_intItems] at hn
  subst hn
  rw [e] at hl
  refine max_tup0 hh hl (by simpa using hne) fun v h' tk hv hk => ?_
  obtain ⟨t, rfl⟩ := intItems_at hv
  obtain ⟨h1, h2⟩ := argBest_gt (numAt xs) (xs.size - 1)
  have sz : 0 < xs.size := by simpa using hne
  refine h h' tk _ t hk ?_ fun a ha => ?_
  · rw [numAt_eq]
    exact PySem.getD_mem (by rw [List.length_map, Array.length_toList]; omega)
  · obtain ⟨j, hj, rfl⟩ := mem_getD ha
    rw [List.length_map, Array.length_toList] at hj
    rw [← numAt_eq]
    exact h2 j (by omega)
theorem min_tup {its : List Value} {ns : List Int} {Q : Value → Shared → Prop} (hh : A.handled = none) (hl : s.heap.IsTuple l its.toArray) (hi : IntsAre its ns) (hne : 0 < ns.length)
    (h : ∀ h' tk M t', (∀ b o, s.heap.get? b = some o → h'.get? b = some o) → M ∈ ns → (∀ a, a ∈ ns → M ≤ a) → Q (.int M t') { s with heap := h', toks := tk }) : wpAny (model prog w) A (call (.builtin "min") [.ref l]) Q E s := by
  obtain ⟨xs, e⟩ := hi.allInts.items
  have hn : numsOf (intItems xs).toList = ns := by rw [← e]; exact hi.numsOf
  rw [nums_intItems] at hn
  subst hn
  rw [e] at hl
  refine min_tup0 hh hl (by simpa using hne) fun v h' tk hv hk => ?_
  obtain ⟨t, rfl⟩ := intItems_at hv
  obtain ⟨h1, h2⟩ := argBest_lt (numAt xs) (xs.size - 1)
  have sz : 0 < xs.size := by simpa using hne
  refine h h' tk _ t hk ?_ fun a ha => ?_
  · rw [numAt_eq]
    exact PySem.getD_mem (by rw [List.length_map, Array.length_toList]; omega)
  · obtain ⟨j, hj, rfl⟩ := mem_getD ha
    rw [List.length_map, Array.length_toList] at hj
    rw [← numAt_eq]
    exact h2 j (by omega)
end
/-- max(t), min(t), t a tuple of ints -/
def rMaxT (K : PySem.W.Frag) : List V → Hp → VK → Prop := fun vs H Q => ∃ (a : Addr) (ns : List Int), vs = [V.ref a] ∧ SqT K H a (ns.map V.int) ∧ 0 < ns.length ∧ ∀ m, m ∈ ns → (∀ y, y ∈ ns → y ≤ m) → Q (.int m) H
def rMinT (K : PySem.W.Frag) : List V → Hp → VK → Prop := fun vs H Q => ∃ (a : Addr) (ns : List Int), vs = [V.ref a] ∧ SqT K H a (ns.map V.int) ∧ 0 < ns.length ∧ ∀ m, m ∈ ns → (∀ y, y ∈ ns → m ≤ y) → Q (.int m) H
section
variable {X : Cx}
theorem tup_is {h : Heap} {a : Addr} {its : List Value} {ys : Array Value} (hl : IsTup h a ys) (e : ys = its.toArray) : h.IsTuple a its.toArray := by
  obtain ⟨o, ho, hc, n, hd⟩ := hl
  exact ⟨o, ho, hc, n, by rw [hd, e]⟩
theorem cr_maxT {K : PySem.W.Frag} (hK : X.K = K) (hc : X.calm = true) : CallR X (.builtin "max") (rMaxT K) := by
  subst hK
  intro pins s σ H vs us Q I r h
  obtain ⟨a, ns, rfl, hs, hne, q⟩ := h
  obtain ⟨its, rv, hl, _⟩ := I.tuple hs
  rw [Vals.ref1 r]
  exact max_tup (I.ok.hd hc) (tup_is hl rfl) rv.ints hne fun h' tk m t' hk h1 h2 => ⟨.int _, H, I.kept hk, ⟨_, rfl⟩, q m h1 h2⟩
theorem cr_minT {K : PySem.W.Frag} (hK : X.K = K) (hc : X.calm = true) : CallR X (.builtin "min") (rMinT K) := by
  subst hK
  intro pins s σ H vs us Q I r h
  obtain ⟨a, ns, rfl, hs, hne, q⟩ := h
  obtain ⟨its, rv, hl, _⟩ := I.tuple hs
  rw [Vals.ref1 r]
  exact min_tup (I.ok.hd hc) (tup_is hl rfl) rv.ints hne fun h' tk m t' hk h1 h2 => ⟨.int _, H, I.kept hk, ⟨_, rfl⟩, q m h1 h2⟩
end
/-- one sign that is not in a text -/
def rNSgn : R2 := fun x y H Q => ∃ (c : Nat) (z : Str), x = .str ⟨#[c]⟩ ∧ y = .str z ∧ Q (.bl (!decide (c ∈ z.cps.toList))) H
theorem op_nsgn {X : Cx} : OpR X (compareOp .NotIn) rNSgn := op_notIn_sign
end LPK

set_option Elab.async false
set_option linter.all false
set_option maxRecDepth 100000
set_option maxHeartbeats 4000000
/-! LPI: t >= u of tuples of ints. -/
namespace LPK
open PySem PySem.Spec PyProof.Rows L2
theorem lexAt_shift {e r : Nat → Bool} {z : Bool} : ∀ (k i : Nat), Ob.lexAt e r z (i + 1) k = Ob.lexAt (fun j => e (j + 1)) (fun j => r (j + 1)) z i k
  | 0, i => rfl
  | k + 1, i => by
    rw [Ob.lexAt_succ, Ob.lexAt_succ, lexAt_shift k (i + 1)]
theorem lexAt_ge : ∀ ns ms : List Int, Ob.lexAt (fun j => decide (ns.getD j 0 = ms.getD j 0)) (fun j => decide (ms.getD j 0 ≤ ns.getD j 0)) (decide (ns.length ≥ ms.length)) 0 (min ns.length ms.length) = !HT.lexLt ns ms
  | [], [] => rfl
  | [], y :: ys => by
    rw [HT.lexLt_nil_cons, List.length_nil, Nat.zero_min, Ob.lexAt_zero, List.length_cons, decide_eq_false (by omega)]
    rfl
  | x :: xs, [] => by
    rw [HT.lexLt_cons_nil, List.length_nil, Nat.min_zero, Ob.lexAt_zero, decide_eq_true (Nat.zero_le _)]
    rfl
  | x :: xs, y :: ys => by
    rw [HT.lexLt_cons, List.length_cons, List.length_cons, Nat.succ_min_succ, Ob.lexAt_succ, lexAt_shift]
    have ih := lexAt_ge xs ys
    have ez : decide (xs.length + 1 ≥ ys.length + 1) = decide (xs.length ≥ ys.length) := decide_eq_decide.mpr ⟨fun h => by omega, fun h => by omega⟩
    rw [ez]
    show (if decide (x = y) = true then Ob.lexAt (fun j => decide (xs.getD j 0 = ys.getD j 0)) (fun j => decide (ys.getD j 0 ≤ xs.getD j 0)) (decide (xs.length ≥ ys.length)) 0 (min xs.length ys.length) else decide (y ≤ x)) = _
    rw [ih]
    by_cases h : x = y
    · rw [if_pos (decide_eq_true h), if_pos h]
    · rw [if_neg (by simpa using h), if_neg h]
      by_cases h2 : x < y
      · rw [decide_eq_true h2, decide_eq_false (by omega)]
        rfl
      · rw [decide_eq_false h2, decide_eq_true (by omega)]
        rfl
def rGeT (K : PySem.W.Frag) : R2 := fun x y H Q => ∃ (a b : Addr) (ns ms : List Int), x = .ref a ∧ y = .ref b ∧ SqT K H a (ns.map V.int) ∧ SqT K H b (ms.map V.int) ∧ Q (.bl (!HT.lexLt ns ms)) H
theorem op_geT {X : Cx} {K : PySem.W.Frag} (hK : X.K = K) (hu : X.A.units < cLine) : OpR X (compareOp .GtE) (rGeT K) := by
  subst hK
  intro pins s σ H x y v u Q I rx ry h
  obtain ⟨a, b, ns, ms, rfl, rfl, ha, hb, q⟩ := h
  cases rx
  cases ry
  obtain ⟨its, r1, p1, _⟩ := I.tuple ha
  obtain ⟨its2, r2, p2, _⟩ := I.tuple hb
  have i1 : IntsAre its ns := Vals.ints r1
  have i2 : IntsAre its2 ms := Vals.ints r2
  have e1 : its.toArray.size = ns.length := by rw [List.size_toArray]; exact i1.length
  have e2 : its2.toArray.size = ms.length := by rw [List.size_toArray]; exact i2.length
  have at1 : ∀ j (h1 : j < its.toArray.size), ∃ t, its.toArray[j] = .int (ns.getD j 0) t := fun j h1 => PyProof.Rows.IntsAre.int_at i1 _ _ (by simp at h1; simp [h1])
  have at2 : ∀ j (h1 : j < its2.toArray.size), ∃ t, its2.toArray[j] = .int (ms.getD j 0) t := fun j h1 => PyProof.Rows.IntsAre.int_at i2 _ _ (by simp at h1; simp [h1])
  have R := Ob.RcOp.tuples_ge (A := X.A) (s := s) (e := fun j => decide (ns.getD j 0 = ms.getD j 0)) (r := fun j => decide (ms.getD j 0 ≤ ns.getD j 0)) p1 p2 hu (fun j h1 h2 => by
    obtain ⟨t, et⟩ := at1 j h1
    obtain ⟨t', et'⟩ := at2 j h2
    rw [et, et']
    have z : (ns.getD j 0 == ms.getD j 0) = decide (ns.getD j 0 = ms.getD j 0) := by
      by_cases q : ns.getD j 0 = ms.getD j 0
      · rw [decide_eq_true q]; exact beq_iff_eq.mpr q
      · rw [decide_eq_false q]; exact beq_eq_false_iff_ne.mpr q
    rw [← z]
    exact SeqAt.EqAt.int_int _ _ _ _) (fun j h1 h2 _ => by
    obtain ⟨t, et⟩ := at1 j h1
    obtain ⟨t', et'⟩ := at2 j h2
    rw [et, et']
    exact Ob.RcOp.ge_int _ _ _ _)
  rw [e1, e2, lexAt_ge] at R
  have z : wpAny (model X.prog X.w) X.A (compareOp .GtE (.ref a) (.ref b)) (EP X pins σ Q) X.xe s := R X.prog X.w X.xe (EP X pins σ Q) ⟨.bl _, H, I, rfl, q⟩
  exact z
end LPK

set_option Elab.async false
set_option linter.all false
set_option maxRecDepth 100000
set_option maxHeartbeats 4000000
/-! LPJS: sorted(set) of tuples of ints, in rising order. -/
namespace LPJS
open PySem PySem.Spec PyProof.Rows L2
/-- what is a permutation of images is the image of a permutation -/
theorem perm_map {α β : Type} {f : α → β} {a b : List β} (h : a.Perm b) : ∀ {L : List α}, b = L.map f → ∃ L' : List α, L'.Perm L ∧ a = L'.map f := by
  induction h with
  | nil =>
    intro L e
    cases L with
    | nil => exact ⟨[], .refl _, rfl⟩
    | cons _ _ => cases e
  | cons x _ ih =>
    intro L e
    cases L with
    | nil => cases e
    | cons y M =>
      rw [List.map_cons] at e
      injection e with e1 e2
      obtain ⟨M', p, q⟩ := ih e2
      exact ⟨y :: M', p.cons y, by rw [List.map_cons, e1, q]⟩
  | swap x y l =>
    intro L e
    cases L with
    | nil => cases e
    | cons p L =>
      cases L with
      | nil =>
        rw [List.map_cons] at e
        injection e with _ e
        cases e
      | cons q M =>
        rw [List.map_cons, List.map_cons] at e
        injection e with e1 e2
        injection e2 with e2 e3
        exact ⟨q :: p :: M, .swap p q M, by rw [List.map_cons, List.map_cons, e1, e2, e3]⟩
  | trans _ _ ih1 ih2 =>
    intro L e
    obtain ⟨L2, p2, e2⟩ := ih2 e
    obtain ⟨L1, p1, e1⟩ := ih1 e2
    exact ⟨L1, p1.trans p2, e1⟩
theorem lex_inl : ∀ xs ys : List Int, lexLt itemOrd (xs.map Sum.inl) (ys.map Sum.inl) = HT.lexLt xs ys
  | [], [] => rfl
  | [], _ :: _ => rfl
  | _ :: _, [] => rfl
  | x :: xs, y :: ys => by
    rw [List.map_cons, List.map_cons, HT.lexLt_cons]
    by_cases h : x = y
    · rw [if_pos h, h, lex_self, lex_inl xs ys]
    · rw [if_neg h, lex_diff (fun e => h (Sum.inl.inj e))]
      exact rfl
theorem lex_strict {r s : List Int} (hn : r ≠ s) (h : HT.lexLt s r = false) : HT.lexLt r s = true := by
  cases q : HT.lexLt r s with
  | true => rfl
  | false =>
    have h1 := lex_total (O := itemOrd) (r.map Sum.inl) (s.map Sum.inl) (by rw [lex_inl]; exact q) (by rw [lex_inl]; exact h)
    exact absurd ((List.map_inj_right fun a b e => Sum.inl.inj e).mp h1) hn
theorem tupKeyC_ints {h : Heap} {v : Value} {ns : List Int} (x : TS.TupInts h v ns) : G.tupKeyC h (fun _ => false) v = some (ns.map Sum.inl) := by
  obtain ⟨a, xs, rfl, ⟨o, ho, hc, n, hd⟩, i⟩ := x
  unfold G.tupKeyC
  rw [if_pos (by simp [G.isTupObj, ho, hc])]
  simp only [tupKey, ho, hd]
  exact LPJ.items_some i 0
theorem rising {h : Heap} {arr : Array Keyed} {L' : List (Addr × List Int)} (hs : SortedToK (G.tupKindC h (fun _ => false)) arr L'.length) (e : arr.toList.map (·.1) = L'.map fun q => Value.ref q.1)
    (hk : ∀ q ∈ L', G.tupKeyC h (fun _ => false) (.ref q.1) = some (q.2.map Sum.inl)) (nd : (L'.map (·.2)).Nodup) : (L'.map (·.2)).Pairwise (fun r s => HT.lexLt r s = true) := by
  have key : ∀ i (hi : i < L'.length), KK (G.tupKindC h (fun _ => false)) arr i = (L'[i].2.map Sum.inl : List (Int ⊕ List Nat)) := by
    intro i hi
    have hl : arr.toList.length = L'.length := by
      have := congrArg List.length e
      rwa [List.length_map, List.length_map] at this
    have hi2 : i < arr.toList.length := by omega
    have hi3 : i < arr.size := by rw [← Array.length_toList]; exact hi2
    have e1 : arr.toList[i].1 = Value.ref L'[i].1 := by
      have h1 : (arr.toList.map (·.1))[i]? = (L'.map fun q => Value.ref q.1)[i]? := by rw [e]
      rw [List.getElem?_map, List.getElem?_map, List.getElem?_eq_getElem hi2, List.getElem?_eq_getElem hi] at h1
      exact Option.some.inj h1
    unfold KK
    rw [getElem?_pos arr i hi3]
    have e2 : arr[i].1 = Value.ref L'[i].1 := by rw [← e1]; simp
    show ((G.tupKeyC h (fun _ => false) arr[i].1).getD [] : List (Int ⊕ List Nat)) = _
    rw [e2, hk _ (List.getElem_mem hi)]
    exact rfl
  rw [List.pairwise_iff_getElem]
  intro i j hi hj hij
  rw [List.length_map] at hi hj
  have h1 := hs i j (Nat.le_of_lt hij) hj
  rw [key i hi, key j hj] at h1
  have h2 : lexLt itemOrd (L'[j].2.map Sum.inl) (L'[i].2.map Sum.inl) = false := h1
  rw [lex_inl] at h2
  rw [List.getElem_map, List.getElem_map]
  refine lex_strict (fun q => ?_) h2
  have h3 := (List.pairwise_iff_getElem.mp nd) i j (by rwa [List.length_map]) (by rwa [List.length_map]) hij
  rw [List.getElem_map, List.getElem_map] at h3
  exact h3 q
section
variable {P : Program} {w : World} {A : Around} {E : Value → Shared → Prop} {s : Shared}
theorem sorted_rise {a : Addr} {L : List (Addr × List Int)} {es : Array (Int × Value)} {ep : Nat} {t : SetTable} {Q : Value → Shared → Prop} (R : SetTR P w s.heap a L es ep t) (hh : A.handled = none) (hn : ∀ p ∈ L, p.2 ≠ []) (hnd : (L.map (·.2)).Nodup)
    (hQ : ∀ s' p (out : Array Value) (c : Nat) (L' : List (Addr × List Int)), (∀ b o, s.heap.get? b = some o → s'.heap.get? b = some o) → s'.gens = s.gens → s'.os = s.os → s.heap.objs.size ≤ p →
      s'.heap.get? p = some (seqObj "list" out c) → out.toList = L'.map (fun q => Value.ref q.1) → L'.Perm L → (L'.map (·.2)).Pairwise (fun r s => HT.lexLt r s = true) → Q (.ref p) s') :
    wpAny (model P w) A (call (.builtin "sorted") [.ref a]) Q E s := by
  obtain ⟨o, ho, hex, hd⟩ := R.ob
  have hfew := R.few
  have hsz := R.size
  refine Calls.call_function_entry kind_sorted plain_sorted entry_sorted (args_sorted1 _) ?_
  unfold Builtin.«sorted»
  refine wpAny_bind (m := checkCount "sorted" 1 1 _) (wpAny_pure ?_)
  refine wpAny_bind (collect_set (A := A.in1) hh ⟨o, ho, hex.1, hd⟩ R.fits (by unfold scanBound; omega) R.tab.ris R.led fun s1 vs k1 hz g1 o1 pm => ?_)
  have hes : es.toList.map (·.2) = L.map fun q => Value.ref q.1 := by
    rw [R.rows]
    unfold rowsOf
    rw [List.map_map]
    rfl
  rw [hes] at pm
  have hvl : vs.length = L.length := by rw [pm.length_eq, List.length_map]
  refine wpAny_bind (wpAny_newList ?_ (by rw [sizeLine_eq]; omega))
  have hoL : (s1.heap.push (seqObj "list" vs.toArray 0)).get? s1.heap.objs.size = some (seqObj "list" vs.toArray 0) := Heap.get?_push_size _ rfl
  have xq : ∀ q ∈ L, TS.TupInts (s1.heap.push (seqObj "list" vs.toArray 0)) (.ref q.1) q.2 := fun q hq =>
    tupInts_of (P := P) (w := w) (isT_keep (R.tup q hq) fun b u e => Heap.get?_push_of_some _ (k1 b u e))
  have x : ∀ v ∈ vs, ∃ ns, TS.TupInts (s1.heap.push (seqObj "list" vs.toArray 0)) v ns ∧ ns ≠ [] := fun v hv => by
    obtain ⟨q, hq, e⟩ := List.mem_map.mp (pm.mem_iff.mp hv)
    rw [← e]
    exact ⟨q.2, xq q hq, hn q hq⟩
  obtain ⟨fs, hfs⟩ := LPJ.tups_of fun v hv => by
    obtain ⟨ns, h1, h2⟩ := x v hv
    exact (LPJ.tup_of h1 h2).1
  refine wpAny_bind (wpAny_holding (wpAny_call_entry slot_list_sort ⟨_, hoL, rfl⟩ entry_list_sort (G.list_sort_tups (s := { s1 with heap := s1.heap.push (seqObj "list" vs.toArray 0) }) hoL hfs (fun v hv => by
    obtain ⟨ns, h1, h2⟩ := x v hv
    exact (LPJ.tup_of h1 h2).2) (by rw [sizeLine_eq]; omega) fun st a1 a2 _ => ⟨_, rfl, ?_⟩) (args_list_sort _)))
  generalize hout : (arrOf st).map (·.2) = out
  have po : out.toList.Perm vs := by
    have z := (Array.perm_iff_toList_perm.mp a1).map Prod.snd
    rw [pairsOf_toList, List.map_snd_zip (Nat.le_refl _)] at z
    rw [← hout, Array.toList_map]
    exact z
  have same : (arrOf st).toList.map (·.1) = out.toList := by
    rw [← hout, Array.toList_map]
    refine List.map_congr_left fun p hp => ?_
    have h1 := (Array.perm_iff_toList_perm.mp a1).mem_iff.mp hp
    rw [pairsOf_toList] at h1
    exact (mem_zip_self h1).1
  obtain ⟨c, hc⟩ := sortedHeap_at (vs := vs) (out := out) hoL
  obtain ⟨L', hp', e'⟩ := perm_map (f := fun q : Addr × List Int => Value.ref q.1) (po.trans pm) rfl
  have hl : L'.length = (pairsOf vs).size := by rw [pairsOf_size, hvl, hp'.length_eq]
  have ris : (L'.map (·.2)).Pairwise (fun r s => HT.lexLt r s = true) := by
    rw [← hl] at a2
    exact rising a2 (by rw [same, e']) (fun q hq => tupKeyC_ints (xq q (hp'.mem_iff.mp hq))) ((hp'.map (·.2)).nodup_iff.mpr hnd)
  refine wpAny_pure ⟨_, rfl, hQ _ s1.heap.objs.size out c L' (fun b u e => ?_) g1 o1 hz hc e' hp' ris⟩
  have q := k1 b u e
  have hlt := Heap.lt_size q
  show (sortedHeap (s1.heap.push (seqObj "list" vs.toArray 0)) s1.heap.objs.size vs out).get? b = some u
  rw [sortedHeap_old (Nat.ne_of_lt hlt) (by rw [size_push']; exact Nat.lt_succ_of_lt hlt)]
  exact Heap.get?_push_of_some _ q
end
/-- sorted(set), tuples of ints: a list of them all in rising order -/
def rSortedO (K : PySem.W.Frag) (P : Program) (w : World) : List V → Hp → VK → Prop := fun vs H Q => ∃ (a : Addr) (L : List (Addr × List Int)), vs = [V.ref a] ∧ H a = some (SetTO P w a L) ∧ (∀ p ∈ L, SqT K H p.1 (p.2.map V.int)) ∧ (∀ p ∈ L, p.2 ≠ []) ∧
  ∀ _ : (L.map (·.2)).Nodup, ∀ (L' : List (Addr × List Int)) (p : Addr), L'.Perm L → (L'.map (·.2)).Pairwise (fun r s => HT.lexLt r s = true) → L'.length < 64 → H p = none → Q (.ref p) (upd H p (.lst (L'.map fun q => V.ref q.1)))
section
variable {X : Cx}
theorem cr_sortedO {K : PySem.W.Frag} {P : Program} {w : World} (hK : X.K = K) (hP : X.prog = P) (hw : X.w = w) (hc : X.calm = true) : CallR X (.builtin "sorted") (rSortedO K P w) := by
  subst hK hP hw
  intro pins s σ H vs us Q I r h
  obtain ⟨a, L, rfl, ha, hk, hn, q⟩ := h
  have R0 : SetT0 X.prog X.w s.heap a L := (I.hok a _ ha).1
  obtain ⟨es, ep, t, R⟩ := R0.full fun p hp => I.isT (hk p hp)
  rw [Vals.ref1 r]
  refine sorted_rise R (I.ok.hd hc) hn R.nd fun s' p out c L' k g o hp hg hout hs ris => ?_
  have hl := hs.length_eq
  have hfew : L'.length < 64 := by
    have := R.few
    omega
  have hlen : (L'.map fun q => V.ref q.1).length ≤ sizeLine := by rw [List.length_map, sizeLine_eq]; omega
  have hn : H p = none := I.hok.fresh hp
  have hv : Vals (L'.map fun q => V.ref q.1) out.toList := by rw [hout]; exact vals_of_refs L'
  have J : Inv X pins σ (upd H p (.lst (L'.map fun q => V.ref q.1))) { s with heap := s'.heap, gens := s'.gens, drawn := s'.drawn, toks := s'.toks } :=
    I.call (ch := []) (Un.laid k hp hn) (I.hok.laid k hp ⟨hlen, out.toList, c, hv, hg⟩) (by rw [g]; exact I.bare) (fun _ z => nomatch z)
  have e : s' = { s with heap := s'.heap, gens := s'.gens, drawn := s'.drawn, toks := s'.toks } := by
    cases s'
    cases s
    cases o
    rfl
  rw [e]
  exact ⟨.ref p, _, J, rfl, q R.nd L' p hs ris hfew hn⟩
end
end LPJS

set_option Elab.async false
set_option linter.all false
set_option maxRecDepth 100000
set_option maxHeartbeats 4000000
/-! LPEE: a list or a tuple of any items beside an empty one. -/
namespace LP
open PySem PySem.Spec L2
open PyProof.Rows hiding St
/-- both lists or both tuples, the second one empty -/
def rEqE0 (K : PySem.W.Frag) : R2 := fun x y H Q => ∃ (a b : Addr) (xs : List V), x = .ref a ∧ y = .ref b ∧ ((SqL K H a xs ∧ SqL K H b []) ∨ (SqT K H a xs ∧ SqT K H b [])) ∧ Q (.bl xs.isEmpty) H
def rNeE0 (K : PySem.W.Frag) : R2 := fun x y H Q => ∃ (a b : Addr) (xs : List V), x = .ref a ∧ y = .ref b ∧ ((SqL K H a xs ∧ SqL K H b []) ∨ (SqT K H a xs ∧ SqT K H b [])) ∧ Q (.bl (!xs.isEmpty)) H
section
variable {X : Cx}
theorem vals_nil {us : List Value} (h : Vals [] us) : us = [] := by cases h; rfl
theorem vals_cons {v : V} {xs : List V} {us : List Value} (h : Vals (v :: xs) us) : 0 < us.length := by cases h; exact Nat.succ_pos _
theorem op_eqE0 {K : PySem.W.Frag} (hK : X.K = K) (hu : X.A.units + 64 < cLine) : OpR X (compareOp .Eq) (rEqE0 K) := by
  subst hK
  intro pins s σ H x y v u Q I rx ry h
  obtain ⟨a, b, xs, rfl, rfl, h, q⟩ := h
  obtain rfl : v = Value.ref a := rx
  obtain rfl : u = Value.ref b := ry
  have hu' : X.A.units < cLine := by omega
  rcases h with ⟨h1, h2⟩ | ⟨h1, h2⟩
  · obtain ⟨i1, r1, p1, _⟩ := I.list h1
    obtain ⟨i2, r2, p2, _⟩ := I.list h2
    have e2 := vals_nil r2
    subst e2
    cases xs with
    | nil =>
      have e1 := vals_nil r1
      subst e1
      exact SeqAt.eq_listAt (e := fun _ => true) p1.isList p2.isList rfl hu' (fun j h1 _ => absurd h1 (Nat.not_lt_zero _)) ⟨.bl true, H, I, rfl, q⟩
    | cons z xs =>
      have hz := vals_cons r1
      refine SeqAt.eq_list_lengthsAt p1.isList p2.isList ?_ hu' ⟨.bl false, H, I, rfl, q⟩
      simp only [List.size_toArray, List.length_nil, bne_iff_ne, ne_eq]
      omega
  · obtain ⟨i1, r1, p1, _⟩ := I.tuple h1
    obtain ⟨i2, r2, p2, _⟩ := I.tuple h2
    have e2 := vals_nil r2
    subst e2
    refine SeqAt.eq_tupleAt (e := fun _ => true) p1 p2 hu' (fun j _ h2 => absurd h2 (Nat.not_lt_zero _)) ⟨.bl xs.isEmpty, H, I, ?_, q⟩
    cases xs with
    | nil =>
      have e1 := vals_nil r1
      subst e1
      rfl
    | cons z xs =>
      have hz := vals_cons r1
      show Value.bool _ = Value.bool false
      congr 1
      rw [Bool.and_eq_false_iff]
      right
      simp only [List.size_toArray, List.length_nil, beq_eq_false_iff_ne, ne_eq]
      omega
theorem op_neE0 {K : PySem.W.Frag} (hK : X.K = K) (hu : X.A.units + 64 < cLine) : OpR X (compareOp .NotEq) (rNeE0 K) := by
  subst hK
  intro pins s σ H x y v u Q I rx ry h
  obtain ⟨a, b, xs, rfl, rfl, h, q⟩ := h
  obtain rfl : v = Value.ref a := rx
  obtain rfl : u = Value.ref b := ry
  have hu' : X.A.units < cLine := by omega
  rcases h with ⟨h1, h2⟩ | ⟨h1, h2⟩
  · obtain ⟨i1, r1, p1, _⟩ := I.list h1
    obtain ⟨i2, r2, p2, _⟩ := I.list h2
    have e2 := vals_nil r2
    subst e2
    cases xs with
    | nil =>
      have e1 := vals_nil r1
      subst e1
      exact SeqAt.RcNeAt.lists (e := fun _ => true) p1.isList p2.isList rfl hu' (fun j h1 _ => absurd h1 (Nat.not_lt_zero _)) X.prog X.w _ _ ⟨.bl false, H, I, rfl, q⟩
    | cons z xs =>
      have hz := vals_cons r1
      refine SeqAt.RcNeAt.lists_lengths p1.isList p2.isList ?_ hu' X.prog X.w _ _ ⟨.bl true, H, I, rfl, q⟩
      simp only [List.size_toArray, List.length_nil, bne_iff_ne, ne_eq]
      omega
  · obtain ⟨i1, r1, p1, _⟩ := I.tuple h1
    obtain ⟨i2, r2, p2, _⟩ := I.tuple h2
    have e2 := vals_nil r2
    subst e2
    refine SeqAt.RcNeAt.tuples (e := fun _ => true) p1 p2 hu' (fun j _ h2 => absurd h2 (Nat.not_lt_zero _)) X.prog X.w _ _ ⟨.bl (!xs.isEmpty), H, I, ?_, q⟩
    cases xs with
    | nil =>
      have e1 := vals_nil r1
      subst e1
      rfl
    | cons z xs =>
      have hz := vals_cons r1
      show Value.bool _ = Value.bool true
      congr 1
      simp only [List.size_toArray, List.length_nil]
      have : (i1.length == 0) = false := by simpa using Nat.ne_of_gt hz
      rw [this]
      simp
end
end LP

set_option Elab.async false
set_option linter.all false
set_option maxRecDepth 100000
set_option maxHeartbeats 4000000
/-! LPRT: a tuple the other way round, str of data. -/
namespace LP
open PySem PySem.Spec L2
open PyProof.Rows hiding St
section
variable {prog : Program} {w : World} {A : Around} {E : Value → Shared → Prop} {s : Shared}
theorem part_ {v : Value} {o : Option Int} {Q : Option Int → Shared → Prop} (p : IsPart v o) (h : Q o s) : wpAny (model prog w) A (Builtin.Slice.slicePartIndex v) Q E s := HT.slicePart_ p h
theorem adjust_rev (n : Nat) : Builtin.Slice.sliceAdjust none none (-1) (n : Int) = ((n : Int) - 1, -1) := rfl
theorem places_rev (n : Nat) : Builtin.Slice.slicePlaces ((n : Int) - 1) (-1) (-1) = n := by
  unfold Builtin.Slice.slicePlaces
  rw [if_neg (by decide)]
  by_cases h : (n : Int) - 1 > -1
  · rw [if_pos h]
    have e : -(-1 : Int) = 1 := by decide
    rw [e, Int.ediv_one]
    omega
  · rw [if_neg h]
    show 0 = n
    omega
theorem sliceApplied_rev {sl : Addr} {vk : Value} {n : Nat} {Q : Int × Int × Nat → Shared → Prop} (hs : s.heap.IsSliceOf sl .none .none vk) (pk : IsPart vk (some (-1))) (h : Q ((n : Int) - 1, -1, n) s) :
    wpAny (model prog w) A (Builtin.Slice.sliceApplied (.ref sl) (pure (n : Int))) Q E s := by
  obtain ⟨os, hos, hcs, hds⟩ := id hs
  unfold Builtin.Slice.sliceApplied Builtin.Slice.sliceFields
  refine wpAny_bind (wpAny_bind (wpAny_field hos hds (x := .none) rfl (wpAny_bind (wpAny_field hos hds (x := .none) rfl (wpAny_bind (wpAny_field hos hds (x := vk) rfl (wpAny_pure ?_)))))))
  refine wpAny_bind (part_ pk ?_)
  show wpAny _ _ (if ((-1 : Int) == 0) = true then _ else _) _ _ s
  rw [if_neg (by decide)]
  refine wpAny_bind (part_ .none (wpAny_bind (part_ .none (wpAny_bind (wpAny_pure ?_)))))
  show wpAny _ _ (match Builtin.Slice.sliceAdjust none none (-1) (n : Int) with | (lo, hi) => pure (lo, (-1 : Int), Builtin.Slice.slicePlaces lo hi (-1))) _ _ s
  rw [adjust_rev]
  show wpAny _ _ (pure ((n : Int) - 1, (-1 : Int), Builtin.Slice.slicePlaces ((n : Int) - 1) (-1) (-1))) _ _ s
  rw [places_rev]
  exact wpAny_pure h
theorem pick_rev (xs : Array Value) : ((List.range xs.size).filterMap fun (m : Nat) => xs[(((xs.size : Nat) : Int) - 1 + (m : Int) * (-1)).toNat]?).toArray = xs.toList.reverse.toArray := by
  congr 1
  have main : ∀ l : List Nat, (∀ m ∈ l, m < xs.size) → l.filterMap (fun (m : Nat) => xs[(((xs.size : Nat) : Int) - 1 + (m : Int) * (-1)).toNat]?) = l.map fun m => xs.getD (xs.size - 1 - m) Value.none := by
    intro l
    induction l with
    | nil => exact fun _ => rfl
    | cons m l ih =>
      intro hl
      have hm := hl m List.mem_cons_self
      have e1 : (((xs.size : Nat) : Int) - 1 + (m : Int) * (-1)).toNat = xs.size - 1 - m := by omega
      have h : xs.size - 1 - m < xs.size := by omega
      have e2 : xs[(((xs.size : Nat) : Int) - 1 + (m : Int) * (-1)).toNat]? = some (xs.getD (xs.size - 1 - m) Value.none) := by
        rw [e1, getElem?_pos xs _ h]
        simp [Array.getD, h]
      rw [List.filterMap_cons, e2, List.map_cons, ← ih fun z hz => hl z (List.mem_cons_of_mem _ hz)]
  rw [main _ fun m hm => List.mem_range.mp hm]
  refine List.ext_getElem (by simp) fun i h1 h2 => ?_
  simp only [List.length_map, List.length_range] at h1
  have h : xs.size - 1 - i < xs.size := by omega
  rw [List.getElem_map, List.getElem_range, List.getElem_reverse]
  simp [Array.getD, h]
theorem getItem_tuple_rev {t sl : Addr} {items : Array Value} {vk : Value} {Q : Value → Shared → Prop} (ht : IsTup s.heap t items) (hs : s.heap.IsSliceOf sl .none .none vk) (pk : IsPart vk (some (-1)))
    (h : Q (.ref s.heap.objs.size) { s with heap := s.heap.push { cls := .type "tuple", data := .seq items.toList.reverse.toArray } }) (hsz : items.size ≤ sizeLine) : wpAny (model prog w) A (getItem (.ref t) (.ref sl)) Q E s := by
  have hok : sizeOk (.seq items.toList.reverse.toArray) := by
    show items.toList.reverse.toArray.size ≤ sizeLine
    rw [List.size_toArray, List.length_reverse, Array.length_toList]
    exact hsz
  obtain ⟨os, hos, hcs, hds⟩ := id hs
  have hTs : s.TypeIs (.ref sl) "slice" := ⟨os, hos, hcs⟩
  unfold getItem
  try with_reducible refine wpAny_holding ?_
  first | refine wpAny_bind (wpAny_pure ?_) | skip
  refine wpAny_bind (wpAny_sequenceKey ht.typeIs (by decide) ?_)
  refine wpAny_bind (wpAny_callSpecial?_slot (name := Str.ofString "__getitem__") ht.typeIs PyProof.Rows.slot_tuple_getitem
    (wpAny_call_entry PyProof.Rows.slot_tuple_getitem ht.typeIs entry_tuple_getitem ?_ (args_tuple_getitem _ _)))
  show wpAny _ _ (Builtin.Tuple.tupleItemsOf (.ref t) >>= _) _ _ s
  refine wpAny_bind (tupleItemsOf_ ht ?_)
  refine wpAny_bind (wpAny_typeOf hTs ?_)
  rw [if_pos (by decide)]
  refine wpAny_bind (sliceApplied_rev hs pk ?_)
  have hno : ¬ ((((items.size : Int) - 1) == 0 && (-1 : Int) == 1 && (items.size == items.size)) = true) := by
    intro q
    rw [Bool.and_eq_true, Bool.and_eq_true] at q
    exact absurd q.1.2 (by decide)
  show wpAny _ _ (if (((items.size : Int) - 1) == 0 && (-1 : Int) == 1 && (items.size == items.size)) = true then _ else _) _ _ s
  rw [if_neg hno, pick_rev]
  first
    | exact wpAny_bind (m := Builtin.Tuple.tupleExact _) (wpAny_newObj_type (wpAny_pure ⟨_, rfl, wpAny_pure h⟩) hok)
    | exact wpAny_bind (m := Builtin.Tuple.tupleExact _) (wpAny_newObj_type (wpAny_bind (wpAny_pure (wpAny_pure ⟨_, rfl, wpAny_pure h⟩))) hok)
    | exact wpAny_bind (wpAny_bind (m := Builtin.Tuple.tupleExact _) (wpAny_newObj_type (wpAny_pure (wpAny_pure ⟨_, rfl, wpAny_pure h⟩)) hok))
    | exact wpAny_bind (wpAny_bind (m := Builtin.Tuple.tupleExact _) (wpAny_newObj_type (wpAny_pure ⟨_, rfl, wpAny_pure h⟩) hok))
end
section
variable {X : Cx}
/-- t[::-1] of a tuple -/
def tRevT (K : PySem.W.Frag) (te : TE) : TE := fun σ H Q => te σ H fun x H1 => ∃ a xs, x = .ref a ∧ SqT K H1 a xs ∧ ∀ p, H1 p = none → Q (.ref p) (upd H1 p (.tup xs.reverse))
theorem tRevT_eq {K : PySem.W.Frag} {te : TE} {σ : L2.St} {H : Hp} {Q : VK} : tRevT K te σ H Q = te σ H fun x H1 => ∃ a xs, x = .ref a ∧ SqT K H1 a xs ∧ ∀ p, H1 p = none → Q (.ref p) (upd H1 p (.tup xs.reverse)) := rfl
theorem pe_revT {K : PySem.W.Frag} (hK : X.K = K) {e : Expr} {te : TE} {k : Nat} {p1 p2 p3 pos : Pos} (he : PE X e te) : PE X (.Subscript e (.Slice none none (some (.UnaryOp .USub (.Constant (.int 1) k p1) p2)) p3) pos) (tRevT K te) := by
  subst hK
  refine ⟨fun pins s σ H Q I h => ?_⟩
  refine Subscript_ (thn (he.run pins s σ H _ I h) fun v s1 ⟨x, H1, I1, r1, q1⟩ => ?_)
  obtain ⟨a, xs, ex, hx, q⟩ := q1
  subst ex
  cases r1
  have hst : PO X (some (.UnaryOp .USub (.Constant (.int 1) k p1) p2)) (tPart (tUn (rU fun i => .int (-i)) (tC (.int 1)))) := po_some (pe_un un_neg pe_int)
  refine wpAny_Slice (thn (po_none.run pins s1 σ H1 (fun o H2 => o = none ∧ H2 = H1) I1 ⟨rfl, rfl⟩) fun vl s2 ⟨l, H2, I2, pl, el, e2⟩ => ?_)
  subst el e2
  refine thn (po_none.run pins s2 σ H2 (fun o H3 => o = none ∧ H3 = H2) I2 ⟨rfl, rfl⟩) fun vu s3 ⟨u, H3, I3, pu, eu, e3⟩ => ?_
  subst eu e3
  refine thn (hst.run pins s3 σ H3 (fun o H4 => o = some (-1) ∧ H4 = H3) I3 ⟨1, rfl, -1, rfl, rfl, rfl⟩) fun vs s4 ⟨o, H4, I4, ps, eo, e4⟩ => ?_
  subst eo e4
  cases pl
  cases pu
  have I5 : Inv X pins σ H4 { s4 with heap := s4.heap.push { cls := .type "slice", data := .fields #[.none, .none, vs] } } := I4.kept (t' := s4.toks) fun b ob q => Heap.get?_push_of_some _ q
  obtain ⟨its, r, ht, hz⟩ := I5.tuple hx
  have hlen := r.length
  show wpAny (model X.prog X.w) X.A (subscriptTail e (.Slice none none (some (.UnaryOp .USub (.Constant (.int 1) k p1) p2)) p3) (.ref a) (.ref s4.heap.objs.size)) (EP X pins σ Q) X.xe { s4 with heap := s4.heap.push { cls := .type "slice", data := .fields #[.none, .none, vs] } }
  refine tail_any (ops := [.ref a, .ref s4.heap.objs.size]) ht.typeIs (PyProof.Rows.slot_tuple_getitem.lookup) ?_ (by with_unfolding_all rfl)
  refine getItem_tuple_rev ht (Heap.IsSliceOf.new _ .none .none vs) ps ?_ (by rw [List.size_toArray]; omega)
  refine ⟨.ref _, _, I5.laid (t' := s4.toks) (o := .tup xs.reverse) (fun b ob q => Heap.get?_push_of_some _ q) (Nat.le_refl _) ?_, rfl, q _ (I5.hok.fresh (Nat.le_refl _))⟩
  exact ⟨by rw [List.length_reverse]; exact hz, _, r.reverse, IsTup.new _ _⟩
/-! ### str of data -/
/-- a text is its own; other data as repr shows them -/
def strD : PyData → Str
  | .str x => x
  | d => d.shown
def rStrD (K : PySem.W.Frag) : List V → Hp → VK → Prop := fun xs H Q => ∃ x d, xs = [x] ∧ Dp K H x d ∧ d.showable = true ∧ d.hasDict = false ∧ d.depth ≤ 60 ∧ d.shown.length ≤ sizeLine ∧ Q (.str (strD d)) H
theorem call_strD {K : PySem.W.Frag} (hK : X.K = K) (gd : X.A.guards = some []) (hu : X.A.units + 64 < cLine) : CallR X (.type "str") (rStrD K) := by
  subst hK
  intro pins s σ H xs us Q I r h
  obtain ⟨x, d, rfl, hd, hs, hn, hz, hl, q⟩ := h
  obtain ⟨u, rfl, r1⟩ := vals1 r
  cases hd with
  | non =>
    cases (show u = Value.none from r1)
    exact PySem.P.str_of_none ⟨.str _, H, I.tok _, ⟨_, rfl⟩, q⟩
  | bl b =>
    cases (show u = Value.bool b from r1)
    exact PySem.P.str_of_bool ⟨.str _, H, I.tok _, ⟨_, rfl⟩, q⟩
  | int i =>
    obtain ⟨t, rfl⟩ := (show ∃ t, u = Value.int i t from r1)
    have hi : i.natAbs.log2 < 1920 := by simpa [PyData.showable] using hs
    exact PySem.P.str_of_int hi ⟨.str _, H, I.tok _, ⟨_, rfl⟩, q⟩
  | str y =>
    obtain ⟨t, rfl⟩ := (show ∃ t, u = Value.str y t from r1)
    exact PySem.P.str_of_str ⟨.str _, H, I, ⟨_, rfl⟩, q⟩
  | @lst a ys ds h1 h2 =>
    have e0 : Dp X.K H (.ref a) (.list ds) := .lst h1 h2
    cases (show u = Value.ref a from r1)
    obtain ⟨as, rd⟩ := Dp.reads I _ _ _ e0 rfl
    refine str_of_reads rd hs (fun z => ?_) gd (by omega) (fun _ _ e => e) (fun h' v tk hk => ?_) hl
    · rw [hn] at z
      cases z
    · exact ⟨.str _, H, I.kept hk, ⟨_, rfl⟩, q⟩
  | @tup a ys ds h1 h2 =>
    have e0 : Dp X.K H (.ref a) (.tuple ds) := .tup h1 h2
    cases (show u = Value.ref a from r1)
    obtain ⟨as, rd⟩ := Dp.reads I _ _ _ e0 rfl
    refine str_of_reads rd hs (fun z => ?_) gd (by omega) (fun _ _ e => e) (fun h' v tk hk => ?_) hl
    · rw [hn] at z
      cases z
    · exact ⟨.str _, H, I.kept hk, ⟨_, rfl⟩, q⟩
theorem op_repTK {K : PySem.W.Frag} (hK : X.K = K) : OpR X (binaryOp .Mult) (rRepT K) := by subst hK; exact op_repT
theorem op_catAK {K : PySem.W.Frag} (hK : X.K = K) : OpR X (binaryOp .Add) (rCatA K) := by subst hK; exact op_catA
theorem sl_tupAK {K : PySem.W.Frag} (hK : X.K = K) : SlR X (rSlA K) := by subst hK; exact sl_tupA
end
end LP

set_option Elab.async false
set_option linter.all false
set_option maxRecDepth 100000
set_option maxHeartbeats 4000000
/-! LPST: set(tuple) of tuples of ints, many items, few of them different; len(set(list of ints)). -/
namespace LPST
open PySem PySem.Spec PyProof.Rows L2
section
variable {P : Program} {w : World} {A : Around} {E : Value → Shared → Prop} {s : Shared}
/-- few different ones -/
def Few (ks : List (Addr × List Int)) : Prop := ∀ L : List (Addr × List Int), (L.map (·.2)).Nodup → (∀ p ∈ L, p ∈ ks) → L.length + 1 < 64
theorem fill {I : Addr} {fp wr : List Addr} {G : Array GenState → Array GenState → Prop} {n : Nat} {Pv : Nat → Value → Prop} {St : Nat → Shared → Prop} {R : Result → Shared → Prop}
    (W : WalksS P w A.in1 I fp wr G n Pv St) (S : Addr) (hSf : S ∉ fp) (ks : List (Addr × List Int)) (hn : n = ks.length) (hfew : Few ks) (hval : ∀ i v, Pv i v → ∃ p, ks[i]? = some p ∧ v = .ref p.1)
    (h0 : Heap) (hk : ∀ p ∈ ks, IsT P w h0 p.2 p.1) (hS0 : h0.get? S = none) (hw0 : ∀ b ∈ wr, h0.get? b = none) (hu : A.in1.units < cLine) :
    ∀ (k i : Nat) (s : Shared), n - i = k → i ≤ n → St i s → (∀ b o, h0.get? b = some o → s.heap.get? b = some o) → (∃ L es ep t, SetTR P w s.heap S L es ep t ∧ Got ks i L) →
      (∀ s' L es ep t, Moved (S :: wr) G s s' → SetTR P w s'.heap S L es ep t → Got ks n L → (∀ b o, h0.get? b = some o → s'.heap.get? b = some o) → R (.ok (.ret .none)) s') →
      codeAny (model P w) A (.builtin "set.update.loop" ⟨[.ref S, .ref I], []⟩) R s := by
  have hSw : S ∉ wr := fun h => hSf (W.sub _ h)
  have up : ∀ b ∈ wr, b ∈ S :: wr := fun b hb => List.mem_cons_of_mem _ hb
  have stay : ∀ {a b : Shared}, Moved wr G a b → (∀ c o, h0.get? c = some o → a.heap.get? c = some o) → ∀ c o, h0.get? c = some o → b.heap.get? c = some o := fun hm q c o e =>
    hm.heap c o (fun z => by rw [hw0 c z] at e; cases e) (q c o e)
  intro k
  induction k with
  | zero =>
    intro i s hk' hi hst q0 ⟨L, es, ep, t, hS, g⟩ hR
    obtain rfl : i = n := by omega
    refine codeAny_builtin F.entry_set_update_loop ?_
    rw [Around.under_plainId F.plain_set_update_loop _]
    show wpAny _ A.in1 (pyNext (.ref I) >>= _) _ _ s
    refine wpAny_bind (W.done s _ _ hst fun s' hm => ?_)
    show wpAny _ A.in1 (ret Value.none) _ _ s'
    have q1 := stay hm q0
    exact wpAny_pure (hR s' L es ep t (hm.mono up) (hS.keep (fun o e => hm.heap S o hSw e) fun p hp => isT_keep (hk p (List.mem_of_mem_take (g.sub p hp))) q1) g q1)
  | succ k ih =>
    intro i s hk' hi hst q0 ⟨L, es, ep, t, hS, g⟩ hR
    have hlt : i < n := by omega
    refine codeAny_builtin F.entry_set_update_loop ?_
    rw [Around.under_plainId F.plain_set_update_loop _]
    show wpAny _ A.in1 (pyNext (.ref I) >>= _) _ _ s
    refine wpAny_bind (W.item i s _ _ hlt hst fun v s' hP hst' hm => ?_)
    obtain ⟨p, hp, rfl⟩ := hval i v hP
    have q1 := stay hm q0
    have inks : ∀ p ∈ L, p ∈ ks := fun p hp => List.mem_of_mem_take (g.sub p hp)
    have hS1 : SetTR P w s'.heap S L es ep t := hS.keep (fun o e => hm.heap S o hSw e) fun q hq => isT_keep (hk q (inks q hq)) q1
    have hx : IsT P w s'.heap p.2 p.1 := isT_keep (hk p (List.mem_of_getElem? hp)) q1
    show wpAny _ A.in1 (holding [Value.ref p.1] (setAdd S (.ref p.1)) >>= _) _ _ s'
    refine wpAny_bind (wpAny_holding ?_)
    unfold setAdd
    refine wpAny_holding ?_
    refine wpAny_bind (wpAny_pyHash_tuple hu hx ?_)
    refine add_at (s := { s' with toks := s'.toks + (p.2.length + 1) }) hS1 hx hu (hfew L hS.nd inks) fun b h' L' es' ep' t' hsb hS2 c1 c2 => ?_
    have g1 : Got ks (i + 1) L' := by
      rcases Classical.em (p.2 ∈ L.map (·.2)) with c | c
      · rw [c1 c]; exact g.same hp c
      · exact g.more hp (c2 c)
    have q2 : ∀ b o, h0.get? b = some o → h'.get? b = some o := fun b o e => (hsb.2 b (fun z => by rw [z, hS0] at e; cases e)).trans (q1 b o e)
    refine wpAny_pure ⟨plainId_quiet F.plain_set_update_loop _, ih (i + 1) _ (by omega) hlt (W.frame _ s' _ _ hst' (Nat.le_add_right _ _) fun b hb o e => ?_) q2 ⟨L', es', ep', t', hS2, g1⟩ fun s2 L2 es2 ep2 t2 m2 r2 g2 q3 => ?_⟩
    · rw [hsb.2 b (fun h : b = S => hSf (by rw [← h]; exact hb))]; exact e
    · refine hR s2 L2 es2 ep2 t2 (Moved.trans W.gtrans ((hm.mono up).then_heap (Nat.le_add_right _ _) fun b o hb e => ?_) m2) r2 g2 q3
      rw [hsb.2 b (fun h : b = S => hb (by rw [h]; exact List.mem_cons_self))]; exact e
theorem call_set_tupT {l : Addr} {items : Array Value} (ks : List (Addr × List Int)) {Q : Value → Shared → Prop} (hh : A.handled = none) (hl : s.heap.IsTuple l items) (hit : items.toList = ks.map fun p => Value.ref p.1)
    (hk : ∀ p ∈ ks, IsT P w s.heap p.2 p.1) (hfew : Few ks) (hu : A.units + 3 < cLine)
    (h : ∀ (h' : Heap) (tk : Nat) L es ep t, SetTR P w h' s.heap.objs.size L es ep t → Got ks ks.length L → (∀ b o, s.heap.get? b = some o → h'.get? b = some o) → Q (.ref s.heap.objs.size) { s with heap := h', toks := tk }) :
    wpAny (model P w) A (call (.type "set") [.ref l]) Q E s := by
  have hisz : items.size = ks.length := by
    have q := congrArg List.length hit
    rw [Array.length_toList, List.length_map] at q
    exact q
  obtain ⟨c, tl, hmro⟩ := F.called_set.mro
  have hmade := F.called_set.made
  have hsub := F.called_set.sub
  refine wpAny_call (codeAny_of_tree ?_)
  show wpAny _ _ (callAny (.type "set") _) _ _ _
  refine wpAny_pure ⟨Code.quiet_builtin _ (by decide +kernel), ?_⟩
  refine codeAny_builtin F.entry_type_call ?_
  rw [Around.under_plain (weight_type_call_type "set" [.ref l] []) rfl]
  have h1 := F.called_set.notType
  have h2 := F.called_set.canCreate
  have hct := F.typeCall_set_1 (.ref l)
  repeat (any_goals (first | assumption | wp_step))
  refine codeAny_mono (LP.set_new1 (.ref l) (E := E) (Q₁ := fun obj s₁ => obj = .ref s.heap.objs.size ∧ s₁ = { s with heap := s.heap.push (LP.freshSet w) }) ⟨rfl, rfl⟩) ?_
  intro r s₁ hr
  cases r with
  | error e => exact hr
  | ok fl =>
    cases fl with
    | ret obj =>
      obtain ⟨rfl, rfl⟩ := hr
      have hS : (s.heap.push (LP.freshSet w)).get? s.heap.objs.size = some (LP.freshSet w) := Heap.get?_push_size _ rfl
      have hT : Shared.TypeIs { s with heap := s.heap.push (LP.freshSet w) } (.ref s.heap.objs.size) "set" := ⟨_, hS, rfl⟩
      have hli := F.called_set.init.lookup
      have hbi := F.called_set.init.bind (.ref s.heap.objs.size)
      repeat (any_goals (first | assumption | wp_step))
      refine codeAny_mono (codeAny_call_builtin (R := wants (fun r s₂ => r = .none ∧ ∃ h' tk L es ep t, s₂ = { s with heap := h', toks := tk } ∧ SetTR P w h' s.heap.objs.size L es ep t ∧ Got ks ks.length L ∧
          (∀ b o, s.heap.get? b = some o → h'.get? b = some o)) E)
        F.called_set.init.plain F.entry_set_init (check_set_init_1 hT ?_)) ?_
      · obtain ⟨ol, hol, hcl, nl, hdl⟩ := hl
        obtain ⟨ocls, odict, odata, oslots⟩ := ol
        simp only at hcl hdl
        subst hcl
        subst hdl
        have hol' : (s.heap.push (LP.freshSet w)).get? l = some { cls := .type "tuple", dict := odict, data := .seq items nl, slots := oslots } := Heap.get?_push_of_some _ hol
        have hsls := F.sub_tuple_set
        have hslf := F.sub_tuple_frozenset
        have hne : (Value.type "tuple" == Value.type "dict") = false := by decide
        have hl1 : (s.heap.push (LP.freshSet w)).IsTuple l items := ⟨_, hol', rfl, nl, rfl⟩
        unfold Builtin.«set.__init__» noKeywords Builtin.Frozenset.updateFrom
        generalize hPI : pyIter = PI
        wp_walk
        subst hPI
        refine wpAny_pyIter_tuple hl1 ?_
        refine wpAny_bind (wpAny_runValue ?_)
        have hlS : l < s.heap.objs.size := Heap.lt_size hol
        have hh3 : A.in1.in1.in1.handled = none := by simp [hh]
        have hsz : (s.heap.push (LP.freshSet w)).objs.size = s.heap.objs.size + 1 := Heap.size_push _ _
        have hneI : l ≠ (s.heap.push (LP.freshSet w)).objs.size := by
          rw [hsz]
          exact Nat.ne_of_lt (Nat.lt_succ_of_lt hlS)
        have hSf : s.heap.objs.size ∉ [(s.heap.push (LP.freshSet w)).objs.size, l] := by
          rw [hsz]
          simp only [List.mem_cons, List.not_mem_nil, or_false, not_or]
          exact ⟨Nat.ne_of_lt (Nat.lt_succ_self _), Nat.ne_of_gt hlS⟩
        have hval : ∀ (i : Nat) (v : Value), items[i]? = some v → ∃ p, ks[i]? = some p ∧ v = .ref p.1 := fun i v hv => by
          have q : items.toList[i]? = some v := by rw [Array.getElem?_toList]; exact hv
          rw [hit, List.getElem?_map] at q
          obtain ⟨p, hp, e⟩ := Option.map_eq_some_iff.mp q
          exact ⟨p, hp, e.symm⟩
        have above : ∀ b, s.heap.objs.size ≤ b → s.heap.get? b = none := fun b hb => by
          cases q : s.heap.get? b with
          | none => rfl
          | some o => exact absurd (Nat.lt_of_lt_of_le (Heap.lt_size q) hb) (Nat.lt_irrefl _)
        refine fill ((Walks.tuple hh3 _ l hneI items).toS) s.heap.objs.size hSf ks hisz hfew hval s.heap hk (above _ (Nat.le_refl _)) (fun b hb => above b (by
            rw [List.mem_singleton.mp hb, hsz]
            exact Nat.le_succ _)) hu (items.size - 0) 0 _ (by omega) (Nat.zero_le _)
          ⟨⟨_, Heap.get?_push_size _ rfl, rfl, rfl⟩, (hl1.push _)⟩ (fun b o e => Heap.get?_push_of_some _ (Heap.get?_push_of_some _ e)) ?hS0 ?hR
        case hS0 =>
          exact ⟨[], #[], 0, _, setTR_fresh (Heap.get?_push_of_some _ hS), Got.zero ks⟩
        case hR =>
          intro s' L es ep t hm hS' g' hkp
          obtain ⟨h', g2, d', tk', os'⟩ := s'
          have eg : g2 = s.gens := hm.gens
          have ed : d' = s.drawn := hm.drawn
          have eo : os' = s.os := hm.os
          subst eg
          subst ed
          subst eo
          show wpAny _ _ _ _ _ _
          refine wpAny_pure ?_
          show wpAny _ _ (ret Value.none) _ _ _
          rw [hisz] at g'
          exact wpAny_pure ⟨rfl, h', tk', L, es, ep, t, rfl, hS', g', hkp⟩
      · intro r₂ s₂ hr₂
        cases r₂ with
        | error e => exact hr₂
        | ok fl₂ =>
          cases fl₂ with
          | ret r =>
            obtain ⟨rfl, h', tk, L, es, ep, t, rfl, hS', g', hk'⟩ := hr₂
            repeat (any_goals (first | assumption | wp_step))
            exact h _ _ _ _ _ _ hS' g' hk'
          | _ => exact hr₂.elim
    | _ => exact hr.elim
end
/-- set(t), t a tuple of tuples of ints -/
def rSetTT (K : PySem.W.Frag) (P : Program) (w : World) : List V → Hp → VK → Prop := fun xs H Q => ∃ (l : Addr) (ks : List (Addr × List Int)), xs = [V.ref l] ∧ SqT K H l (ks.map fun p => V.ref p.1) ∧ (∀ p ∈ ks, SqT K H p.1 (p.2.map V.int)) ∧ Few ks ∧
  ∀ a L, H a = none → (∀ p ∈ L, p ∈ ks) → (∀ p ∈ ks, p.2 ∈ L.map (·.2)) → Q (.ref a) (upd H a (SetTO P w a L))
section
variable {X : Cx}
theorem cr_setTT {K : PySem.W.Frag} {P : Program} {w : World} (hK : X.K = K) (hP : X.prog = P) (hw : X.w = w) (hc : X.calm = true) (hu : X.A.units + 64 < cLine) : CallR X (.type "set") (rSetTT K P w) := by
  subst hK hP hw
  intro pins s σ H xs us Q I r h
  obtain ⟨l, ks, rfl, hl, hk, hf, q⟩ := h
  rw [Vals.ref1 r]
  obtain ⟨its, rv, pl, hz⟩ := I.tuple hl
  have hn : H s.heap.objs.size = none := I.hok.fresh (Nat.le_refl _)
  refine call_set_tupT (P := X.prog) (w := X.w) ks (I.ok.hd hc) pl (by simpa using refs_of_vals rv) (fun p hp => I.isT (hk p hp)) hf (by omega) fun h' tk L es ep t R g k => ?_
  refine ⟨.ref s.heap.objs.size, upd H s.heap.objs.size (SetTO X.prog X.w s.heap.objs.size L), I.laid (t' := tk) k (Nat.le_refl _) (setTO_new R.t0), rfl, q _ L hn (fun p hp => ?_) fun p hp => ?_⟩
  · exact List.mem_of_mem_take (g.sub p hp)
  · exact g.all p (by rw [List.take_length]; exact hp)
end
/-! ### len(set(list of ints)) -/
def dd (ns : List Int) : List Int := firstMet (fun i => ns.getD i 0) ns.length
theorem dd_mem (ns : List Int) (k : Int) : k ∈ dd ns ↔ k ∈ ns := by
  have e : (List.range ns.length).map (fun i => ns.getD i 0) = ns := by
    refine List.ext_getElem (by simp) fun i h1 h2 => ?_
    rw [List.getElem_map, List.getElem_range, List.getD_eq_getElem?_getD, List.getElem?_eq_getElem h2]
    rfl
  have h := firstMet_any (fun i => ns.getD i 0) ns.length k
  rw [e] at h
  have z : ∀ l : List Int, l.any (· == k) = true ↔ k ∈ l := fun l => by
    rw [List.any_eq_true]
    exact ⟨fun ⟨x, hx, e⟩ => by rw [← eq_of_beq e]; exact hx, fun hk => ⟨k, hk, beq_self_eq_true k⟩⟩
  rw [← z, ← z]
  show (firstMet (fun i => ns.getD i 0) ns.length).any (· == k) = true ↔ _
  rw [h]
theorem first_same {val : Nat → Int} {c : Int} : ∀ {i : Nat}, (∀ j, j < i → val j = c) → 0 < i → firstMet val i = [c]
  | 0, _, h => absurd h (Nat.lt_irrefl _)
  | i + 1, h, _ => by
    have e := h i (Nat.lt_succ_self i)
    rw [firstMet_succ, e]
    cases i with
    | zero => rfl
    | succ i =>
      rw [first_same (fun j hj => h j (Nat.lt_succ_of_lt hj)) (Nat.succ_pos i)]
      unfold step_dedup
      rw [if_pos (by simp)]
theorem dd_same {ns : List Int} {c : Int} (h : ∀ a ∈ ns, a = c) (n : 0 < ns.length) : (dd ns).length = 1 := by
  have e : dd ns = [c] := first_same (fun j hj => by
    show ns.getD j 0 = c
    rw [List.getD_eq_getElem?_getD, List.getElem?_eq_getElem hj]
    exact h _ (List.getElem_mem hj)) n
  rw [e]
  rfl
theorem dd_other {ns : List Int} {a b : Int} (ha : a ∈ ns) (hb : b ∈ ns) (n : a ≠ b) : (dd ns).length ≠ 1 := fun e => by
  obtain ⟨c, hc⟩ := List.length_eq_one_iff.mp e
  have h1 := (dd_mem ns a).mpr ha
  have h2 := (dd_mem ns b).mpr hb
  rw [hc, List.mem_singleton] at h1 h2
  exact n (h1.trans h2.symm)
def tLenSetN (K : PySem.W.Frag) (ta : TE) : TE := fun σ H Q => ta σ H fun x H1 => ∃ (l : Addr) (ns : List Int), x = .ref l ∧ SqL K H1 l (ns.map V.int) ∧ ns.length ≤ 4000 ∧ Q (.int ((dd ns).length : Nat)) H1
theorem tLenSetN_eq {K : PySem.W.Frag} {ta : TE} {σ : L2.St} {H : Hp} {Q : VK} : tLenSetN K ta σ H Q = ta σ H fun x H1 => ∃ (l : Addr) (ns : List Int), x = .ref l ∧ SqL K H1 l (ns.map V.int) ∧ ns.length ≤ 4000 ∧ Q (.int ((dd ns).length : Nat)) H1 := rfl
theorem pe_lenSetN {X : Cx} {K : PySem.W.Frag} {a : Expr} {ta : TE} {p p2 q pos : Pos} (hK : X.K = K) (hg : Gl X "len") (hm : X.mg "len" = none) (hg2 : Gl X "set") (hm2 : X.mg "set" = none) (ha : PE X a ta) (hc : X.calm = true := by rfl)
    (na : starEach [a] X.env = (false, eval a X.env) :: starEach [] X.env := by rfl) : PE X (.Call (.Name "len" p) [.Call (.Name "set" p2) [a] [] q] [] pos) (tLenSetN K ta) := by
  subst hK
  refine ⟨fun pins s σ H Q I h => ?_⟩
  refine Call_ (ld_blt I hg hm boot_len ?_)
  refine PyProof.Rows.callWith_builtin1 (PyProof.Rows.args_cons ?_ rfl) rfl rfl
  refine Call_ (ld_blt I hg2 hm2 boot_set ?_)
  refine PyProof.Rows.callWith_type1 (PyProof.Rows.args_cons (thn (ha.run pins s σ H _ I h) fun v s1 ⟨x, H1, I1, r1, q1⟩ => PyProof.Rows.args_nil ?_) na) na rfl
  obtain ⟨l, ns, rfl, hq, hl, q1⟩ := q1
  cases r1
  obtain ⟨its, r, pl, hz⟩ := I1.list hq
  have hlen : its.toArray.size = ns.length := by rw [List.size_toArray, ← r.length, List.length_map]
  refine call_set_list (I1.ok.hd hc) pl.isList (by simpa using RZ.intsAre_vals r) (by rw [hlen]; unfold scanBound; omega) fun h' tk hS hk => ?_
  refine PyProof.Rows.args_nil ?_
  rw [hlen] at hS
  obtain ⟨o, es, ep, t, ho, hex, hd, _, _, _, hf, hn⟩ := hS
  have hb : (dd ns).length ≤ ns.length := firstMet_length_le _ _
  have I2 : Inv X pins σ H1 { s1 with heap := h', toks := tk } := I1.kept fun b o e => hk b o (Heap.lt_size e) e
  have hn' : es.size = (dd ns).length := hn
  exact call_len_set ho hex hd hf (by rw [hn']; omega) ⟨.int (dd ns).length, H1, I2.tok _, ⟨_, by rw [hn']⟩, q1⟩
end LPST

set_option Elab.async false
set_option linter.all false
set_option maxRecDepth 100000
set_option maxHeartbeats 4000000
/-! LPMX: dicts whose keys are tuples and others beside them. -/
namespace LPMX
open PySem PySem.Spec
section
variable {prog : Program} {w : World} {A : Around} {E : Value → Shared → Prop} {s : Shared}
/-- an entry: its key, the key's value, the value -/
abbrev En := NestedKey × Value × Value
def entN (w : World) (x : En) : DictEntry := ⟨x.1.hash w, x.2.1, x.2.2⟩
/-- the first entry with a key -/
def atN (xs : List En) (k : NestedKey) : Option (Value × Value) := (xs.find? fun x => decide (x.1 = k)).map (·.2)
theorem atN_of {xs : List En} (hn : (xs.map (·.1)).Nodup) : ∀ {i : Nat} {k : NestedKey} {p : Value × Value}, xs[i]? = some (k, p) → atN xs k = some p := by
  induction xs with
  | nil => intro i k p h; cases h
  | cons x xs ih =>
    intro i k p h
    obtain ⟨n1, n2⟩ := List.nodup_cons.mp hn
    unfold atN
    rw [List.find?_cons]
    cases i with
    | zero =>
      cases h
      rw [decide_eq_true rfl]
      rfl
    | succ i =>
      have hm : k ∈ xs.map (·.1) := List.mem_map.mpr ⟨_, List.mem_of_getElem? h, rfl⟩
      rw [decide_eq_false (fun e => n1 (by rw [← e] at hm; exact hm))]
      exact ih n2 h
theorem atN_none {xs : List En} {k : NestedKey} (h : ∀ (j : Nat) (p : Value × Value), xs[j]? ≠ some (k, p)) : atN xs k = none := by
  have : (xs.find? fun x => decide (x.1 = k)) = none := by
    rw [List.find?_eq_none]
    intro x hx hk
    obtain ⟨j, hj⟩ := List.mem_iff_getElem?.mp hx
    exact h j x.2 (by rw [hj, ← of_decide_eq_true hk])
  unfold atN
  rw [this]
  rfl
theorem idx_one {xs : List En} (hn : (xs.map (·.1)).Nodup) {i j : Nat} {k : NestedKey} {p q : Value × Value} (hi : xs[i]? = some (k, p)) (hj : xs[j]? = some (k, q)) : i = j := by
  have hi' : (xs.map (·.1))[i]? = some k := by rw [List.getElem?_map, hi]; rfl
  have hj' : (xs.map (·.1))[j]? = some k := by rw [List.getElem?_map, hj]; rfl
  exact (List.getElem?_inj (List.getElem?_eq_some_iff.mp hi').1 hn).mp (hi'.trans hj'.symm)
theorem ent_at {es : Array DictEntry} {xs : List En} (he : es.toList = xs.map (entN w)) (j : Nat) : es[j]? = (xs[j]?).map (entN w) := by
  rw [← Array.getElem?_toList, he, List.getElem?_map]
theorem ent_size {es : Array DictEntry} {xs : List En} (he : es.toList = xs.map (entN w)) : es.size = xs.length := by
  rw [← Array.length_toList, he, List.length_map]
theorem tells_not {u : Value} {stored : List Value} {Q : Bool → Shared → Prop} (hu : QuietAt prog w 8 s u) (hst : ∀ v ∈ stored, QuietAt prog w 8 s v) (h : Q false s) : wpAny (model prog w) A (tableMayTell u stored) Q E s := by
  unfold tableMayTell
  split
  · exact wpAny_pure h
  · refine wpAny_bind (hu _ _ _ ?_)
    simp only [Bool.not_true, Bool.false_eq_true, if_false]
    refine wpAny_bind ?_
    refine wpAny_forIn_list _ (fun rest r s' => s' = s ∧ r = (none, ()) ∧ ∀ v ∈ rest, QuietAt prog w 8 s v) _ ?_ ?_ _ _ ⟨rfl, rfl, hst⟩
    · rintro x rest r s' ⟨rfl, rfl, hr⟩
      refine wpAny_bind (hr x List.mem_cons_self _ _ _ ?_)
      simp only [Bool.not_true, Bool.false_eq_true, if_false]
      exact wpAny_pure ⟨rfl, rfl, fun v hv => hr v (List.mem_cons_of_mem _ hv)⟩
    · rintro r s' ⟨rfl, rfl, _⟩
      exact wpAny_pure h
theorem ite_ {α : Type} {c : Prop} [Decidable c] {X Y : Sem α} {Q : α → Shared → Prop} (h1 : c → wpAny (model prog w) A X Q E s) (h2 : ¬ c → wpAny (model prog w) A Y Q E s) : wpAny (model prog w) A (if c then X else Y) Q E s := by
  by_cases h : c
  · rw [if_pos h]
    exact h1 h
  · rw [if_neg h]
    exact h2 h
/-- what is told of the entries ahead -/
def Seen (xs : List En) (k : NestedKey) (i : Nat) (hit : Option Nat) : Prop := (hit = none ∧ ∀ j p, j < i → xs[j]? ≠ some (k, p)) ∨ ∃ j p, hit = some j ∧ j < i ∧ xs[j]? = some (k, p)
theorem Seen.skip {xs : List En} {k : NestedKey} {i x : Nat} {hit : Option Nat} (h : Seen xs k i hit) (hix : i ≤ x) (no : ∀ j, i ≤ j → j < x → ∀ p, xs[j]? ≠ some (k, p)) : Seen xs k x hit := by
  rcases h with ⟨h0, hno⟩ | ⟨j, p, h1, hji, hj⟩
  · refine .inl ⟨h0, fun j p hjx hj => ?_⟩
    rcases Nat.lt_or_ge j i with h | h
    · exact hno j p h hj
    · exact no j h hjx p hj
  · exact .inr ⟨j, p, h1, by omega, hj⟩
theorem Seen.other {xs : List En} {k k' : NestedKey} {x : Nat} {q : Value × Value} {hit : Option Nat} (h : Seen xs k x hit) (hx : xs[x]? = some (k', q)) (ne : ¬ k' = k) : Seen xs k (x + 1) hit := by
  refine h.skip (Nat.le_succ x) fun j h1 h2 p hj => ?_
  have e : j = x := by omega
  rw [e, hx] at hj
  cases hj
  exact ne rfl
theorem find_ {d : Addr} {o : Obj} {es : Array DictEntry} {ep : Nat} {xs : List En} {k : NestedKey} {u : Value} {Q : Option Nat → Shared → Prop} (hu : A.units + 8 < cLine) (hk : NestedIs s.heap k u) (kd : k.depth ≤ 8)
    (ho : s.heap.get? d = some o) (hd : o.data = .dict es ep) (he : es.toList = xs.map (entN w)) (his : ∀ x ∈ xs, NestedIs s.heap x.1 x.2.1 ∧ x.1.depth ≤ 8) (hn : (xs.map (·.1)).Nodup)
    (hstr : ∀ z t, u = .str z t → (es.all fun e => isExactStrKey e.key) = false)
    (hnone : (∀ (j : Nat) (p : Value × Value), xs[j]? ≠ some (k, p)) → Q none s) (hsome : ∀ (j : Nat) (p : Value × Value), xs[j]? = some (k, p) → Q (some j) s) :
    wpAny (model prog w) A (dictFind d u (k.hash w)) Q E s := by
  have hsz : es.size = xs.length := ent_size he
  have haskey : ∀ (j : Nat) (p : Value × Value), xs[j]? = some (k, p) → ((es[j]?.map (·.hash)) == some (k.hash w)) = true := by
    intro j p hj
    rw [ent_at he j, hj]
    simp [entN]
  have hmem : ∀ e ∈ es, ∃ x ∈ xs, e = entN w x := by
    intro e hin
    have : e ∈ xs.map (entN w) := he ▸ Array.mem_toList_iff.mpr hin
    obtain ⟨x, hx, rfl⟩ := List.mem_map.mp this
    exact ⟨x, hx, rfl⟩
  have hany : ¬ (es.any fun e => e.key == u && e.hash != k.hash w) = true := by
    rw [← Array.any_toList, List.any_eq_true]
    rintro ⟨e, hin, hc⟩
    obtain ⟨x, hx, rfl⟩ := hmem e (Array.mem_toList_iff.mp hin)
    simp only [entN, Bool.and_eq_true, beq_iff_eq, bne_iff_ne, ne_eq] at hc
    obtain ⟨hxa, hne⟩ := hc
    have := (his x hx).1
    rw [hxa] at this
    exact hne (by rw [NestedIs.inj _ _ _ this hk])
  have hq : QuietAt prog w 8 s u := quiet_key k u 8 s hk kd
  have hst : ∀ v ∈ (placesWithHash es.size (fun i => es[i]?.map (·.hash)) (k.hash w)).filterMap (fun i => es[i]?.map (·.key)), QuietAt prog w 8 s v := by
    intro v hv
    obtain ⟨i, _, hi⟩ := List.mem_filterMap.mp hv
    cases hei : es[i]? with
    | none => rw [hei] at hi; cases hi
    | some e =>
      rw [hei] at hi
      obtain rfl : e.key = v := by simpa using hi
      obtain ⟨x, hx, rfl⟩ := hmem e (Array.mem_of_getElem? hei)
      exact quiet_key _ _ 8 s (his x hx).1 (his x hx).2
  have same : ∀ (k' : NestedKey) (kv : Value), NestedIs s.heap k' kv → k'.depth ≤ 8 → ∀ {Q' : Bool → Shared → Prop}, Q' (decide (k' = k)) s → wpAny (model prog w) A (eqBool kv u) Q' E s := by
    intro k' kv h1 h2 Q' h
    exact eqAt_key k' k A s _ _ h1 hk (by omega) _ _ _ _ (by rw [← NestedKey.decide_eq]; exact h)
  obtain ⟨Pv, hPv⟩ : ∃ Pv : List Nat → Option Nat → Prop, ∀ r h, Pv r h ↔ ∃ i, r = (List.range' i (es.size - i)).filter (fun i => (es[i]?.map (·.hash)) == some (k.hash w)) ∧ i ≤ es.size ∧ Seen xs k i h := ⟨_, fun _ _ => Iff.rfl⟩
  have ini : Pv (placesWithHash es.size (fun i => es[i]?.map (·.hash)) (k.hash w)) none := (hPv _ _).mpr ⟨0, by rw [placesWithHash, List.range_eq_range', Nat.sub_zero], Nat.zero_le _, .inl ⟨rfl, fun _ _ h => absurd h (Nat.not_lt_zero _)⟩⟩
  have stp : ∀ x rest hit, Pv (x :: rest) hit → ∃ (hk' : Int) (kv v' : Value) (b : Bool), es[x]? = some ⟨hk', kv, v'⟩ ∧ (hk' == k.hash w) = true ∧ (∀ {Q' : Bool → Shared → Prop}, Q' b s → wpAny (model prog w) A (eqBool kv u) Q' E s) ∧ (b = false → Pv rest hit) ∧ (b = true → hit = none ∧ Pv rest (some x) ∧ Q (some x) s) := by
    intro x rest hit h
    obtain ⟨i, hr, hi, hH⟩ := (hPv _ _).mp h
    obtain ⟨hix, hxn, hpx, hskip, hrest⟩ := filter_range'_cons _ _ _ _ _ hr.symm
    have hlt : x < es.size := by omega
    have hrest' : rest = (List.range' (x + 1) (es.size - (x + 1))).filter (fun i => (es[i]?.map (·.hash)) == some (k.hash w)) := by rw [hrest]; congr 2; omega
    obtain ⟨⟨k', kv, v'⟩, hkv⟩ : ∃ y, xs[x]? = some y := ⟨xs[x]'(by rw [← hsz]; exact hlt), List.getElem?_eq_getElem _⟩
    have hex : es[x]? = some ⟨k'.hash w, kv, v'⟩ := by rw [ent_at he x, hkv]; rfl
    have hHx : Seen xs k x hit := hH.skip hix fun j h1 h2 p hj => by
      have := hskip j h1 h2
      rw [haskey j p hj] at this
      exact absurd this (by decide)
    refine ⟨_, kv, v', decide (k' = k), hex, ?_, fun {Q'} h => same k' kv (his _ (List.mem_of_getElem? hkv)).1 (his _ (List.mem_of_getElem? hkv)).2 h, fun ne => (hPv _ _).mpr ⟨x + 1, hrest', hlt, hHx.other hkv (of_decide_eq_false ne)⟩, fun e => ?_⟩
    · rw [hex] at hpx
      simpa using hpx
    · have e := of_decide_eq_true e
      subst e
      rcases hHx with ⟨h0, _⟩ | ⟨j, p, _, hjx, hj⟩
      · exact ⟨h0, (hPv _ _).mpr ⟨x + 1, hrest', hlt, .inr ⟨x, _, rfl, Nat.lt_succ_self x, hkv⟩⟩, hsome x _ hkv⟩
      · exact absurd (idx_one hn hj hkv) (by omega)
  have fin : ∀ hit, Pv [] hit → Q hit s := by
    intro hit h
    obtain ⟨i, hr, hi, hH⟩ := (hPv _ _).mp h
    have hall : ∀ j, i ≤ j → j < es.size → ((es[j]?.map (·.hash)) == some (k.hash w)) = false := by
      intro j h1 h2
      have := List.filter_eq_nil_iff.mp hr.symm j (List.mem_range'_1.mpr ⟨h1, by omega⟩)
      simpa using this
    rcases hH with ⟨rfl, hno⟩ | ⟨j, p, rfl, _, hj⟩
    · refine hnone fun j p hj => ?_
      rcases Nat.lt_or_ge j i with h | h
      · exact hno j p h hj
      · have hjl : j < es.size := by
          rw [hsz]
          exact (List.getElem?_eq_some_iff.mp hj).1
        have := hall j h hjl
        rw [haskey j p hj] at this
        exact absurd this (by decide)
    · exact hsome j p hj
  clear hPv haskey hnone hsome hmem hsz his he hn same
  unfold dictFind
  try with_reducible refine wpAny_holding ?_
  refine wpAny_bind (wpAny_dictEntries ho hd ?_)
  have fas : ∀ {X Y : Sem (Option Nat)} {z : Str} {t : Tok}, u = .str z t → wpAny (model prog w) A Y Q E s → wpAny (model prog w) A (if (es.all fun e => isExactStrKey e.key) = true then X else Y) Q E s := fun e h => by
    rw [hstr _ _ e, if_neg (by decide)]
    exact h
  cases hk
  all_goals dsimp only
  all_goals first | refine fas rfl ?_ | skip
  all_goals refine ite_ (fun hc => ?_) (fun hc => ?_)
  all_goals first
  | (refine absurd hc ?_
     simp [carriedByValue]
     done)
  | (unfold dictWalkPlain
     refine wpAny_bind ?_
     refine wpAny_forIn_list _ (fun rest b s' => s' = s ∧ b = (none, ()) ∧ Pv rest none) _ ?_ ?_ _ _ ⟨rfl, rfl, ini⟩
     · rintro x rest b s' ⟨rfl, rfl, hp⟩
       obtain ⟨hk', kv, v', b, h3, h4, sm, h5, h6⟩ := stp x rest none hp
       rw [h3]
       dsimp only
       rw [if_pos h4]
       refine wpAny_bind (wpAny_dictEpoch ho hd (wpAny_bind (sm (wpAny_bind (wpAny_dictEpoch ho hd ?_)))))
       show wpAny _ _ (if (ep != ep) = true then _ else _) _ E _
       rw [if_neg (by simp)]
       cases b with
       | true =>
         obtain ⟨_, h7, h8⟩ := h6 rfl
         rw [if_pos rfl]
         exact wpAny_bind (wpAny_rule (wpAny_pure (wpAny_pure h8)))
       | false =>
         rw [if_neg (by decide)]
         exact wpAny_bind (wpAny_rule (wpAny_pure ⟨rfl, rfl, h5 rfl⟩))
     · rintro b s' ⟨rfl, rfl, hp⟩
       exact wpAny_pure (fin _ hp))
  | (try rw [if_neg hany]
     refine ite_ (fun hone => ?_) (fun hone => ?_)
     all_goals (first | refine wpAny_bind (wpAny_pure ?_) | refine wpAny_bind (tells_not hq hst ?_))
     all_goals rw [if_neg (by simp)]
     all_goals refine wpAny_bind ?_
     all_goals refine wpAny_forIn_list _ (fun rest b s' => s' = s ∧ ∃ hit, b = (none, hit) ∧ Pv rest hit) _ ?_ ?_ _ _ ⟨rfl, none, rfl, ini⟩
     all_goals first
       | (rintro ⟨b1, b2⟩ s' ⟨rfl, hit, e, hp⟩
          cases e
          exact wpAny_pure (fin _ hp))
       | (rintro x rest b s' ⟨rfl, hit, rfl, hp⟩
          obtain ⟨hk', kv, v', b, h3, h4, sm, h5, h6⟩ := stp x rest hit hp
          rw [h3]
          dsimp only
          rw [if_pos h4]
          refine wpAny_bind (wpAny_dictEpoch ho hd (wpAny_bind (sm (wpAny_bind (wpAny_dictEpoch ho hd ?_)))))
          show wpAny _ _ (if (ep != ep) = true then _ else _) _ E _
          rw [if_neg (by simp)]
          cases b with
          | true =>
            obtain ⟨rfl, h7, h8⟩ := h6 rfl
            rw [if_pos rfl]
            rw [if_neg (by simp)]
            refine wpAny_bind (wpAny_rule ?_)
            refine ite_ (fun _ => ?_) (fun _ => ?_)
            · exact wpAny_pure (wpAny_pure h8)
            · exact wpAny_pure ⟨rfl, some x, rfl, h7⟩
          | false =>
            rw [if_neg (by decide)]
            refine wpAny_bind (wpAny_rule ?_)
            rw [if_neg (by simp)]
            exact wpAny_pure ⟨rfl, hit, rfl, h5 rfl⟩))
/-- the table of a dict -/
structure Tab (w : World) (h : Heap) (d : Addr) (xs : List En) : Prop where
  ob : ∃ o es ep, h.get? d = some o ∧ o.ExactDict ∧ o.data = .dict es ep ∧ es.toList = xs.map (entN w)
  keys : ∀ x ∈ xs, NestedIs h x.1 x.2.1 ∧ x.1.depth ≤ 8
  nd : (xs.map (·.1)).Nodup
theorem Tab.typeIs {d : Addr} {xs : List En} (T : Tab w s.heap d xs) : s.TypeIs (.ref d) "dict" :=
  let ⟨o, _, _, ho, hc, _⟩ := T.ob
  ⟨o, ho, hc.1⟩
theorem isStr_shape {v : Value} {z : Str} (h : v.isStr z = true) : ∃ t, v = .str z t := by
  cases v with
  | str y t => exact ⟨t, by rw [eq_of_beq (show (y == z) = true from h)]⟩
  | _ => cases h
theorem find_any {d : Addr} {o : Obj} {es : Array DictEntry} {ep : Nat} {xs : List En} {k : NestedKey} {u : Value} {Q : Option Nat → Shared → Prop} (hu : A.units + 8 < cLine) (hk : NestedIs s.heap k u) (kd : k.depth ≤ 8)
    (ho : s.heap.get? d = some o) (hd : o.data = .dict es ep) (he : es.toList = xs.map (entN w)) (his : ∀ x ∈ xs, NestedIs s.heap x.1 x.2.1 ∧ x.1.depth ≤ 8) (hn : (xs.map (·.1)).Nodup)
    (hnone : (∀ (j : Nat) (p : Value × Value), xs[j]? ≠ some (k, p)) → Q none s) (hsome : ∀ (j : Nat) (p : Value × Value), xs[j]? = some (k, p) → Q (some j) s) :
    wpAny (model prog w) A (dictFind d u (k.hash w)) Q E s := by
  by_cases hs : (∃ z t, u = .str z t) ∧ (es.all fun e => isExactStrKey e.key) = true
  · obtain ⟨⟨z, t, rfl⟩, hall⟩ := hs
    obtain rfl : k = .text z := by
      cases hk
      rfl
    unfold dictFind
    try with_reducible refine wpAny_holding ?_
    refine wpAny_bind (wpAny_dictEntries ho hd ?_)
    dsimp only
    rw [if_pos hall]
    unfold foundByValue
    have known : ∀ j p, xs[j]? = some (NestedKey.text z, p) → ∃ e : DictEntry, es[j]? = some e ∧ e.key.isStr z = true := fun j p hj => by
      refine ⟨entN w (NestedKey.text z, p), by rw [ent_at he j, hj]; rfl, ?_⟩
      have h1 := (his _ (List.mem_of_getElem? hj)).1
      obtain ⟨kv, v⟩ := p
      have h2 : NestedIs s.heap (.text z) kv := h1
      show kv.isStr z = true
      cases h2
      exact beq_self_eq_true z
    cases hf : es.findIdx? (fun e => e.key.isStr z) with
    | none =>
      refine wpAny_pure (hnone fun j p hj => ?_)
      obtain ⟨e, h1, h2⟩ := known j p hj
      have := Array.findIdx?_eq_none_iff.mp hf e (Array.mem_of_getElem? h1)
      rw [h2] at this
      cases this
    | some i =>
      obtain ⟨hi, h2, _⟩ := Array.findIdx?_eq_some_iff_getElem.mp hf
      have h3 : es[i]? = some es[i] := Array.getElem?_eq_getElem hi
      dsimp only
      rw [h3]
      dsimp only
      obtain ⟨⟨k', kv, v'⟩, hkv⟩ : ∃ y, xs[i]? = some y := ⟨xs[i]'(by rw [← ent_size he]; exact hi), List.getElem?_eq_getElem _⟩
      have h4 : es[i] = entN w (k', kv, v') := by
        have := ent_at he i
        rw [h3, hkv] at this
        exact Option.some.inj this
      rw [h4] at h2 ⊢
      obtain ⟨t', ekv⟩ := isStr_shape (show kv.isStr z = true from h2)
      have h5 : NestedIs s.heap k' kv := (his _ (List.mem_of_getElem? hkv)).1
      have ek : k' = .text z := by
        rw [ekv] at h5
        cases h5
        rfl
      subst ek
      refine wpAny_bind (wpAny_dictEpoch ho hd (wpAny_bind (eqAt_key (.text z) (.text z) A s _ _ h5 hk (by show A.units + 0 < cLine; omega) _ _ _ _ (wpAny_bind (wpAny_dictEpoch ho hd ?_)))))
      show wpAny _ _ (if (ep != ep) = true then _ else _) _ E _
      rw [if_neg (by simp), NestedKey.beq_self, if_pos rfl]
      exact wpAny_bind (wpAny_rule (wpAny_pure (hsome i _ hkv)))
  · refine find_ hu hk kd ho hd he his hn (fun z t e => ?_) hnone hsome
    refine Bool.eq_false_iff.mpr fun h => hs ⟨⟨z, t, e⟩, h⟩
theorem get_ {d : Addr} {xs : List En} {k : NestedKey} {u : Value} {Q : Option Value → Shared → Prop} (hu : A.units + 8 < cLine) (T : Tab w s.heap d xs) (hk : NestedIs s.heap k u) (kd : k.depth ≤ 8)
    (h : Q ((atN xs k).map (·.2)) { s with toks := s.toks + k.draws }) : wpAny (model prog w) A (dictGet d u) Q E s := by
  obtain ⟨o, es, ep, ho, _, hd, he⟩ := T.ob
  unfold dictGet
  try with_reducible refine wpAny_holding ?_
  refine wpAny_bind (pyHash_key k u A s _ hk (by omega) (wpAny_bind (find_any (s := { s with toks := s.toks + k.draws }) hu hk kd ho hd he T.keys T.nd ?_ ?_)))
  · intro hno
    rw [atN_none hno] at h
    exact wpAny_pure h
  · intro j p hj
    rw [atN_of T.nd hj] at h
    refine wpAny_bind (wpAny_dictEntries (s := { s with toks := s.toks + k.draws }) ho hd ?_)
    rw [ent_at he j, hj]
    exact wpAny_pure h
theorem keys_keep {h h' : Heap} {d : Addr} {o : Obj} {es : Array DictEntry} {ep : Nat} (ho : h.get? d = some o) (hd : o.data = .dict es ep) (hs : Heap.SameBut d h h') {k : NestedKey} {u : Value} (x : NestedIs h k u) : NestedIs h' k u :=
  NestedIs.at (fun b ob vs n hb hc => by
    refine (hs.2 b fun e => ?_).trans hb
    subst e
    rw [ho] at hb
    cases hb
    rw [hd] at hc
    cases hc) k _ x
theorem put_ {d : Addr} {xs : List En} {k : NestedKey} {u v : Value} {Q : Unit → Shared → Prop} (hu : A.units + 8 < cLine) (T : Tab w s.heap d xs) (hk : NestedIs s.heap k u) (kd : k.depth ≤ 8) (hno : k ∉ xs.map (·.1)) (hsz : xs.length ≤ sizeLine)
    (hQ : ∀ h', Tab w h' d (xs ++ [(k, u, v)]) → Heap.SameBut d s.heap h' → Q () { s with heap := h', toks := s.toks + k.draws }) : wpAny (model prog w) A (dictSet d u v) Q E s := by
  obtain ⟨o, es, ep, ho, hc, hd, he⟩ := T.ob
  have no : ∀ (j : Nat) (p : Value × Value), xs[j]? ≠ some (k, p) := fun j p hj => hno (List.mem_map.mpr ⟨_, List.mem_of_getElem? hj, rfl⟩)
  unfold dictSet
  try with_reducible refine wpAny_holding ?_
  refine wpAny_bind (pyHash_key k u A s _ hk (by omega) ?_)
  unfold dictSetHashed
  try with_reducible refine wpAny_holding ?_
  refine wpAny_bind (find_any (s := { s with toks := s.toks + k.draws }) hu hk kd ho hd he T.keys T.nd ?_ fun j p hj => absurd hj (no j p))
  intro _
  refine wpAny_bind (wpAny_rule (wpAny_updateDictKeys (hz := by have e := ent_size he; omega) (s := { s with toks := s.toks + k.draws }) ho hd (hQ _ ⟨⟨_, _, ep + 1, Heap.get?_update_self _ ho (Obj.isFreed_of_dict (Obj.data_mapDictKeys hd _)), hc.mapDictKeys _, Obj.data_mapDictKeys hd _, ?_⟩, ?_, ?_⟩ (Heap.SameBut.update ..))))
  · simp [he, entN]
  · intro x hx
    rcases List.mem_append.mp hx with hx | hx
    · exact ⟨keys_keep ho hd (Heap.SameBut.update ..) (T.keys x hx).1, (T.keys x hx).2⟩
    · rw [List.mem_singleton.mp hx]
      exact ⟨keys_keep ho hd (Heap.SameBut.update ..) hk, kd⟩
  · rw [List.map_append, List.nodup_append]
    refine ⟨T.nd, by simp, ?_⟩
    intro x hx y hy
    simp only [List.map_cons, List.map_nil, List.mem_singleton] at hy
    subst hy
    exact fun e => hno (e ▸ hx)
theorem getItem_ {d : Addr} {xs : List En} {k : NestedKey} {u : Value} {p : Value × Value} {Q : Value → Shared → Prop} (hu : A.in1.units + 8 < cLine) (T : Tab w s.heap d xs) (hk : NestedIs s.heap k u) (kd : k.depth ≤ 8) (hp : atN xs k = some p)
    (h : Q p.2 { s with toks := s.toks + k.draws }) : wpAny (model prog w) A (getItem (.ref d) u) Q E s := by
  unfold getItem
  try with_reducible refine wpAny_holding ?_
  refine wpAny_bind (wpAny_sequenceKey T.typeIs (by decide) ?_)
  refine wpAny_bind (wpAny_callSpecial?_slot (name := Str.ofString "__getitem__") T.typeIs slot_dict_getitem
    (wpAny_call_entry slot_dict_getitem T.typeIs entry_dict_getitem ?_ (args_dict_getitem _ _)))
  show wpAny _ _ (dictGet d u >>= _) _ _ s
  refine wpAny_bind (get_ hu T hk kd ?_)
  rw [hp]
  exact wpAny_pure ⟨p.2, rfl, wpAny_pure h⟩
theorem setItem_ {d : Addr} {xs : List En} {k : NestedKey} {u v : Value} {Q : Unit → Shared → Prop} (hu : A.in1.units + 8 < cLine) (T : Tab w s.heap d xs) (hk : NestedIs s.heap k u) (kd : k.depth ≤ 8) (hno : k ∉ xs.map (·.1)) (hsz : xs.length ≤ sizeLine)
    (hQ : ∀ h', Tab w h' d (xs ++ [(k, u, v)]) → Heap.SameBut d s.heap h' → Q () { s with heap := h', toks := s.toks + k.draws }) : wpAny (model prog w) A (setItem (.ref d) u v) Q E s := by
  unfold setItem
  try with_reducible refine wpAny_holding ?_
  refine wpAny_bind (wpAny_sequenceKey T.typeIs (by decide) ?_)
  refine wpAny_bind (wpAny_callSpecial?_slot (name := Str.ofString "__setitem__") T.typeIs slot_dict_setitem
    (wpAny_call_entry slot_dict_setitem T.typeIs entry_dict_setitem ?_ (args_dict_setitem _ _ _)))
  show wpAny _ _ (Builtin.Dict.notOrdered "__setitem__" ⟨[.ref d, u, v], []⟩ >>= _) _ _ s
  refine wpAny_bind (wpAny_notOrdered_dict T.typeIs ?_)
  show wpAny _ _ (dictSet d u v >>= _) _ _ s
  exact wpAny_bind (put_ hu T hk kd hno hsz fun h' hm' hs' => wpAny_pure ⟨.none, rfl, wpAny_pure (hQ h' hm' hs')⟩)
end
/-! ### as tracked things -/
open L2
/-- a key of a tracked dict as such a key -/
def nk : Key → NestedKey
  | .inl i => .num i
  | .inr x => .text x
def nkT (ks : List Key) : NestedKey := .tup (ks.map nk)
theorem nk_inj {a b : Key} (h : nk a = nk b) : a = b := by
  cases a with
  | inl i => cases b with
    | inl j => injection h with h; rw [h]
    | inr y => cases h
  | inr x => cases b with
    | inl j => cases h
    | inr y => injection h with h; rw [h]
theorem nks_inj : ∀ {a b : List Key}, a.map nk = b.map nk → a = b
  | [], [], _ => rfl
  | [], _ :: _, e => by cases e
  | _ :: _, [], e => by cases e
  | x :: xs, y :: ys, e => by
    rw [List.map_cons, List.map_cons] at e
    injection e with e1 e2
    rw [nk_inj e1, nks_inj e2]
theorem nkT_inj {a b : List Key} (h : nkT a = nkT b) : a = b := by
  unfold nkT at h
  injection h with h
  exact nks_inj h
theorem hash_nks (P : Program) (w : World) : ∀ ks : List Key, NestedKey.hashes w (ks.map nk) = ks.map (mixKind P w).hash
  | [] => rfl
  | k :: ks => by
    rw [List.map_cons, NestedKey.hashes, hash_nks P w ks, List.map_cons]
    congr 1
    cases k <;> rfl
theorem hash_nkT (P : Program) (w : World) (ks : List Key) : NestedKey.hash w (nkT ks) = (tupleKind (mixKind P w)).hash ks := by
  show NestedKey.hash w (.tup (ks.map nk)) = tupleKeyHash (mixKind P w) ks
  rw [NestedKey.hash, hash_nks P w]
  rfl
theorem depth_nks : ∀ ks : List Key, NestedKey.depthAll (ks.map nk) = 0
  | [] => rfl
  | k :: ks => by
    rw [List.map_cons, NestedKey.depthAll, depth_nks ks]
    cases k <;> rfl
theorem depth_nkT (ks : List Key) : (nkT ks).depth = 1 := by
  show NestedKey.depth (.tup (ks.map nk)) = 1
  rw [NestedKey.depth, depth_nks]
/-- a plain key -/
inductive SKey : NestedKey → V → Prop
  | non : SKey .none .non
  | int (i) : SKey (.num i) (.int i)
  | str (x) : SKey (.text x) (.str x)
/-- a key: plain, or a tracked tuple of texts and ints -/
inductive NKey (H : Hp) : NestedKey → V → Prop
  | scal {k v} : SKey k v → NKey H k v
  | tup {b ks} : H b = some (.tup (ks.map kV)) → NKey H (nkT ks) (.ref b)
theorem NKey.keeps {H H' : Hp} {k : NestedKey} {v : V} (h : NKey H k v) (ht : ∀ b ys, H b = some (.tup ys) → H' b = some (.tup ys)) : NKey H' k v := by
  cases h with
  | scal s => exact .scal s
  | tup e => exact .tup (ht _ _ e)
theorem SKey.ne {k : NestedKey} {v : V} (h : SKey k v) (ks : List Key) : nkT ks ≠ k := by
  cases h <;> exact fun e => by cases e
section
variable {P : Program} {w : World} {H : Hp} {h : Heap} {d : Addr}
theorem nested_all (h : Heap) : ∀ {ks : List Key} {us : List Value}, Vals (ks.map kV) us → NestedAll h (ks.map nk) us
  | [], _, r => by rw [List.map_nil] at r; cases r; exact .nil
  | .inl i :: ks, _, r => by
    rw [List.map_cons] at r
    cases r with
    | cons a t =>
      obtain ⟨t', rfl⟩ := a
      exact .cons (.int i t') (nested_all h t)
  | .inr x :: ks, _, r => by
    rw [List.map_cons] at r
    cases r with
    | cons a t =>
      obtain ⟨t', rfl⟩ := a
      exact .cons (.text x t') (nested_all h t)
theorem nested_tup {b : Addr} {ks : List Key} (ok : HOk P w H h) (e : H b = some (.tup (ks.map kV))) : NestedIs h (nkT ks) (.ref b) := by
  obtain ⟨_, its, r, o, h1, h2, n, h3⟩ := (show ObjOk P w H h b (.tup (ks.map kV)) from ok b _ e)
  exact .tup h1 h2 h3 (nested_all h r)
theorem NKey.nested {k : NestedKey} {v : V} {u : Value} (ok : HOk P w H h) (x : NKey H k v) (r : RelV v u) : NestedIs h k u ∧ k.depth ≤ 8 := by
  cases x with
  | scal s =>
    cases s with
    | non => cases (show u = Value.none from r); exact ⟨.none, Nat.zero_le _⟩
    | int i => obtain ⟨t, rfl⟩ := r; exact ⟨.int i t, Nat.zero_le _⟩
    | str x => obtain ⟨t, rfl⟩ := r; exact ⟨.text x t, Nat.zero_le _⟩
  | @tup b ks e =>
    cases (show u = Value.ref b from r)
    exact ⟨nested_tup ok e, by rw [depth_nkT]; decide⟩
abbrev MEn := NestedKey × V × V
abbrev MixR : List MEn → List En → Prop := Paired fun p q => p.1 = q.1 ∧ RelV p.2.1 q.2.1 ∧ RelV p.2.2 q.2.2
/-- a tracked dict of mixed keys -/
def MixO (w : World) (d : Addr) (ms : List MEn) : HO := .ext fun h => ms.length ≤ sizeLine ∧ (d == sysModules) = false ∧ ∃ xs, MixR ms xs ∧ (xs.map (·.1)).Nodup ∧ ∃ o es ep, h.get? d = some o ∧ o.ExactDict ∧ o.data = .dict es ep ∧ es.toList = xs.map (entN w)
/-- a tracked dict with these keys and values, its keys tuples (of texts and ints), or mixed -/
def DctO (w : World) (H : Hp) (d : Addr) (ks : List (NestedKey × V)) (u : HO) : Prop :=
  (∃ kvs, u = .dT kvs ∧ ks = kvs.map fun p => (nkT p.1, p.2)) ∨ ∃ ms, u = MixO w d ms ∧ ks = ms.map (fun m => (m.1, m.2.2)) ∧ ∀ m ∈ ms, NKey H m.1 m.2.1
theorem DctO.mut {ks : List (NestedKey × V)} {u : HO} (x : DctO w H d ks u) : Mut (some u) := by
  rcases x with ⟨_, rfl, _⟩ | ⟨_, rfl, _⟩ <;> exact True.intro
theorem DctO.keeps {H' : Hp} {ks : List (NestedKey × V)} {u : HO} (x : DctO w H d ks u) (ht : ∀ b ys, H b = some (.tup ys) → H' b = some (.tup ys)) : DctO w H' d ks u := by
  rcases x with x | ⟨ms, e, e2, k⟩
  · exact .inl x
  · exact .inr ⟨ms, e, e2, fun m hm => (k m hm).keeps ht⟩
abbrev DR (H : Hp) : List (NestedKey × V) → List En → Prop := Paired fun p q => p.1 = q.1 ∧ RelV p.2 q.2.2 ∧ ∃ v, NKey H p.1 v ∧ RelV v q.2.1
theorem mix_dr : ∀ {ms : List MEn} {xs : List En}, MixR ms xs → (∀ m ∈ ms, NKey H m.1 m.2.1) → DR H (ms.map fun m => (m.1, m.2.2)) xs
  | _, _, .nil, _ => .nil
  | _, _, .cons r t, k => .cons ⟨r.1, r.2.2, _, k _ List.mem_cons_self, r.2.1⟩ (mix_dr t fun m hm => k m (List.mem_cons_of_mem _ hm))
def enT (q : List Key × Addr × Value) : En := (nkT q.1, .ref q.2.1, q.2.2)
theorem kt_dr : ∀ {kvs : List (List Key × V)} {xs : List (List Key × Addr × Value)}, KT H kvs xs → DR H (kvs.map fun p => (nkT p.1, p.2)) (xs.map enT)
  | _, _, .nil => .nil
  | _, _, .cons (a := p) (b := q) r t => .cons ⟨congrArg nkT r.1, r.2.2, .ref q.2.1, .tup r.2.1, rfl⟩ (kt_dr t)
theorem ent_enT (P : Program) (xs : List (List Key × Addr × Value)) : (xs.map enT).map (entN w) = xs.map (entryOfKey (tupleKind (mixKind P w))) := by
  rw [List.map_map]
  refine List.map_congr_left fun q _ => ?_
  show DictEntry.mk (NestedKey.hash w (nkT q.1)) (.ref q.2.1) q.2.2 = _
  rw [hash_nkT P]
  rfl
theorem nd_enT {xs : List (List Key × Addr × Value)} (n : (xs.map (·.1)).Nodup) : ((xs.map enT).map (·.1)).Nodup := by
  have e : (xs.map enT).map (·.1) = (xs.map (·.1)).map nkT := by
    rw [List.map_map, List.map_map]
    rfl
  rw [e]
  exact List.Pairwise.map nkT (fun a b z y => z (nkT_inj y)) n
/-- a dict of tuple keys -/
theorem dt_tab {kvs : List (List Key × V)} (x : ObjOk P w H h d (.dT kvs)) : kvs.length ≤ sizeLine ∧ (d == sysModules) = false ∧ ∃ ys, KT H kvs ys ∧ ((ys.map enT).map (·.1)).Nodup ∧ ∃ o es ep, h.get? d = some o ∧ o.ExactDict ∧ o.data = .dict es ep ∧ es.toList = (ys.map enT).map (entN w) := by
  obtain ⟨z, y, xs, r, o, es, ep, h1, h2, h3, h4, h5⟩ := x
  exact ⟨z, y, xs, r, nd_enT h5, o, es, ep, h1, h2, h3, by rw [ent_enT P]; exact h4⟩
theorem dr_keys (ok : HOk P w H h) : ∀ {ks : List (NestedKey × V)} {xs : List En}, DR H ks xs → ∀ x ∈ xs, NestedIs h x.1 x.2.1 ∧ x.1.depth ≤ 8
  | _, _, .nil, x, hx => by cases hx
  | _, _, .cons r t, x, hx => by
    rcases List.mem_cons.mp hx with rfl | hx
    · obtain ⟨e, _, v, k, rv⟩ := r
      rw [← e]
      exact k.nested ok rv
    · exact dr_keys ok t x hx
theorem dct_tab {ks : List (NestedKey × V)} {u : HO} (ok : HOk P w H h) (o : ObjOk P w H h d u) (x : DctO w H d ks u) : ks.length ≤ sizeLine ∧ (d == sysModules) = false ∧ ∃ xs, DR H ks xs ∧ Tab w h d xs := by
  rcases x with ⟨kvs, rfl, rfl⟩ | ⟨ms, rfl, rfl, k⟩
  · obtain ⟨z, y, ys, r, nd, o, es, ep, h1, h2, h3, h4⟩ := dt_tab o
    exact ⟨by rw [List.length_map]; exact z, y, _, kt_dr r, ⟨o, es, ep, h1, h2, h3, h4⟩, dr_keys ok (kt_dr r), nd⟩
  · obtain ⟨⟨z, y, xs, r, nd, o, es, ep, h1, h2, h3, h4⟩, _⟩ := o
    exact ⟨by rw [List.length_map]; exact z, y, xs, mix_dr r k, ⟨o, es, ep, h1, h2, h3, h4⟩, dr_keys ok (mix_dr r k), nd⟩
theorem dr_at : ∀ {ks : List (NestedKey × V)} {xs : List En}, DR H ks xs → ∀ {k : NestedKey} {v : V}, valV ks k = some v → ∃ p, atN xs k = some p ∧ RelV v p.2
  | _, _, .nil, k, v, e => by cases e
  | _, _, .cons (a := p) (b := q) r t, k, v, e => by
    by_cases z : p.1 = k
    · rw [valV_pos z] at e
      cases e
      refine ⟨q.2, ?_, r.2.1⟩
      unfold atN
      rw [List.find?_cons, decide_eq_true (r.1.symm.trans z)]
      rfl
    · rw [valV_neg z] at e
      obtain ⟨p', h1, h2⟩ := dr_at t e
      refine ⟨p', ?_, h2⟩
      unfold atN at h1 ⊢
      rw [List.find?_cons, decide_eq_false (fun y => z (r.1.trans y))]
      exact h1
end
section
variable {X : Cx} {pins : List (Addr × Obj)} {σ : St} {H : Hp} {s : Shared} {a : Addr} {y v : V} {u r : Value} {A : Around} {E : Value → Shared → Prop}
/-- d[y], there -/
theorem m_getItem {ks : List (NestedKey × V)} {k : NestedKey} {uo : HO} {Q : Value → Shared → Prop} (hu : A.in1.units + 8 < cLine) (I : Inv X pins σ H s) (e : Rd H a uo) (x : DctO X.w H a ks uo) (nk : NKey H k y) (g : valV ks k = some v) (ry : RelV y u)
    (h : ∀ w' s', Inv X pins σ H s' → RelV v w' → Q w' s') : wpAny (model X.prog X.w) A (getItem (.ref a) u) Q E s := by
  obtain ⟨_, _, xs, dr, T⟩ := dct_tab I.hok (e.ok I.hok) x
  obtain ⟨hk, kd⟩ := nk.nested I.hok ry
  obtain ⟨p, hp, rp⟩ := dr_at dr g
  exact getItem_ hu T hk kd hp (h _ _ (I.tok _) rp)
theorem mix_snoc {ms : List MEn} {xs : List En} (r : MixR ms xs) {m : MEn} {x : En} (h : m.1 = x.1 ∧ RelV m.2.1 x.2.1 ∧ RelV m.2.2 x.2.2) : MixR (ms ++ [m]) (xs ++ [x]) := Paired.snoc r h
theorem kt_mix : ∀ {kvs : List (List Key × V)} {xs : List (List Key × Addr × Value)}, KT H kvs xs → ∃ ms, MixR ms (xs.map enT) ∧ (∀ m ∈ ms, NKey H m.1 m.2.1) ∧ ms.map (fun m => (m.1, m.2.2)) = kvs.map fun p => (nkT p.1, p.2)
  | _, _, .nil => ⟨[], .nil, (fun m hm => by cases hm), rfl⟩
  | _, _, .cons (a := p) (b := q) r t => by
    obtain ⟨ms, h1, h2, h3⟩ := kt_mix t
    refine ⟨(nkT p.1, .ref q.2.1, p.2) :: ms, .cons ⟨congrArg nkT r.1, rfl, r.2.2⟩ h1, fun m hm => ?_, ?_⟩
    · rcases List.mem_cons.mp hm with rfl | hm
      · exact .tup r.2.1
      · exact h2 m hm
    · rw [List.map_cons, List.map_cons, h3]
/-- d[y] = v, y a plain key, the keys of d tuples -/
theorem m_setItem {kvs : List (List Key × V)} {k : NestedKey} {Q : Unit → Shared → Prop} (hu : A.in1.units + 8 < cLine) (I : Inv X pins σ H s) (e : H a = some (.dT kvs)) (sk : SKey k y) (hz : kvs.length < sizeLine) (ry : RelV y u) (rv : RelV v r)
    (h : ∀ ms s', (∀ m ∈ ms, NKey (upd H a (MixO X.w a ms)) m.1 m.2.1) → ms.map (fun m => (m.1, m.2.2)) = (kvs.map fun p => (nkT p.1, p.2)) ++ [(k, v)] → Inv X pins σ (upd H a (MixO X.w a ms)) s' → Q () s') :
    wpAny (model X.prog X.w) A (setItem (.ref a) u r) Q E s := by
  obtain ⟨z, hd, ys, kt, nd, o, es, ep, h1, h2, h3, h4⟩ := dt_tab (show ObjOk X.prog X.w H s.heap a (.dT kvs) from I.hok a _ e)
  obtain ⟨ms, mr, mk, me⟩ := kt_mix kt
  have T : Tab X.w s.heap a (ys.map enT) := ⟨⟨o, es, ep, h1, h2, h3, h4⟩, dr_keys I.hok (kt_dr kt), nd⟩
  obtain ⟨hk, kd⟩ := (NKey.scal (H := H) sk).nested I.hok ry
  have ly : (ys.map enT).length = kvs.length := by rw [List.length_map]; exact (Paired.length kt).symm
  have lm : ms.length = kvs.length := by
    have := congrArg List.length me
    rw [List.length_map, List.length_map] at this
    exact this
  refine setItem_ hu T hk kd (fun hm => ?_) (by omega) fun h' T' hs => ?_
  · obtain ⟨q, hq, eq⟩ := List.mem_map.mp hm
    obtain ⟨q', _, rfl⟩ := List.mem_map.mp hq
    exact sk.ne _ eq
  · obtain ⟨o', es', ep', g1, g2, g3, g4⟩ := T'.ob
    refine h (ms ++ [(k, y, v)]) _ (fun m hm => ?_) (by rw [List.map_append, me]; rfl) (d_write I (by rw [e]; exact True.intro) hs ⟨_, g1⟩ ⟨⟨?_, hd, _, mix_snoc mr ⟨rfl, ry, rv⟩, T'.nd, _, _, _, g1, g2, g3, g4⟩, ⟨_, g1⟩, ?_⟩)
    · have km : NKey H m.1 m.2.1 := by
        rcases List.mem_append.mp hm with hm | hm
        · exact mk m hm
        · rw [List.mem_singleton.mp hm]
          exact .scal sk
      refine km.keeps fun b zs hb => ?_
      rw [upd_ne (fun z => by rw [z, e] at hb; cases hb)]
      exact hb
    · rw [List.length_append, lm]
      exact hz
    · rintro hp1 hp2 ⟨q1, q2, xs, q3, q4, o2, es2, ep2, q5, q6⟩ kk
      exact ⟨q1, q2, xs, q3, q4, o2, es2, ep2, kk _ q5, q6⟩
/-- what is told of a locked one -/
theorem m_frz {ks : List (NestedKey × V)} {o : Obj} {uo : HO} (I : Inv X pins σ H s) (e : H a = some (.frz o uo)) (x : DctO X.w H a ks uo) : (a == sysModules) = false ∧ s.heap.get? a = some o ∧ o.ExactDict ∧ ∃ (es : Array DictEntry) (ep : Nat), o.data = .dict es ep ∧ es.size = ks.length ∧
      ∀ (i : Nat) (k : NestedKey) (v : V), ks[i]? = some (k, v) → ∃ (en : DictEntry) (q : V), es[i]? = some en ∧ NKey H k q ∧ RelV q en.key := by
  obtain ⟨ho, ok⟩ := I.hok a _ e
  obtain ⟨_, hs, xs, dr, T⟩ := dct_tab I.hok ok x
  obtain ⟨o', es, ep, h1, h2, h3, h4⟩ := T.ob
  rw [ho] at h1
  cases h1
  refine ⟨hs, ho, h2, es, ep, h3, by rw [ent_size h4]; exact (Paired.length dr).symm, fun i k v hi => ?_⟩
  obtain ⟨b, hb, e1, _, q, hq, rq⟩ := paired_get dr hi
  exact ⟨entN X.w b, q, by rw [ent_at h4 i, hb]; rfl, hq, rq⟩
end
/-- the keys of the locked dict at d, in their order -/
def Itn (w : World) (d : Addr) (o : Obj) (ks : List (NestedKey × V)) : It :=
  ⟨fun i H => (∃ uo, H d = some (.frz o uo) ∧ DctO w H d ks uo) ∧ i < ks.length, fun i H x H' => H' = H ∧ ∃ (k : NestedKey) (v : V), ks[i]? = some (k, v) ∧ NKey H k x, fun i H => (∃ uo, H d = some (.frz o uo) ∧ DctO w H d ks uo) ∧ ks.length ≤ i⟩
theorem turn_keysN {P : Program} {w : World} {K : PySem.W.Frag} {tg : Expr} {d : Addr} {o : Obj} {es : Array DictEntry} {ep : Nat} {ks : List (NestedKey × V)} (it : Addr) (hod : o.data = .dict es ep) : Turn P w K tg (Itn w d o ks) [it] it (fun i h => h.IsKeyIter it d i ks.length ep) where
  mem := by simp
  obj := fun i h st b hb => by
    have e : b = it := by simpa using hb
    subst e
    obtain ⟨oi, e, c, dd⟩ := st
    exact ⟨oi, e, fun v z => by rw [dd] at z; cases z⟩
  keep := fun i h h' st k => st.at fun oi e => k it (by simp) oi e
  item := by
    intro X hP hw hK hc i pins s σ H E I hf st hg
    subst hP hw hK
    obtain ⟨⟨uo, hd, hx⟩, hi⟩ := hg
    obtain ⟨f0, f1, f2, f3, f4, f5⟩ := hf it (by simp)
    obtain ⟨hs, hgd, _, es', ep', hdt, hsz, ent⟩ := m_frz I hd hx
    obtain ⟨rfl, rfl⟩ := dict_ep hod hdt
    obtain ⟨⟨k, v⟩, hkv⟩ : ∃ p, ks[i]? = some p := ⟨ks[i], List.getElem?_eq_getElem hi⟩
    obtain ⟨en, q, hen, hq, rq⟩ := ent i k v hkv
    refine next_key_item st hgd hdt hsz hen fun h' st' sb => ?_
    have I1 : Inv X pins σ H { s with heap := h' } := I.turned (t' := s.toks) (fun b ob hb e => (sb.2 b hb).trans e) f0 f1 f3 f4 f5
    obtain ⟨oi, e, c, dd⟩ := id st'
    exact ⟨en.key, rfl, go_of (s := { s with heap := h' }) e c dd (by decide) ⟨q, H, I1, rq, ⟨rfl, k, v, hkv, hq⟩, st', fun b hb => (hf b hb).1⟩⟩
  done := by
    intro X hP hw hK hc i pins s σ H E I hf st hg
    subst hP hw hK
    obtain ⟨⟨uo, hd, hx⟩, hi⟩ := hg
    obtain ⟨f0, f1, f2, f3, f4, f5⟩ := hf it (by simp)
    obtain ⟨hs, hgd, _, es', ep', hdt, hsz, ent⟩ := m_frz I hd hx
    obtain ⟨rfl, rfl⟩ := dict_ep hod hdt
    exact next_key_end (I.ok.hd hc) st hgd hdt hsz hi fun h' eb => ⟨rfl, I.turned (t' := s.toks) (fun b ob hb e => eb b ob hb e) f0 f1 f3 f4 f5⟩
  self := fun A i s Q E st h => by
    refine wpAny_pyIter_slot st.typeIs F.slot_dict_keyiterator_iter (wpAny_call_entry F.slot_dict_keyiterator_iter st.typeIs F.entry_dict_keyiterator_iter ?_ (F.args_dict_keyiterator_iter_1 _))
    show wpAny _ _ (ret (.ref it)) _ _ s
    exact wpAny_pure ⟨_, rfl, "dict_keyiterator", _, st.typeIs, F.slot_dict_keyiterator_next.lookup, h⟩
/-! ### readings and rules -/
def iKeysN (w : World) (td : TE) : TI := fun σ H R => td σ H fun x H1 => ∃ d o uo ks, x = .ref d ∧ H1 d = some (.frz o uo) ∧ DctO w H1 d ks uo ∧ R (Itn w d o ks) H1
/-- d[y] -/
def tDGetN (w : World) (td ty : TE) : TE := fun σ H Q => td σ H fun x H1 => ty σ H1 fun y H2 => ∃ a uo ks k v, x = .ref a ∧ Rd H2 a uo ∧ DctO w H2 a ks uo ∧ NKey H2 k y ∧ valV ks k = some v ∧ Q v H2
/-- d[y] = v -/
def sDPutN (w : World) (td ty tv : TE) : TS := fun D σ H => tv σ H fun v H1 => td σ H1 fun x H2 => ty σ H2 fun y H3 => ∃ a, x = .ref a ∧ ((∃ H4, DPut H3 a y v H4 ∧ D.nx σ H4) ∨
  ∃ kvs k, H3 a = some (.dT kvs) ∧ SKey k y ∧ kvs.length < sizeLine ∧ ∀ ms, (∀ m ∈ ms, NKey (upd H3 a (MixO w a ms)) m.1 m.2.1) → ms.map (fun m => (m.1, m.2.2)) = (kvs.map fun p => (nkT p.1, p.2)) ++ [(k, v)] → D.nx σ (upd H3 a (MixO w a ms)))
section
variable {X : Cx} {tg o i e value : Expr} {pos pos' tpos : Pos} {td ty tv : TE}
theorem pi_keysN {w : World} (hw : X.w = w) (he : PE X e td) : PI X tg e (iKeysN w td) := by
  subst hw
  refine ⟨fun pins s σ H R I h => ?_⟩
  refine thn (he.run pins s σ H _ I h) fun u s1 ⟨x, H1, I1, rx, d, o, uo, ks, ex, hd, hx, q⟩ => ?_
  subst ex
  obtain rfl : u = Value.ref d := rx
  obtain ⟨hs, hgd, hc, es, ep, hdt, hsz, ent⟩ := m_frz I1 hd hx
  refine iter_keys hs hgd hc hdt (pi_one (tk := s1.toks) I1 _ (turn_keysN _ hdt) ⟨_, Heap.get?_push_size _ rfl, rfl, ?_⟩ q)
  rw [hsz] <;> rfl
theorem pe_dgetN {w : World} (hw : X.w = w) (hu : X.A.units + 64 < cLine) (ho : PE X o td) (hi : PE X i ty) (hs : NoSl i) : PE X (.Subscript o i pos) (tDGetN w td ty) := by
  subst hw
  refine ⟨fun pins s σ H Q I h => ?_⟩
  refine subD_of PySem.F.slot_dict_getitem.lookup hs (thn (ho.run pins s σ H _ I h) fun u s1 ⟨x, H1, I1, rx, q1⟩ => thn (hi.run pins s1 σ H1 _ I1 q1) fun iv s2 ⟨y, H2, I2, ry, a, uo, ks, k, v, ex, e, dx, nk, g, q2⟩ => ?_)
  subst ex
  obtain rfl : u = Value.ref a := rx
  obtain ⟨_, _, xs, _, T⟩ := dct_tab I2.hok (e.ok I2.hok) dx
  exact ⟨T.typeIs, m_getItem (by rw [Around.in1_units]; omega) I2 e dx nk g ry fun w' s3 I3 rw' => ⟨v, H2, I3, rw', q2⟩⟩
theorem ps_dputN {w : World} (hw : X.w = w) (hu : X.A.units + 64 < cLine) (ho : PE X o td) (hi : PE X i ty) (hv : PE X value tv) (hs : swapsWith value (some (.Subscript o i pos')) pos.line X.env = pure false) :
    PS X (.Assign [.Subscript o i pos'] value pos) (sDPutN w td ty tv) := by
  subst hw
  refine ⟨fun pins s σ H D I h => ?_⟩
  refine wpAny_Assign_Subscript (thn (hv.run pins s σ H _ I h) fun r s1 ⟨v, H1, I1, rv, q1⟩ => thn (ho.run pins s1 σ H1 _ I1 q1) fun u s2 ⟨x, H2, I2, rx, q2⟩ => thn (hi.run pins s2 σ H2 _ I2 q2) fun iv s3 ⟨y, H3, I3, ry, a, ex, q3⟩ => ?_) hs
  subst ex
  obtain rfl : u = Value.ref a := rx
  rcases q3 with ⟨H4, g, q3⟩ | ⟨kvs, k, e, sk, hz, q3⟩
  · exact d_setItem (by omega) I3 g ry rv fun s4 I4 => ⟨σ, H4, I4, q3⟩
  · exact m_setItem (by rw [Around.in1_units]; omega) I3 e sk hz ry rv fun ms s4 h1 h2 I4 => ⟨σ, _, I4, q3 ms h1 h2⟩
/-- isinstance(x, c), x such a dict too -/
def rIsiN (w : World) (K : PySem.W.Frag) : List V → Hp → VK → Prop := fun xs H Q => rIsi K xs H Q ∨ ∃ (a : Addr) (ks : List (NestedKey × V)) (uo : HO) (n : String) (b : Bool), xs = [.ref a, .ty n] ∧ Rd H a uo ∧ DctO w H a ks uo ∧ PySem.W.kitOne K (.type "dict") (.type n) = some b ∧ Q (.bl b) H
theorem call_isiN {w : World} {K : PySem.W.Frag} (hK : X.K = K) (hw : X.w = w) : CallR X (.builtin "isinstance") (rIsiN w K) := by
  subst hK hw
  intro pins s σ H xs us Q I r h
  rcases h with h | ⟨a, ks, uo, n, b, rfl, e, x, k, q⟩
  · exact call_isi pins s σ H xs us Q I r h
  · obtain ⟨u1, u2, rfl, r1, r2⟩ := vals2 r
    cases (show u1 = Value.ref a from r1)
    cases (show u2 = Value.type n from r2)
    obtain ⟨_, _, ys, _, T⟩ := dct_tab I.hok (e.ok I.hok) x
    obtain ⟨o, _, _, ho, hc, _⟩ := T.ob
    exact PySem.W.kia_one PySem.W.kitx_dict I.kIn ⟨o, ho, hc.1⟩ k (fun z => nomatch z) fun tk => ⟨.bl b, H, I.tok tk, rfl, q⟩
end
/-! ### walks -/
theorem walk_keysN {w : World} {d : Addr} {o : Obj} {ks : List (NestedKey × V)} : Walk (Itn w d o ks) ks.length (fun H => ∃ uo, H d = some (.frz o uo) ∧ DctO w H d ks uo) (fun i H x H' => H' = H ∧ ∃ (k : NestedKey) (v : V), ks[i]? = some (k, v) ∧ NKey H k x) :=
  ⟨fun i H hi h => ⟨h, hi⟩, fun H h => ⟨h, Nat.le_refl _⟩, fun i H v H' hi _ y => y⟩
theorem range_snoc (i : Nat) (b : Nat → Bool) : (List.range (i + 1)).all b = ((List.range i).all b && b i) := by
  rw [List.range_succ, List.all_append, List.all_cons, List.all_nil, Bool.and_true]
open LP in
/-- which items are kept -/
theorem lc_fil {J : It} {n : Nat} {G : Hp → Prop} {Y : Nat → Hp → V → Hp → Prop} (W : Walk J n G Y) {g : TG} {tt : TT} {te : TE} {vs : List Nat} {σ : St} {H : Hp} {Q : VK} (b : Nat → Bool)
    (hG : ∀ H1, Same H H1 → G H1) (hn : n ≤ 1000000)
    (he : ∀ i x H1 H2, i < n → Same H H1 → Y i H1 x H2 → ∀ (N : Hp → Prop) (R : VK), (∀ H3, Same H1 H3 → b i = false → N H3) → (∀ y H3, Same H1 H3 → b i = true → R y H3) → g x (wipe σ vs) H2 fun σ2 H3 => wipe σ2 vs = wipe σ vs ∧ tt σ2 H3 fun c H4 => if c = true then te σ2 H4 R else N H4)
    (q : ∀ p ys H2, H p = none → Same H H2 → H2 p = some (.lst ys) → ys.isEmpty = ((List.range n).all fun i => !b i) → Q (.ref p) H2) : LcLoop J g tt te vs σ H Q := by
  intro D hD
  obtain ⟨Pv, hP⟩ : ∃ Pv : Nat → Hp → Prop, ∀ i H', Pv i H' ↔ (Same H H' ∧ ∃ ys, H' D = some (.lst ys) ∧ ys.length ≤ i ∧ ys.isEmpty = ((List.range i).all fun j => !b j)) := ⟨_, fun _ _ => Iff.rfl⟩
  refine lc_it W Pv ((hP _ _).mpr ⟨Same.new hD, [], upd_same, Nat.le_refl _, rfl⟩) (fun i H' _ p => hG H' ((hP _ _).mp p).1) ?_ ?_
  · intro i x H1 H2 hi p hy
    obtain ⟨sm, ys, hd, hl, hr⟩ := (hP _ _).mp p
    refine he i x H1 H2 hi sm hy _ (fun y H4 => ∃ acc, H4 D = some (.lst acc) ∧ acc.length < sizeLine ∧ Pv (i + 1) (upd H4 D (.lst (acc ++ [y])))) (fun H3 s3 e => (hP _ _).mpr ⟨sm.trans s3, ys, s3 _ _ hd, by omega, ?_⟩) fun y H3 s3 e => ⟨ys, s3 _ _ hd, Nat.lt_of_le_of_lt (by omega : ys.length ≤ 1000000) (by decide), (hP _ _).mpr ⟨fun c o ec => ?_, ys ++ [y], upd_same, by rw [List.length_append, List.length_singleton]; omega, ?_⟩⟩
    · rw [range_snoc, ← hr, e]
      simp
    · rw [upd_ne (ne_of_none ec hD)]
      exact s3 _ _ (sm _ _ ec)
    · rw [range_snoc, e]
      simp
  · intro H' p
    obtain ⟨sm, ys, hd, hl, hr⟩ := (hP _ _).mp p
    exact q D ys H' hD sm hd hr
end LPMX

set_option Elab.async false
set_option linter.all false
set_option maxRecDepth 100000
set_option maxHeartbeats 4000000
/-! LPMY: list(d.items()), dict(d.items()), the keys of d tuples. -/
namespace LPMX
open PySem PySem.Spec L2
open PyProof.Rows hiding St
/-- in a try: what a callee lets out, whatever the names hold -/
theorem takes_all {X : Cx} {W : WX} (tk : Takes X W) : Takes X (fun cls d _ H => (fun (cls : Value) (d : Option Addr) (H : Hp) => ∀ σ, W cls d σ H) cls d H) :=
  fun u s' ⟨a, B, sI, pins, σ, H, cls, d, e, I, nb, up, sky, na, os, ag, w⟩ => tk u s' ⟨a, B, sI, pins, σ, H, cls, d, e, I, nb, up, sky, na, os, ag, w σ⟩
section
variable {X : Cx} {e : Expr} {te : TE} {p apos cpos pos : Pos}
theorem entT {P : Program} {w : World} {es : Array DictEntry} {xs : List (List Key × Addr × Value)} (he : es.toList = xs.map (entryOfKey (tupleKind (mixKind P w)))) : es.size = xs.length ∧ ∀ i (hi : i < es.size), ∃ k b v, xs[i]? = some (k, b, v) ∧ es[i].key = .ref b ∧ es[i].val = v := by
  have hl : es.size = xs.length := by rw [← Array.length_toList, he, List.length_map]
  refine ⟨hl, fun i hi => ?_⟩
  have hx : i < xs.length := by omega
  have e1 : es.toList[i]? = (xs.map (entryOfKey (tupleKind (mixKind P w))))[i]? := by rw [he]
  rw [Array.getElem?_toList, Array.getElem?_eq_getElem hi, List.getElem?_map, List.getElem?_eq_getElem hx] at e1
  refine ⟨xs[i].1, xs[i].2.1, xs[i].2.2, by rw [List.getElem?_eq_getElem hx], ?_⟩
  rw [Option.some.inj e1]
  exact ⟨rfl, rfl⟩
/-- list(e.items()): what the pairs hold is not told -/
def tListItemsT (te : TE) : TE := fun σ H Q => te σ H fun x H1 => ∃ (d : Addr) (kvs : List (List Key × V)), x = .ref d ∧ H1 d = some (.dT kvs) ∧ ∀ (l : Addr) (rs : List Addr), H1 l = none → rs.length = kvs.length → Q (.ref l) (upd H1 l (.lst (rs.map V.ref)))
theorem pe_listItemsT (hc : X.calm = true) (he : PE X e te) (hg : Gl X "list") (hm : X.mg "list" = none) (hv : bootBuiltins "list" = some (.type "list")) (hbase : attributeBase e "items" X.env (eval e X.env) = eval e X.env := by rfl) (hline : (apos.endLine == cpos.line) = true := by rfl)
    (hs : starEach [.Call (.Attribute e "items" apos) [] [] cpos] X.env = (false, eval (.Call (.Attribute e "items" apos) [] [] cpos) X.env) :: starEach [] X.env := by rfl) :
    PE X (.Call (.Name "list" p) [.Call (.Attribute e "items" apos) [] [] cpos] [] pos) (tListItemsT te) := by
  refine ⟨fun pins s σ H Q I hq => wpAny_Call_Name_kw (ld_blt I hg hm hv (PyProof.Rows.callWith_type1 ?_ hs rfl))⟩
  rw [hs]
  refine Calls.spliced_cons (wpAny_Call_method (T := "dict") (id := "dict.items") hbase rfl hline F.plainAttrs_dict F.slot_dict_items F.type_dict_items (thn (he.run pins s σ H _ I hq) ?_))
  rintro u s1 ⟨x, H1, I1, rx, d, kvs, ex, hd, q⟩
  subst ex
  obtain rfl : u = Value.ref d := rx
  obtain ⟨hz, hs0, xs, kt, o, es, ep, g1, g2, g3, g4, _, _⟩ := dt_of I1.hok hd
  obtain ⟨hsz, _⟩ := entT g4
  have lk : kvs.length = xs.length := Paired.length kt
  have raw : s1.heap.DictRaw d es ep := ⟨o, g1, g2, g3⟩
  have I2 : Inv X pins σ H1 { s1 with heap := s1.heap.push { cls := .type "dict_items", data := .fields #[.ref d] } } := I1.kept (t' := s1.toks) fun b ob q => Heap.get?_push_of_some _ q
  refine ⟨raw.typeIs, fun a ea => by cases ea; exact ⟨o, g1, g2.2.1⟩, ?_⟩
  show wpAny (model X.prog X.w) X.A (callWith cpos (.builtin "dict.items") [.ref d] [] []) _ X.xe s1
  refine method_meetsIn F.slot_dict_items F.entry_dict_items rfl (PySem.evalArgs_none ⟨rfl, raw.typeIs, F.args_dict_items_1 _, _, meets_dict_items_raw d hs0, ⟨es, ep, raw⟩, Calls.spliced_nil ?_⟩)
  refine PySem.W.dil_call (I1.ok.hd hc) ⟨_, Heap.get?_push_size _ rfl, rfl, rfl⟩ (raw.at fun o e => Heap.get?_push_of_some _ e) (by omega) fun h' tk acc c as hk hS hl hG hacc => ?_
  exact ⟨.ref _, _, I2.laid (t' := tk) (o := .lst (as.map V.ref)) hk (Nat.le_refl _) ⟨by rw [List.length_map]; omega, acc.toList, c, by rw [hacc]; exact LiI.vals_refs as, by rw [Array.toArray_toList]; exact hS⟩, rfl, q _ as (I2.hok.fresh (Nat.le_refl _)) (by omega)⟩
/-- dict(e.items()) -/
def tDictItemsT (te : TE) : TE := fun σ H Q => te σ H fun x H1 => ∃ (d : Addr) (kvs : List (List Key × V)), x = .ref d ∧ H1 d = some (.dT kvs) ∧ ∀ l, H1 l = none → Q (.ref l) (upd H1 l (.dT kvs))
theorem pe_dictItemsT (hc : X.calm = true) (hu : X.A.units + 64 < cLine) (he : PE X e te) (hg : Gl X "dict") (hm : X.mg "dict" = none) (hv : bootBuiltins "dict" = some (.type "dict")) (hbase : attributeBase e "items" X.env (eval e X.env) = eval e X.env := by rfl) (hline : (apos.endLine == cpos.line) = true := by rfl)
    (hs : starEach [.Call (.Attribute e "items" apos) [] [] cpos] X.env = (false, eval (.Call (.Attribute e "items" apos) [] [] cpos) X.env) :: starEach [] X.env := by rfl) :
    PE X (.Call (.Name "dict" p) [.Call (.Attribute e "items" apos) [] [] cpos] [] pos) (tDictItemsT te) := by
  refine ⟨fun pins s σ H Q I hq => wpAny_Call_Name_kw (ld_blt I hg hm hv (PyProof.Rows.callWith_type1 ?_ hs rfl))⟩
  rw [hs]
  refine Calls.spliced_cons (wpAny_Call_method (T := "dict") (id := "dict.items") hbase rfl hline F.plainAttrs_dict F.slot_dict_items F.type_dict_items (thn (he.run pins s σ H _ I hq) ?_))
  rintro u s1 ⟨x, H1, I1, rx, d, kvs, ex, hd, q⟩
  subst ex
  obtain rfl : u = Value.ref d := rx
  obtain ⟨hz, hs0, xs, kt, o, es, ep, g1, g2, g3, g4, g5, g6⟩ := dt_of I1.hok hd
  obtain ⟨hsz, hes⟩ := entT g4
  have lk : kvs.length = xs.length := Paired.length kt
  have raw : s1.heap.DictRaw d es ep := ⟨o, g1, g2, g3⟩
  have I2 : Inv X pins σ H1 { s1 with heap := s1.heap.push { cls := .type "dict_items", data := .fields #[.ref d] } } := I1.kept (t' := s1.toks) fun b ob q => Heap.get?_push_of_some _ q
  refine ⟨raw.typeIs, fun a ea => by cases ea; exact ⟨o, g1, g2.2.1⟩, ?_⟩
  show wpAny (model X.prog X.w) X.A (callWith cpos (.builtin "dict.items") [.ref d] [] []) _ X.xe s1
  refine method_meetsIn F.slot_dict_items F.entry_dict_items rfl (PySem.evalArgs_none ⟨rfl, raw.typeIs, F.args_dict_items_1 _, _, meets_dict_items_raw d hs0, ⟨es, ep, raw⟩, Calls.spliced_nil ?_⟩)
  refine PySem.call_dict_pairsH (knd := tupleKind (mixKind X.prog X.w)) (ps := xs) (PySem.PairArg.items s1.heap.objs.size d es ep) (I1.ok.hd hc) (show X.A.in1.in1.units < cLine by rw [Around.in1_units, Around.in1_units]; omega) ⟨⟨_, Heap.get?_push_size _ rfl, rfl, rfl, rfl⟩, raw.at fun o e => Heap.get?_push_of_some _ e⟩ ⟨hsz.symm, ?_⟩ ?_ (by omega) fun h' tk hd' hk => ?_
  · rintro i key v ⟨hi, rfl, rfl⟩
    obtain ⟨k, b, v', e1, e2, e3⟩ := hes i hi
    exact ⟨k, b, by rw [e3]; exact e1, e2⟩
  · intro h' hk x hx
    obtain ⟨ob, its, n, f1, f2, f3, f4⟩ := (show IsTupleKey (mixKind X.prog X.w) s1.heap x.1 x.2.1 from g5 x hx)
    have f1' := Heap.get?_push_of_some { cls := .type "dict_items", data := .fields #[.ref d] } f1
    exact ⟨ob, its, n, hk _ _ (Nat.ne_of_lt (Heap.lt_size f1')) (fun z => nomatch z) f1', f2, f3, f4⟩
  · rw [storedAllH_nil_of_nodup xs g6] at hd'
    have hm2 : ((s1.heap.push { cls := .type "dict_items", data := .fields #[.ref d] }).objs.size == sysModules) = false := beq_eq_false_iff_ne.mpr (Nat.ne_of_gt I2.big)
    have hn : H1 (s1.heap.push { cls := .type "dict_items", data := .fields #[.ref d] }).objs.size = none := I2.hok.fresh (Nat.le_refl _)
    obtain ⟨o2, es2, ep2, k1, k2, k3, k4, _, k6⟩ := hd'
    exact ⟨.ref _, _, I2.laid (t' := tk) (fun b o e => hk b o (fun z => nomatch z) e) (Nat.le_refl _) (show ObjOk X.prog X.w _ _ _ (.dT kvs) from ⟨hz, hm2, xs, kt.keeps fun b ys hb => (upd_ne (ne_of_none hb hn)).trans hb, o2, es2, ep2, k1, k2, k3, k4, k6⟩), rfl, q _ hn⟩
end
end LPMX

set_option Elab.async false
set_option linter.all false
set_option maxRecDepth 100000
set_option maxHeartbeats 4000000
/-! LPSX: set(t), t a tuple of texts. -/
namespace LP
open PySem PySem.Spec L2
open PyProof.Rows hiding St
section
variable {P : Program} {w : World} {A : Around} {E : Value → Shared → Prop} {s : Shared}
theorem call_set_textsT {l : Addr} {items : Array Value} {xs : List Str} {Q : Value → Shared → Prop} (hh : A.handled = none)
    (hl : s.heap.IsTuple l items) (hi : ∀ (i : Nat) (v : Value), items[i]? = some v → ∃ x t, xs[i]? = some x ∧ v = Value.str x t) (hb : items.size + 1 < scanBound)
    (h : ∀ (h' : Heap) (tk : Nat), HoldsT w h' s.heap.objs.size xs items.size →
      (∀ b o, b < s.heap.objs.size → s.heap.get? b = some o → h'.get? b = some o) → Q (.ref s.heap.objs.size) { s with heap := h', toks := tk }) :
    wpAny (model P w) A (call (.type "set") [.ref l]) Q E s := by
  obtain ⟨c, tl, hmro⟩ := F.called_set.mro
  have hmade := F.called_set.made
  have hsub := F.called_set.sub
  refine wpAny_call (codeAny_of_tree ?_)
  show wpAny _ _ (callAny (.type "set") _) _ _ _
  refine wpAny_pure ⟨Code.quiet_builtin _ (by decide +kernel), ?_⟩
  refine codeAny_builtin F.entry_type_call ?_
  rw [Around.under_plain (weight_type_call_type "set" [.ref l] []) rfl]
  have h1 := F.called_set.notType
  have h2 := F.called_set.canCreate
  have hct := F.typeCall_set_1 (.ref l)
  repeat (any_goals (first | assumption | wp_step))
  refine codeAny_mono (set_new1 (.ref l) (E := E) (Q₁ := fun obj s₁ => obj = .ref s.heap.objs.size ∧ s₁ = { s with heap := s.heap.push (freshSet w) }) ⟨rfl, rfl⟩) ?_
  intro r s₁ hr
  cases r with
  | error e => exact hr
  | ok fl =>
    cases fl with
    | ret obj =>
      obtain ⟨rfl, rfl⟩ := hr
      have hS : (s.heap.push (freshSet w)).get? s.heap.objs.size = some (freshSet w) := Heap.get?_push_size _ rfl
      have hT : Shared.TypeIs { s with heap := s.heap.push (freshSet w) } (.ref s.heap.objs.size) "set" := ⟨_, hS, rfl⟩
      have hli := F.called_set.init.lookup
      have hbi := F.called_set.init.bind (.ref s.heap.objs.size)
      repeat (any_goals (first | assumption | wp_step))
      refine codeAny_mono (codeAny_call_builtin (R := wants (fun r s₂ => r = .none ∧ ∃ h' tk, s₂ = { s with heap := h', toks := tk } ∧
          HoldsT w h' s.heap.objs.size xs items.size ∧ (∀ b o, b < s.heap.objs.size → s.heap.get? b = some o → h'.get? b = some o)) E)
        F.called_set.init.plain F.entry_set_init (check_set_init_1 hT ?_)) ?_
      · obtain ⟨ol, hol, hcl, nl, hdl⟩ := hl
        obtain ⟨ocls, odict, odata, oslots⟩ := ol
        simp only at hcl hdl
        subst hcl
        subst hdl
        have hol' : (s.heap.push (freshSet w)).get? l = some { cls := .type "tuple", dict := odict, data := .seq items nl, slots := oslots } := Heap.get?_push_of_some _ hol
        have hsls := F.sub_tuple_set
        have hslf := F.sub_tuple_frozenset
        have hne : (Value.type "tuple" == Value.type "dict") = false := by decide
        have hl1 : (s.heap.push (freshSet w)).IsTuple l items := ⟨_, hol', rfl, nl, rfl⟩
        unfold Builtin.«set.__init__» noKeywords Builtin.Frozenset.updateFrom
        generalize hPI : pyIter = PI
        wp_walk
        subst hPI
        refine wpAny_pyIter_tuple hl1 ?_
        refine wpAny_bind (wpAny_runValue ?_)
        have hlS : l < s.heap.objs.size := Heap.lt_size hol
        have hh3 : A.in1.in1.in1.handled = none := by simp [hh]
        have hsz : (s.heap.push (freshSet w)).objs.size = s.heap.objs.size + 1 := Heap.size_push _ _
        have hneI : l ≠ (s.heap.push (freshSet w)).objs.size := by
          rw [hsz]
          exact Nat.ne_of_lt (Nat.lt_succ_of_lt hlS)
        have hSf : s.heap.objs.size ∉ [(s.heap.push (freshSet w)).objs.size, l] := by
          rw [hsz]
          simp only [List.mem_cons, List.not_mem_nil, or_false, not_or]
          exact ⟨Nat.ne_of_lt (Nat.lt_succ_self _), Nat.ne_of_gt hlS⟩
        refine update_texts ((Walks.tuple hh3 _ l hneI items).toS) s.heap.objs.size hSf xs hi hb (items.size - 0) 0 _ (by omega) (Nat.zero_le _)
          ⟨⟨_, Heap.get?_push_size _ rfl, rfl, rfl⟩, (hl1.push _)⟩ ?hS0 ?hR
        case hS0 =>
          obtain ⟨M, m, T, e1, e2⟩ := setT_fresh (h := s.heap) w xs
          exact ⟨M, m, T.at fun o ho => Heap.get?_push_of_some _ ho, e1, e2⟩
        case hR =>
          intro s' hm hS'
          obtain ⟨h', g', d', tk', os'⟩ := s'
          have eg : g' = s.gens := hm.gens
          have ed : d' = s.drawn := hm.drawn
          have eo : os' = s.os := hm.os
          subst eg
          subst ed
          subst eo
          show wpAny _ _ _ _ _ _
          refine wpAny_pure ?_
          show wpAny _ _ (ret Value.none) _ _ _
          refine wpAny_pure ⟨rfl, h', tk', rfl, hS', ?_⟩
          intro b o hb e
          have hb1 : b ≠ s.heap.objs.size := Nat.ne_of_lt hb
          have hb2 : b ≠ (s.heap.push (freshSet w)).objs.size := by
            rw [hsz]
            exact Nat.ne_of_lt (Nat.lt_succ_of_lt hb)
          refine hm.heap b o ?_ (Heap.get?_push_of_some _ (Heap.get?_push_of_some _ e))
          simp only [List.mem_cons, List.not_mem_nil, or_false, not_or]
          exact ⟨hb1, hb2⟩
      · intro r₂ s₂ hr₂
        cases r₂ with
        | error e => exact hr₂
        | ok fl₂ =>
          cases fl₂ with
          | ret r =>
            obtain ⟨rfl, h', tk, rfl, hS', hk'⟩ := hr₂
            repeat (any_goals (first | assumption | wp_step))
            exact h _ _ hS' hk'
          | _ => exact hr₂.elim
    | _ => exact hr.elim

end
/-- set(t), t a tuple of texts, or a list -/
def rSetTx (K : PySem.W.Frag) (w : World) : List V → Hp → VK → Prop := fun vs H Q => ∃ (l : Addr) (xs : List Str), vs = [.ref l] ∧ (SqL K H l (xs.map V.str) ∨ SqT K H l (xs.map V.str)) ∧ xs.length + 1 < scanBound ∧
  ∀ p, H p = none → Q (.ref p) (upd H p (TxS w p xs))
section
variable {X : Cx}
theorem cr_setTx {K : PySem.W.Frag} {w : World} (hK : X.K = K) (hw : X.w = w) (hc : X.calm = true) : CallR X (.type "set") (rSetTx K w) := by
  subst hK hw
  intro pins s σ H vs us Q I r h
  obtain ⟨l, xs, rfl, hl, hz, q⟩ := h
  rw [Vals.ref1 r]
  rcases hl with hl | hl
  · obtain ⟨its, rv, pl, _⟩ := I.list hl
    have hlen : its.length = xs.length := by
      have := rv.length
      rw [List.length_map] at this
      exact this.symm
    refine call_set_texts (xs := xs) (I.ok.hd hc) pl.isList (fun i v hv => vals_str rv i v (by simpa using hv)) (by rw [List.size_toArray, hlen]; exact hz) ?_
    intro h' tk T k
    have ez : its.toArray.size = xs.length := by rw [List.size_toArray, hlen]
    rw [ez] at T
    have kk : ∀ b o, s.heap.get? b = some o → h'.get? b = some o := fun b o e => k b o (Heap.lt_size e) e
    exact ⟨.ref _, _, I.laid (t' := tk) kk (Nat.le_refl _) (txS_ok T), rfl, q _ (I.hok.fresh (Nat.le_refl _))⟩
  · obtain ⟨its, rv, pl, _⟩ := I.tuple hl
    have hlen : its.length = xs.length := by
      have := rv.length
      rw [List.length_map] at this
      exact this.symm
    refine call_set_textsT (xs := xs) (I.ok.hd hc) pl (fun i v hv => vals_str rv i v (by simpa using hv)) (by rw [List.size_toArray, hlen]; exact hz) ?_
    intro h' tk T k
    have ez : its.toArray.size = xs.length := by rw [List.size_toArray, hlen]
    rw [ez] at T
    have kk : ∀ b o, s.heap.get? b = some o → h'.get? b = some o := fun b o e => k b o (Heap.lt_size e) e
    exact ⟨.ref _, _, I.laid (t' := tk) kk (Nat.le_refl _) (txS_ok T), rfl, q _ (I.hok.fresh (Nat.le_refl _))⟩
end
end LP

set_option Elab.async false
set_option linter.all false
set_option maxRecDepth 100000
set_option maxHeartbeats 4000000
/-! LPA: comprehensions over ranges whose steps throw the dice. -/
namespace LP
open PySem PySem.Spec L2
open PyProof.Rows hiding St signs
theorem Dk.nlists {d : Addr} {H H' : Hp} {x y z : Int} (hd : H d = some (.lst [.int x, .int y, .int z])) (k : Dk d H H') : NL H H' := fun b o n hb => k.1 b o (fun e => by rw [e, hd] at hb; cases hb; exact n _ rfl) hb
theorem lc_dk {d : Addr} {n : Nat} {g : TG} {te : TE} {vs : List Nat} {σ : St} {H : Hp} {Q : VK} {x y z : Int} (hd : H d = some (.lst [.int x, .int y, .int z])) (Rl : V → Hp → Prop)
    (mono : ∀ y H1 H2, NL H1 H2 → Rl y H1 → Rl y H2) (hn : n ≤ 1000000)
    (he : ∀ i H1 (x y z : Int), i < n → H1 d = some (.lst [.int x, .int y, .int z]) → Dk d H H1 → ∀ R : VK, (∀ v H3, Dk d H1 H3 → Rl v H3 → R v H3) → g (.int (0 + (i : Nat))) (wipe σ vs) H1 fun σ2 H3 => wipe σ2 vs = wipe σ vs ∧ te σ2 H3 R)
    (q : ∀ p ys H2, H p = none → p ≠ d → Dk d H H2 → H2 p = some (.lst ys) → ys.length = n → (∀ v ∈ ys, Rl v H2) → Q (.ref p) H2) : LcLoop (Itr 0 n) g tYes te vs σ H Q := by
  intro D hD
  have nDd : D ≠ d := Dk.ne hd hD
  refine lc_range (lo := 0) (n := n) (fun i H' => Dk d H H' ∧ ∃ ys, H' D = some (.lst ys) ∧ ys.length = i ∧ ∀ v ∈ ys, Rl v H') ⟨(Dk.refl hd).lay hD nDd, [], upd_same, rfl, fun v hv => by cases hv⟩ ?_ ?_
  · rintro i H1 hi ⟨dk, ys, hy, ly, ok⟩
    obtain ⟨x1, y1, z1, hd1⟩ := dk.2
    have := he i H1 x1 y1 z1 hi hd1 dk (fun y H4 => ∃ acc, H4 D = some (.lst acc) ∧ acc.length < sizeLine ∧ (Dk d H (upd H4 D (.lst (acc ++ [y]))) ∧ ∃ ys, upd H4 D (.lst (acc ++ [y])) D = some (.lst ys) ∧ ys.length = i + 1 ∧ ∀ v ∈ ys, Rl v (upd H4 D (.lst (acc ++ [y]))))) fun v H3 dk3 r => ?_
    · show g _ _ _ fun σ2 H2 => _ ∧ tYes σ2 H2 fun b H3 => if b = true then _ else _
      exact this
    · have hy3 : H3 D = some (.lst ys) := dk3.1 _ _ nDd hy
      have nl : NL H3 (upd H3 D (.lst (ys ++ [v]))) := NL.put hy3
      refine ⟨ys, hy3, Nat.lt_of_le_of_lt (show ys.length ≤ 1000000 by omega) (by decide), (dk.trans dk3).lay hD nDd, _, upd_same, by rw [List.length_append, ly]; rfl, fun u hu => ?_⟩
      rcases List.mem_append.mp hu with hu | hu
      · exact mono u _ _ ((Dk.nlists hd1 dk3).trans nl) (ok u hu)
      · rw [List.mem_singleton.mp hu]
        exact mono v _ _ nl r
  · rintro H1 ⟨dk, ys, hy, ly, ok⟩
    exact q D ys H1 hD nDd dk hy ly ok
end LP

set_option Elab.async false
set_option linter.all false
set_option maxRecDepth 100000
set_option maxHeartbeats 2000000
/-! LPH: the end of a law over a head that is run in the kernel. -/
namespace LP
open PySem PySem.Spec L2
open PyProof.Rows hiding St
section
variable {K : PySem.W.Frag} {x q : Str} {st : Stmt} {f : Addr} {fd : FuncData}
/-- a def without defaults -/
theorem fun_of (F : FunD K x q (defArgs st) (defBody st) (defScope st) [] [] f fd) : Fun K x q st f fd := by
  obtain ⟨oc, od, dV, kV, doc, pm, an, cdv, ct, osl, e, l, c, d, _⟩ := F.ex
  rcases d with ⟨_, rfl⟩ | ⟨h, _⟩
  · exact ⟨⟨oc, od, kV, doc, pm, an, cdv, ct, osl, e, l, c⟩, F.kp⟩
  · exact (h rfl).elim
theorem code_of {p : He.Defn} (F : Fun K x q st (He.fAd K p) fd) : fd.code = .ref (He.cT K p).1 := by
  obtain ⟨oc, od, kV, doc, pm, an, cdv, ct, osl, rfl, l, c⟩ := F.ex
  obtain ⟨a, rfl⟩ := He.codeIn_ref c
  have e := He.codeOf_eq (c := a) l rfl
  show Value.ref a = Value.ref (He.codeOf K p)
  exact congrArg Value.ref e.symm
theorem ex_at {l : List Bool} (h : l.all id = true) (i : Nat) {b : Bool} (e : l[i]? = some b) : b = true := List.all_eq_true.mp h b (List.mem_of_getElem? e)
end
/-! ### what a head tells, at addresses of one's own choice -/
/-- what an object names, of what a walk looks at -/
def refsY (o : Obj) : List Addr := match o.data with
  | .func fd => He.refV fd.code
  | .cls cd => cd.ns :: cd.mro.flatMap He.refV
  | .dict es _ => es.toList.flatMap fun e => He.refV e.val
  | .fields vs => if vs.size ≤ 8 then vs.toList.flatMap He.refV else []
  | _ => []
def nextY (g : Addr → Option Obj) (as : List Addr) : List Addr := as.flatMap fun a => match g a with
  | some o => refsY o
  | none => []
def asY (g : Addr → Option Obj) : Nat → List Addr → List Addr
  | 0, l => l
  | n + 1, l => l ++ asY g n (nextY g l)
def frY (n : Nat) (g : Addr → Option Obj) : PySem.W.Frag := He.frT g (asY g n [mainGlobals, cStatics])
section
variable (n : Nat) (fa : List He.Fa) (fn : List He.DefD) (tf : List He.Defn) (ex : PySem.W.Frag → Bool)
def obsY (g : Addr → Option Obj) : He.AlD × Bool := (He.obsD fa fn (frY n g), ex (frY n g) && He.tabsB g tf (frY n g))
structure SaysY (h : Heap) (K : PySem.W.Frag) : Prop where
  d : He.SaysD fa fn K
  more : ex K = true
  hd : ∀ p ∈ tf, PySem.W.codeHdIn K (He.cT K p).1 (He.cT K p).2 = true
  out : ∀ p ∈ tf, K.lookup (He.cT K p).2 = none
  empty : ∀ p ∈ tf, h.get? (He.cT K p).2 = some { cls := .none, data := .fields #[] }
variable {n fa fn tf ex}
theorem saysY_of {hp : Heap} (e : obsY n fa fn tf ex hp.get? = (He.valD fn, true)) : SaysY fa fn tf ex hp (frY n hp.get?) := by
  have e1 : He.obsD fa fn (frY n hp.get?) = He.valD fn := congrArg Prod.fst e
  have e2 := congrArg Prod.snd e
  obtain ⟨m1, m2⟩ := He.ba (a := ex (frY n hp.get?)) (b := He.tabsB hp.get? tf (frY n hp.get?)) e2
  have each : ∀ z ∈ tf, PySem.W.codeHdIn (frY n hp.get?) (He.cT (frY n hp.get?) z).1 (He.cT (frY n hp.get?) z).2 = true ∧ ∃ ob, hp.get? (He.cT (frY n hp.get?) z).2 = some ob ∧ He.emptyTab ob = true := by
    intro z hz
    obtain ⟨k1, k2⟩ := He.ba (List.all_eq_true.mp m2 z hz)
    cases hq : hp.get? (He.cT (frY n hp.get?) z).2 with
    | some ob => exact ⟨k1, ob, rfl, by rw [hq] at k2; exact k2⟩
    | none =>
      rw [hq] at k2
      exact absurd k2 Bool.false_ne_true
  refine ⟨e1, m1, fun z hz => (each z hz).1, fun z hz => ?_, fun z hz => ?_⟩
  · obtain ⟨-, ob, a1, a2⟩ := each z hz
    exact He.frT_none a1 a2
  · obtain ⟨-, ob, a1, a2⟩ := each z hz
    exact a1.trans (congrArg some (He.emptyTab_eq a2))
variable (n fa fn tf ex)
def hookY : PySem.W.Hook where
  α := He.AlD × Bool
  obs := fun st => obsY n fa fn tf ex st.heap.get?
  val := fun _ => (He.valD fn, true)
  says := fun _ hp => ∃ K : PySem.W.Frag, K.In hp ∧ SaysY fa fn tf ex hp K
  of := fun _ st e => ⟨frY n st.heap.get?, He.frT_in, saysY_of e⟩
  keeps := fun _ _ _ ⟨K, KI, c⟩ kp => ⟨K, KI.keeps kp, ⟨c.d, c.more, c.hd, c.out, fun z hz => kp _ _ (c.empty z hz)⟩⟩
variable {n fa fn tf ex}
theorem obsY_eq {g : Addr → Option Obj} {st : Shared} (h : ∀ a, g a = st.heap.get? a) : obsY n fa fn tf ex g = (hookY n fa fn tf ex).obs st :=
  congrArg (obsY n fa fn tf ex) (funext h)
/-- the run in two: what every law asks of it, what the walk asks -/
def RunA (r : PySem.W.OpenRow) (q : Program) (M : Nat) (loose : List Str) (w : World) : Prop :=
  ∀ os : OsState, (HandSHeadRun.endF (HandSHeadRun.stepQ (HandSHeadRun.denQ HandSHeadRun.tabQ) r.prog w) M r.prog w os).map (fun s => (HandSHeadRun.looksF r.prog (PySem.W.boot_heap w.params) s.abs,
    HandSHeadRun.seenQ q loose (importedModules r.prog.main.body) (fun s => PySem.W.xlAt q [] s && PySem.W.recOk r.toRowW.records s) s.abs)) = some (true, PySem.W.openGood q loose)
def RunB (r : PySem.W.OpenRow) (H : PySem.W.Hook) (ob : PySem.W.SharedT → H.α) (M : Nat) (w : World) : Prop :=
  ∀ os : OsState, (HandSHeadRun.endF (HandSHeadRun.stepQ (HandSHeadRun.denQ HandSHeadRun.tabQ) r.prog w) M r.prog w os).map ob = some (H.val w)
theorem maps_of {α β γ δ : Type} {x : Option α} {f : α → β} {g : α → γ} {h : α → δ} {a : β} {b : γ} {c : δ} (e1 : x.map (fun s => (f s, g s)) = some (a, b)) (e2 : x.map h = some c) : x.map (fun s => (f s, g s, h s)) = some (a, b, c) := by
  cases x with
  | none => cases e1
  | some s =>
    have e3 : (f s, g s) = (a, b) := Option.some.inj e1
    have e4 : h s = c := Option.some.inj e2
    obtain ⟨rfl, rfl⟩ := Prod.mk.inj e3
    subst e4
    rfl
theorem run_of {r : PySem.W.OpenRow} {q : Program} {H : PySem.W.Hook} {ob : PySem.W.SharedT → H.α} {M : Nat} {loose : List Str} {w : World} (a : RunA r q M loose w) (b : RunB r H ob M w) : HandSHeadRun.RunEq r q H ob M loose w :=
  fun os => maps_of (a os) (b os)
/-- what a head tells of the tables -/
theorem hd_of {h : Heap} {K : PySem.W.Frag} (X : K.In h) (c : SaysY fa fn tf ex h K) :
    (∀ z ∈ tf.map (He.cT K), h.get? z.2 = some { cls := .none, data := .fields #[] }) ∧ (∀ z ∈ tf.map (He.cT K), K.lookup z.2 = none) ∧ (∀ z ∈ tf.map (He.cT K), PySem.W.CodeHd h z.1 z.2) := by
  refine ⟨fun z hz => ?_, fun z hz => ?_, fun z hz => ?_⟩
  · obtain ⟨p, hp, rfl⟩ := List.mem_map.mp hz
    exact c.empty p hp
  · obtain ⟨p, hp, rfl⟩ := List.mem_map.mp hz
    exact c.out p hp
  · obtain ⟨p, hp, rfl⟩ := List.mem_map.mp hz
    exact PySem.W.codeHd_of_K X (c.hd p hp)
end
end LP

set_option Elab.async false
set_option linter.all false
set_option maxRecDepth 100000
set_option maxHeartbeats 2000000
/-! LPHB: a head's facts, the defs at addresses of one's own choice (methods, properties, classmethods). -/
namespace LP
open PySem PySem.Spec L2
open PyProof.Rows hiding St
/-- one def: where it stands, its names, its text -/
structure DefY where
  at_ : PySem.W.Frag → Addr
  name : Str
  qual : Str
  st : Stmt
abbrev RecY : Type := Option (Str × Str × (Arguments × FuncBody × Scope) × Addr × List (Str × Addr) × Addr)
def recY (K : PySem.W.Frag) (a : Addr) : RecY := match K.lookup a with
  | some ob => (match ob.data with
    | .func u => some (u.name, u.qualname, (u.params, u.body, u.scope), u.globals, u.closure, u.builtins)
    | _ => none)
  | none => none
def DefY.told (d : DefY) : RecY := some (d.name, d.qual, (defArgs d.st, .stmts (defBody d.st), defScope d.st), mainGlobals, [], builtinsNs)
def DefY.good (K : PySem.W.Frag) (d : DefY) : Bool := match K.lookup (d.at_ K) with
  | some ob => (match ob.data with
    | .func u => (match u.defaults with
      | .none => PySem.W.codeIn K u.code d.qual && PySem.W.keepIn K (.ref (d.at_ K))
      | _ => false)
    | _ => false)
  | none => false
theorem DefY.fn {K : PySem.W.Frag} {d : DefY} (e : recY K (d.at_ K) = d.told) (g : d.good K = true) : ∃ fd, Fun K d.name d.qual d.st (d.at_ K) fd := by
  unfold recY at e
  unfold DefY.good at g
  cases q : K.lookup (d.at_ K) with
  | none =>
    rw [q] at g
    cases g
  | some ob =>
    rw [q] at g e
    obtain ⟨oc, od, dt, osl⟩ := ob
    cases dt with
    | func u =>
      obtain ⟨m1, m2, m3, m4, m5, m6, m7, m8, m9, m10, m11, m12, m13, m14, m15⟩ := u
      have e2 : ((m1, m2, (m3, m4, m5), m6, m7, m15) : Str × Str × (Arguments × FuncBody × Scope) × Addr × List (Str × Addr) × Addr) = (d.name, d.qual, (defArgs d.st, .stmts (defBody d.st), defScope d.st), mainGlobals, [], builtinsNs) := Option.some.inj e
      simp only [Prod.mk.injEq] at e2
      obtain ⟨r1, r2, ⟨r3, r4, r5⟩, r6, r7, r8⟩ := e2
      cases m8 with
      | none =>
        obtain ⟨g1, g2⟩ := He.ba (a := PySem.W.codeIn K m13 d.qual) (b := PySem.W.keepIn K (.ref (d.at_ K))) g
        subst r1 r2 r3 r4 r5 r6 r7 r8
        exact ⟨_, ⟨oc, od, m9, m10, m11, m12, m13, m14, osl, rfl, q, g1⟩, g2⟩
      | _ => cases g
    | _ => cases g
/-- what a record of the kind k at p holds first -/
def rcF (K : PySem.W.Frag) (p : Addr) (k : String) : Addr := match PySem.W.recIn K p k with
  | some (.ref f :: _) => f
  | _ => 0
def rcB (K : PySem.W.Frag) (p : Addr) (k : String) : Bool := match PySem.W.recIn K p k with
  | some (.ref _ :: _) => true
  | _ => false
theorem rc_of {K : PySem.W.Frag} {p : Addr} {k : String} (h : rcB K p k = true) : ∃ rest, PySem.W.recIn K p k = some (.ref (rcF K p k) :: rest) := by
  unfold rcB at h
  unfold rcF
  split at h
  · rename_i f r e
    rw [e]
    exact ⟨r, rfl⟩
  · cases h
section
variable (n : Nat) (fa : List He.Fa) (fn : List DefY) (tf : List He.Defn) (ex : PySem.W.Frag → Bool)
abbrev AlZ : Type := Bool × List RecY × Bool
def obsZ (g : Addr → Option Obj) : AlZ := ((fa.all fun z => z.ok (frY n g)) && (fn.all fun z => z.good (frY n g)), fn.map fun z => recY (frY n g) (z.at_ (frY n g)), ex (frY n g) && He.tabsB g tf (frY n g))
def valZ : AlZ := (true, fn.map DefY.told, true)
structure SaysZ (h : Heap) (K : PySem.W.Frag) : Prop where
  fact_ : ∀ z ∈ fa, He.Fa.ok K z = true
  def_ : ∀ z ∈ fn, ∃ fd, Fun K z.name z.qual z.st (z.at_ K) fd
  more : ex K = true
  hd : ∀ p ∈ tf, PySem.W.codeHdIn K (He.cT K p).1 (He.cT K p).2 = true
  out : ∀ p ∈ tf, K.lookup (He.cT K p).2 = none
  empty : ∀ p ∈ tf, h.get? (He.cT K p).2 = some { cls := .none, data := .fields #[] }
variable {n fa fn tf ex}
theorem saysZ_of {hp : Heap} (e : obsZ n fa fn tf ex hp.get? = valZ fn) : SaysZ fa fn tf ex hp (frY n hp.get?) := by
  have e1 := congrArg Prod.fst e
  have e2 : fn.map (fun z => recY (frY n hp.get?) (z.at_ (frY n hp.get?))) = fn.map DefY.told := congrArg (fun z => z.2.1) e
  have e3 := congrArg (fun z => z.2.2) e
  obtain ⟨l1, l2⟩ := He.ba (a := fa.all fun z => z.ok (frY n hp.get?)) (b := fn.all fun z => z.good (frY n hp.get?)) e1
  obtain ⟨m1, m2⟩ := He.ba (a := ex (frY n hp.get?)) (b := He.tabsB hp.get? tf (frY n hp.get?)) e3
  have each : ∀ z ∈ tf, PySem.W.codeHdIn (frY n hp.get?) (He.cT (frY n hp.get?) z).1 (He.cT (frY n hp.get?) z).2 = true ∧ ∃ ob, hp.get? (He.cT (frY n hp.get?) z).2 = some ob ∧ He.emptyTab ob = true := by
    intro z hz
    obtain ⟨k1, k2⟩ := He.ba (List.all_eq_true.mp m2 z hz)
    cases hq : hp.get? (He.cT (frY n hp.get?) z).2 with
    | some ob => exact ⟨k1, ob, rfl, by rw [hq] at k2; exact k2⟩
    | none =>
      rw [hq] at k2
      exact absurd k2 Bool.false_ne_true
  have same := List.map_inj_left.mp e2
  refine ⟨fun z hz => List.all_eq_true.mp l1 z hz, fun z hz => DefY.fn (same z hz) (List.all_eq_true.mp l2 z hz), m1, fun z hz => (each z hz).1, fun z hz => ?_, fun z hz => ?_⟩
  · obtain ⟨-, ob, a1, a2⟩ := each z hz
    exact He.frT_none a1 a2
  · obtain ⟨-, ob, a1, a2⟩ := each z hz
    exact a1.trans (congrArg some (He.emptyTab_eq a2))
theorem SaysZ.fact {h : Heap} {K : PySem.W.Frag} (c : SaysZ fa fn tf ex h K) (i : Nat) {f : He.Fa} (e : fa[i]? = some f) : f.ok K = true := c.fact_ f (List.mem_of_getElem? e)
theorem SaysZ.defn {h : Heap} {K : PySem.W.Frag} (c : SaysZ fa fn tf ex h K) (i : Nat) {d : DefY} (e : fn[i]? = some d) : ∃ fd, Fun K d.name d.qual d.st (d.at_ K) fd := c.def_ d (List.mem_of_getElem? e)
variable (n fa fn tf ex)
def hookZ : PySem.W.Hook where
  α := AlZ
  obs := fun st => obsZ n fa fn tf ex st.heap.get?
  val := fun _ => valZ fn
  says := fun _ hp => ∃ K : PySem.W.Frag, K.In hp ∧ SaysZ fa fn tf ex hp K
  of := fun _ st e => ⟨frY n st.heap.get?, He.frT_in, saysZ_of e⟩
  keeps := fun _ _ _ ⟨K, KI, c⟩ kp => ⟨K, KI.keeps kp, ⟨c.fact_, c.def_, c.more, c.hd, c.out, fun z hz => kp _ _ (c.empty z hz)⟩⟩
variable {n fa fn tf ex}
theorem obsZ_eq {g : Addr → Option Obj} {st : Shared} (h : ∀ a, g a = st.heap.get? a) : obsZ n fa fn tf ex g = (hookZ n fa fn tf ex).obs st :=
  congrArg (obsZ n fa fn tf ex) (funext h)
end
/-- a def with one parameter binds its argument, whatever the heap -/
theorem binds_one {K : PySem.W.Frag} {m q x : Str} {st : Stmt} {f : Addr} {fd : FuncData} (F : Fun K m q st f fd)
    (h : ∀ (kV doc pm : Value) (an : Option Addr) (cdv ct : Value) (u : Value), bindArgs (PySem.W.fnOf m q (defArgs st) (defBody st) (defScope st) .none kV doc pm an cdv ct) ⟨[u], []⟩ = pure [(x, u)]) (s : Shared) (u : Value) : BindsTo s fd ⟨[u], []⟩ [(x, u)] := by
  obtain ⟨oc, od, kV, doc, pm, an, cdv, ct, osl, rfl, l, c⟩ := F.ex
  exact .of_eq (h kV doc pm an cdv ct u)
theorem star_b {K : PySem.W.Frag} {m q x : Str} {st : Stmt} {f : Addr} {fd : FuncData} (F : Fun K m q st f fd)
    (h : ∀ (kV doc pm : Value) (an : Option Addr) (cdv ct : Value) (us : List Value), bindArgs (PySem.W.fnOf m q (defArgs st) (defBody st) (defScope st) .none kV doc pm an cdv ct) ⟨us, []⟩ = (newTuple us >>= fun t => pure [(x, t)])) (us : List Value) : bindArgs fd ⟨us, []⟩ = (newTuple us >>= fun t => pure [(x, t)]) := by
  obtain ⟨oc, od, kV, doc, pm, an, cdv, ct, osl, rfl, l, c⟩ := F.ex
  exact h kV doc pm an cdv ct us
theorem cls_b {K : PySem.W.Frag} {m q x y : Str} {st : Stmt} {f : Addr} {fd : FuncData} (F : Fun K m q st f fd)
    (h : ∀ (kV doc pm : Value) (an : Option Addr) (cdv ct : Value) (u : Value) (us : List Value), bindArgs (PySem.W.fnOf m q (defArgs st) (defBody st) (defScope st) .none kV doc pm an cdv ct) ⟨u :: us, []⟩ = (newTuple us >>= fun t => pure [(y, u), (x, t)])) (u : Value) (us : List Value) : bindArgs fd ⟨u :: us, []⟩ = (newTuple us >>= fun t => pure [(y, u), (x, t)]) := by
  obtain ⟨oc, od, kV, doc, pm, an, cdv, ct, osl, rfl, l, c⟩ := F.ex
  exact h kV doc pm an cdv ct u us
theorem noat_of {K : PySem.W.Frag} {C : Addr} {x : Str} (h : decide (PySem.W.findIn K (.ref C) x = some none) = true) : NoAttr K C x :=
  have e : PySem.W.findIn K (.ref C) x = some none := of_decide_eq_true h
  e
/-- the class hands the classmethod at p out -/
def cgB (K : PySem.W.Frag) (C p : Addr) (m : Str) : Bool := match PySem.W.findCls K (.ref C) (.type "type") m with
  | some (.get a b c d) => decide (a = .builtin "classmethod.__get__") && (decide (b = .ref p) && (decide (c = .none) && decide (d = .ref C)))
  | _ => false
theorem cg_of {K : PySem.W.Frag} {C p : Addr} {m : Str} (h : cgB K C p m = true) : PySem.W.findCls K (.ref C) (.type "type") m = some (.get (.builtin "classmethod.__get__") (.ref p) .none (.ref C)) := by
  unfold cgB at h
  split at h
  · rename_i a b c d e
    simp only [Bool.and_eq_true, decide_eq_true_eq] at h
    obtain ⟨h1, h2, h3, h4⟩ := h
    rw [e, h1, h2, h3, h4]
  · cases h
/-- the end over a head that is run -/
theorem walk_ofGE {l : PySem.W.OpenLaw} {n k : Nat} {q : Program} {loose : List Str} {XP : (Str → Option Value) → Heap → Prop} {YP : World → Heap → Prop} {d : DefRec} {x : Str}
    (hn : l.most = some n) (hn2 : n ≤ sizeLine) (hdf : d.params.defaults = []) (hr : Room k callerA)
    (F : ∀ (w : World) (mg : Str → Option Value) (fa : Addr) (h : Heap), YP w h → h.Ns mainGlobals mg → mg d.name = some (.ref fa) →
      ∃ (K : PySem.W.Frag) (fd : FuncData) (sp : Sp), K.In h ∧ (∀ (s : Shared) (u : Value), BindsTo s fd ⟨[u], []⟩ [(x, u)]) ∧
        (∀ (H : Hp) (a : Addr) (ns : List Int), ns.length ≤ n → Only H → SqL K H a (ns.map V.int) → sp [.ref a] H (fun v _ => v = .bl true) fun _ _ _ => False) ∧
        ∀ base : Heap, K.In base → base.Ns mainGlobals mg → FnG l.prog w K mg base CX0 k fa fd [x] sp) :
    PySem.W.WalkO q loose XP YP l.row.toRowW d [] (fun f vs => PySem.call f vs) := by
  refine Att.attach_call hn hdf ?_
  intro w s₀ s₁ mg mb fa o pm cd doc a vs ns G Y ho hd hcd hmg hobj hints hlen hg
  obtain ⟨K, fd, sp, KX, hb, hsp, hF⟩ := F w mg fa _ Y G.T.g hmg
  exact law_callG KX G.T.g G.T.b G.T.builtins G.T.nolimit hg hobj hints (Nat.le_trans hlen hn2) hr hF hb (fun H hO hS => hsp H a ns hlen hO hS)
end LP

set_option Elab.async false
set_option linter.all false
set_option maxRecDepth 100000
set_option maxHeartbeats 4000000
set_option exponentiation.threshold 5000
namespace K05
open PySem PySem.Spec L2 LP
open PyProof.Rows hiding St
def top (i : Nat) : Stmt := PySem.Challenge.pw_lastprices_k05_whole_which_machines_ther.main.body.getD i (.Pass ⟨0, 0, 0, 0⟩)
abbrev s_is_integer : Stmt := top 33
abbrev N_is_integer : List Str := ["value"]
abbrev P_is_integer : List Str := ["value"]
theorem sc_is_integer : FnScope N_is_integer P_is_integer (defScope s_is_integer) :=
  ⟨rfl, rfl, rfl, by decide +kernel, rfl, by decide +kernel, by decide +kernel⟩
abbrev s_is_within : Stmt := top 34
abbrev N_is_within : List Str := ["value", "low", "high"]
abbrev P_is_within : List Str := ["value", "low", "high"]
theorem sc_is_within : FnScope N_is_within P_is_within (defScope s_is_within) :=
  ⟨rfl, rfl, rfl, by decide +kernel, rfl, by decide +kernel, by decide +kernel⟩
abbrev s_is_spelt : Stmt := top 35
abbrev N_is_spelt : List Str := ["value", "letter"]
abbrev P_is_spelt : List Str := ["value"]
theorem sc_is_spelt : FnScope N_is_spelt P_is_spelt (defScope s_is_spelt) :=
  ⟨rfl, rfl, rfl, by decide +kernel, rfl, by decide +kernel, by decide +kernel⟩
abbrev s_is_name : Stmt := top 36
abbrev N_is_name : List Str := ["value"]
abbrev P_is_name : List Str := ["value"]
theorem sc_is_name : FnScope N_is_name P_is_name (defScope s_is_name) :=
  ⟨rfl, rfl, rfl, by decide +kernel, rfl, by decide +kernel, by decide +kernel⟩
abbrev s_is_letter : Stmt := top 37
abbrev N_is_letter : List Str := ["value"]
abbrev P_is_letter : List Str := ["value"]
theorem sc_is_letter : FnScope N_is_letter P_is_letter (defScope s_is_letter) :=
  ⟨rfl, rfl, rfl, by decide +kernel, rfl, by decide +kernel, by decide +kernel⟩
abbrev s_are_names : Stmt := top 39
abbrev N_are_names : List Str := ["value", "name", "one", "other"]
abbrev P_are_names : List Str := ["value"]
theorem sc_are_names : FnScope N_are_names P_are_names (defScope s_are_names) :=
  ⟨rfl, rfl, rfl, by decide +kernel, rfl, by decide +kernel, by decide +kernel⟩
abbrev s_is_place : Stmt := top 46
abbrev N_is_place : List Str := ["value"]
abbrev P_is_place : List Str := ["value"]
theorem sc_is_place : FnScope N_is_place P_is_place (defScope s_is_place) :=
  ⟨rfl, rfl, rfl, by decide +kernel, rfl, by decide +kernel, by decide +kernel⟩
abbrev s_is_price : Stmt := top 47
abbrev N_is_price : List Str := ["value"]
abbrev P_is_price : List Str := ["value"]
theorem sc_is_price : FnScope N_is_price P_is_price (defScope s_is_price) :=
  ⟨rfl, rfl, rfl, by decide +kernel, rfl, by decide +kernel, by decide +kernel⟩
abbrev s_are_ends : Stmt := top 48
abbrev N_are_ends : List Str := ["value"]
abbrev P_are_ends : List Str := ["value"]
theorem sc_are_ends : FnScope N_are_ends P_are_ends (defScope s_are_ends) :=
  ⟨rfl, rfl, rfl, by decide +kernel, rfl, by decide +kernel, by decide +kernel⟩
abbrev s_states_of : Stmt := top 49
abbrev N_states_of : List Str := ["firsts", "lasts", "arcs", "inner", "state", "letter", "later", "end"]
abbrev P_states_of : List Str := ["firsts", "lasts", "arcs"]
theorem sc_states_of : FnScope N_states_of P_states_of (defScope s_states_of) :=
  ⟨rfl, rfl, rfl, by decide +kernel, rfl, by decide +kernel, by decide +kernel⟩
abbrev s_are_parts : Stmt := top 50
abbrev N_are_parts : List Str := ["firsts", "lasts", "arcs", "place"]
abbrev P_are_parts : List Str := ["firsts", "lasts", "arcs"]
theorem sc_are_parts : FnScope N_are_parts P_are_parts (defScope s_are_parts) :=
  ⟨rfl, rfl, rfl, by decide +kernel, rfl, by decide +kernel, by decide +kernel⟩
abbrev s_steps_in : Stmt := top 51
abbrev N_steps_in : List Str := ["arcs", "found", "state", "letter", "later", "price"]
abbrev P_steps_in : List Str := ["arcs"]
theorem sc_steps_in : FnScope N_steps_in P_steps_in (defScope s_steps_in) :=
  ⟨rfl, rfl, rfl, by decide +kernel, rfl, by decide +kernel, by decide +kernel⟩
abbrev s_dice : Stmt := top 54
abbrev N_dice : List Str := ["_law_script", "_law_spot", "_law_cell", "_law_great", "_law_left"]
abbrev P_dice : List Str := ["_law_script", "_law_spot"]
theorem sc_dice : FnScope N_dice P_dice (defScope s_dice) :=
  ⟨rfl, rfl, rfl, by decide +kernel, rfl, by decide +kernel, by decide +kernel⟩
abbrev s_roll : Stmt := top 55
abbrev N_roll : List Str := ["_law_dice_here", "_law_total", "_law_found", "_law_one", "_law_two"]
abbrev P_roll : List Str := ["_law_dice_here", "_law_total"]
theorem sc_roll : FnScope N_roll P_roll (defScope s_roll) :=
  ⟨rfl, rfl, rfl, by decide +kernel, rfl, by decide +kernel, by decide +kernel⟩
abbrev s_pick : Stmt := top 56
abbrev N_pick : List Str := ["_law_dice_here", "_law_items"]
abbrev P_pick : List Str := ["_law_dice_here", "_law_items"]
theorem sc_pick : FnScope N_pick P_pick (defScope s_pick) :=
  ⟨rfl, rfl, rfl, by decide +kernel, rfl, by decide +kernel, by decide +kernel⟩
abbrev s_mixed : Stmt := top 57
abbrev N_mixed : List Str := ["_law_dice_here", "_law_items", "_law_left", "_law_found", "_law_turn"]
abbrev P_mixed : List Str := ["_law_dice_here", "_law_items"]
theorem sc_mixed : FnScope N_mixed P_mixed (defScope s_mixed) :=
  ⟨rfl, rfl, rfl, by decide +kernel, rfl, by decide +kernel, by decide +kernel⟩
abbrev s_some : Stmt := top 58
abbrev N_some : List Str := ["_law_dice_here", "_law_items", "_law_kept", "_law_item"]
abbrev P_some : List Str := ["_law_dice_here", "_law_items"]
theorem sc_some : FnScope N_some P_some (defScope s_some) :=
  ⟨rfl, rfl, rfl, by decide +kernel, rfl, by decide +kernel, by decide +kernel⟩
abbrev s_state_names : Stmt := top 59
abbrev N_state_names : List Str := ["_law_dice_here", "_law_many"]
abbrev P_state_names : List Str := ["_law_dice_here", "_law_many"]
theorem sc_state_names : FnScope N_state_names P_state_names (defScope s_state_names) :=
  ⟨rfl, rfl, rfl, by decide +kernel, rfl, by decide +kernel, by decide +kernel⟩
abbrev s_plain : Stmt := top 60
abbrev N_plain : List Str := ["_law_lines", "_law_found", "_law_line", "_law_words"]
abbrev P_plain : List Str := ["_law_lines"]
theorem sc_plain : FnScope N_plain P_plain (defScope s_plain) :=
  ⟨rfl, rfl, rfl, by decide +kernel, rfl, by decide +kernel, by decide +kernel⟩
abbrev s_block : Stmt := top 61
abbrev N_block : List Str := ["_law_lines"]
abbrev P_block : List Str := []
theorem sc_block : FnScope N_block P_block (defScope s_block) :=
  ⟨rfl, rfl, rfl, by decide +kernel, rfl, by decide +kernel, by decide +kernel⟩
abbrev s_count : Stmt := top 62
abbrev N_count : List Str := []
abbrev P_count : List Str := []
theorem sc_count : FnScope N_count P_count (defScope s_count) :=
  ⟨rfl, rfl, rfl, by decide +kernel, rfl, by decide +kernel, by decide +kernel⟩
abbrev s_deal : Stmt := top 63
abbrev N_deal : List Str := []
abbrev P_deal : List Str := []
theorem sc_deal : FnScope N_deal P_deal (defScope s_deal) :=
  ⟨rfl, rfl, rfl, by decide +kernel, rfl, by decide +kernel, by decide +kernel⟩
abbrev s_either : Stmt := top 64
abbrev N_either : List Str := ["_law_lines"]
abbrev P_either : List Str := []
theorem sc_either : FnScope N_either P_either (defScope s_either) :=
  ⟨rfl, rfl, rfl, by decide +kernel, rfl, by decide +kernel, by decide +kernel⟩
abbrev s_thrice : Stmt := top 65
abbrev N_thrice : List Str := ["_law_lines"]
abbrev P_thrice : List Str := []
theorem sc_thrice : FnScope N_thrice P_thrice (defScope s_thrice) :=
  ⟨rfl, rfl, rfl, by decide +kernel, rfl, by decide +kernel, by decide +kernel⟩
abbrev s_uneven : Stmt := top 66
abbrev N_uneven : List Str := []
abbrev P_uneven : List Str := []
theorem sc_uneven : FnScope N_uneven P_uneven (defScope s_uneven) :=
  ⟨rfl, rfl, rfl, by decide +kernel, rfl, by decide +kernel, by decide +kernel⟩
abbrev s_paid : Stmt := top 67
abbrev N_paid : List Str := ["_law_lines"]
abbrev P_paid : List Str := []
theorem sc_paid : FnScope N_paid P_paid (defScope s_paid) :=
  ⟨rfl, rfl, rfl, by decide +kernel, rfl, by decide +kernel, by decide +kernel⟩
abbrev s_written : Stmt := top 68
abbrev N_written : List Str := ["_law_way"]
abbrev P_written : List Str := ["_law_way"]
theorem sc_written : FnScope N_written P_written (defScope s_written) :=
  ⟨rfl, rfl, rfl, by decide +kernel, rfl, by decide +kernel, by decide +kernel⟩
abbrev s_drawn_machine : Stmt := top 69
abbrev N_drawn_machine : List Str := ["_law_dice_here", "_law_states", "_law_letters", "_law_names", "_law_signs", "_law_arcs", "_law_state", "_law_sign", "_law_later"]
abbrev P_drawn_machine : List Str := ["_law_dice_here", "_law_states", "_law_letters"]
theorem sc_drawn_machine : FnScope N_drawn_machine P_drawn_machine (defScope s_drawn_machine) :=
  ⟨rfl, rfl, rfl, by decide +kernel, rfl, by decide +kernel, by decide +kernel⟩
abbrev s_any_machine : Stmt := top 70
abbrev N_any_machine : List Str := ["_law_dice_here", "_law_states", "_law_letters"]
abbrev P_any_machine : List Str := ["_law_dice_here", "_law_states", "_law_letters"]
theorem sc_any_machine : FnScope N_any_machine P_any_machine (defScope s_any_machine) :=
  ⟨rfl, rfl, rfl, by decide +kernel, rfl, by decide +kernel, by decide +kernel⟩
abbrev s_is_made : Stmt := top 71
abbrev N_is_made : List Str := ["_law_firsts", "_law_lasts", "_law_arcs"]
abbrev P_is_made : List Str := ["_law_firsts", "_law_lasts", "_law_arcs"]
theorem sc_is_made : FnScope N_is_made P_is_made (defScope s_is_made) :=
  ⟨rfl, rfl, rfl, by decide +kernel, rfl, by decide +kernel, by decide +kernel⟩
abbrev s_is_nameL : Stmt := top 72
abbrev N_is_nameL : List Str := ["_law_word"]
abbrev P_is_nameL : List Str := ["_law_word"]
theorem sc_is_nameL : FnScope N_is_nameL P_is_nameL (defScope s_is_nameL) :=
  ⟨rfl, rfl, rfl, by decide +kernel, rfl, by decide +kernel, by decide +kernel⟩
abbrev s_are_endsL : Stmt := top 73
abbrev N_are_endsL : List Str := ["_law_value", "_law_name"]
abbrev P_are_endsL : List Str := ["_law_value"]
theorem sc_are_endsL : FnScope N_are_endsL P_are_endsL (defScope s_are_endsL) :=
  ⟨rfl, rfl, rfl, by decide +kernel, rfl, by decide +kernel, by decide +kernel⟩
abbrev s_is_arc : Stmt := top 74
abbrev N_is_arc : List Str := ["_law_place", "_law_price", "_law_one"]
abbrev P_is_arc : List Str := ["_law_place", "_law_price"]
theorem sc_is_arc : FnScope N_is_arc P_is_arc (defScope s_is_arc) :=
  ⟨rfl, rfl, rfl, by decide +kernel, rfl, by decide +kernel, by decide +kernel⟩
abbrev s_is_let : Stmt := top 75
abbrev N_is_let : List Str := ["_law_firsts", "_law_lasts", "_law_arcs", "_law_place", "_law_states", "_law_state", "_law_letter", "_law_later"]
abbrev P_is_let : List Str := ["_law_firsts", "_law_lasts", "_law_arcs"]
theorem sc_is_let : FnScope N_is_let P_is_let (defScope s_is_let) :=
  ⟨rfl, rfl, rfl, by decide +kernel, rfl, by decide +kernel, by decide +kernel⟩
abbrev s_agrees : Stmt := top 76
abbrev N_agrees : List Str := ["_law_firsts", "_law_lasts", "_law_arcs"]
abbrev P_agrees : List Str := ["_law_firsts", "_law_lasts", "_law_arcs"]
theorem sc_agrees : FnScope N_agrees P_agrees (defScope s_agrees) :=
  ⟨rfl, rfl, rfl, by decide +kernel, rfl, by decide +kernel, by decide +kernel⟩
abbrev s_small_right : Stmt := top 77
abbrev N_small_right : List Str := ["_law_ends", "_law_places", "_law_number", "_law_arcs", "_law_left", "_law_place", "_law_one"]
abbrev P_small_right : List Str := []
theorem sc_small_right : FnScope N_small_right P_small_right (defScope s_small_right) :=
  ⟨rfl, rfl, rfl, by decide +kernel, rfl, by decide +kernel, by decide +kernel⟩
abbrev s_bent : Stmt := top 78
abbrev N_bent : List Str := ["_law_dice_here", "_law_firsts", "_law_lasts", "_law_arcs", "_law_way", "_law_more", "_law_odd"]
abbrev P_bent : List Str := ["_law_dice_here", "_law_firsts", "_law_lasts", "_law_arcs"]
theorem sc_bent : FnScope N_bent P_bent (defScope s_bent) :=
  ⟨rfl, rfl, rfl, by decide +kernel, rfl, by decide +kernel, by decide +kernel⟩
abbrev s_law : Stmt := top 79
abbrev N_law : List Str := ["_law_script", "_law_spot", "_law_dice_here", "_law_turn", "_law_plain_here", "_law_parts", "_law_many", "_law_names", "_law_letter", "_law_cut", "_law_arcs", "_law_one", "_law_other"]
abbrev P_law : List Str := ["_law_script"]
theorem sc_law : FnScope N_law P_law (defScope s_law) :=
  ⟨rfl, rfl, rfl, by decide +kernel, rfl, by decide +kernel, by decide +kernel⟩
abbrev s_Machine___init__ : Stmt := mth (top 52) 1
abbrev N_Machine___init__ : List Str := ["self", "firsts", "lasts", "arcs", "place", "told", "state", "letter", "later", "price"]
abbrev P_Machine___init__ : List Str := ["self", "firsts", "lasts", "arcs"]
theorem sc_Machine___init__ : FnScope N_Machine___init__ P_Machine___init__ (defScope s_Machine___init__) :=
  ⟨rfl, rfl, rfl, by decide +kernel, rfl, by decide +kernel, by decide +kernel⟩
structure Bt (mg : Str → Option Value) : Prop where
  abs : mg "abs" = none
  all : mg "all" = none
  bool : mg "bool" = none
  dict : mg "dict" = none
  int : mg "int" = none
  isinstance : mg "isinstance" = none
  len : mg "len" = none
  list : mg "list" = none
  max : mg "max" = none
  min : mg "min" = none
  range : mg "range" = none
  set : mg "set" = none
  sorted : mg "sorted" = none
  str : mg "str" = none
  tuple : mg "tuple" = none
  zip : mg "zip" = none
structure Cs (mg : Str → Option Value) : Prop where
  LIMIT : ∃ t_LIMIT, mg "LIMIT" = some (.int (10 ^ 60) t_LIMIT)
  ALPHABET : ∃ t_ALPHABET, mg "ALPHABET" = some (.str "abcdefghijklmnopqrstuvwxyz" t_ALPHABET)
  MAX_LETTERS : ∃ t_MAX_LETTERS, mg "MAX_LETTERS" = some (.int 8 t_MAX_LETTERS)
  MAX_STATES : ∃ t_MAX_STATES, mg "MAX_STATES" = some (.int 24 t_MAX_STATES)
  MAX_PRICE : ∃ t_MAX_PRICE, mg "MAX_PRICE" = some (.int 9 t_MAX_PRICE)
  FIRST : ∃ t_FIRST, mg "FIRST" = some (.str "first" t_FIRST)
  LAST : ∃ t_LAST, mg "LAST" = some (.str "last" t_LAST)
  ARC : ∃ t_ARC, mg "ARC" = some (.str "arc" t_ARC)
structure Ad where
  (a_is_integer : Addr)
  (d_is_integer : FuncData)
  (a_is_within : Addr)
  (d_is_within : FuncData)
  (a_is_spelt : Addr)
  (d_is_spelt : FuncData)
  (a_is_name : Addr)
  (d_is_name : FuncData)
  (a_is_letter : Addr)
  (d_is_letter : FuncData)
  (a_are_names : Addr)
  (d_are_names : FuncData)
  (a_is_place : Addr)
  (d_is_place : FuncData)
  (a_is_price : Addr)
  (d_is_price : FuncData)
  (a_are_ends : Addr)
  (d_are_ends : FuncData)
  (a_states_of : Addr)
  (d_states_of : FuncData)
  (a_are_parts : Addr)
  (d_are_parts : FuncData)
  (a_steps_in : Addr)
  (d_steps_in : FuncData)
  (a_dice : Addr)
  (d_dice : FuncData)
  (a_roll : Addr)
  (d_roll : FuncData)
  (a_pick : Addr)
  (d_pick : FuncData)
  (a_mixed : Addr)
  (d_mixed : FuncData)
  (a_some : Addr)
  (d_some : FuncData)
  (a_state_names : Addr)
  (d_state_names : FuncData)
  (a_plain : Addr)
  (d_plain : FuncData)
  (a_block : Addr)
  (d_block : FuncData)
  (a_count : Addr)
  (d_count : FuncData)
  (a_deal : Addr)
  (d_deal : FuncData)
  (a_either : Addr)
  (d_either : FuncData)
  (a_thrice : Addr)
  (d_thrice : FuncData)
  (a_uneven : Addr)
  (d_uneven : FuncData)
  (a_paid : Addr)
  (d_paid : FuncData)
  (a_written : Addr)
  (d_written : FuncData)
  (a_drawn_machine : Addr)
  (d_drawn_machine : FuncData)
  (a_any_machine : Addr)
  (d_any_machine : FuncData)
  (a_is_made : Addr)
  (d_is_made : FuncData)
  (a_is_nameL : Addr)
  (d_is_nameL : FuncData)
  (a_are_endsL : Addr)
  (d_are_endsL : FuncData)
  (a_is_arc : Addr)
  (d_is_arc : FuncData)
  (a_is_let : Addr)
  (d_is_let : FuncData)
  (a_agrees : Addr)
  (d_agrees : FuncData)
  (a_small_right : Addr)
  (d_small_right : FuncData)
  (a_bent : Addr)
  (d_bent : FuncData)
  (a_law : Addr)
  (d_law : FuncData)
  (a_Machine___init__ : Addr)
  (d_Machine___init__ : FuncData)
  (c_Machine : Addr)
  (q_Machine_own_arcs : Addr)
  (q_Machine_own_firsts : Addr)
  (q_Machine_own_lasts : Addr)
  (q_Machine_own_lines : Addr)
  (q_Machine_own_states : Addr)
  (q_Machine_own_steps : Addr)
  (c_InvalidMachine : Addr)
structure Ds (K : PySem.W.Frag) (mg : Str → Option Value) (Z : Ad) : Prop where
  is_integer : Df K mg "is_integer" s_is_integer P_is_integer Z.a_is_integer Z.d_is_integer
  is_within : Df K mg "is_within" s_is_within P_is_within Z.a_is_within Z.d_is_within
  is_spelt : Df K mg "is_spelt" s_is_spelt P_is_spelt Z.a_is_spelt Z.d_is_spelt
  is_name : Df K mg "is_name" s_is_name P_is_name Z.a_is_name Z.d_is_name
  is_letter : Df K mg "is_letter" s_is_letter P_is_letter Z.a_is_letter Z.d_is_letter
  are_names : Df K mg "are_names" s_are_names P_are_names Z.a_are_names Z.d_are_names
  is_place : Df K mg "is_place" s_is_place P_is_place Z.a_is_place Z.d_is_place
  is_price : Df K mg "is_price" s_is_price P_is_price Z.a_is_price Z.d_is_price
  are_ends : Df K mg "are_ends" s_are_ends P_are_ends Z.a_are_ends Z.d_are_ends
  states_of : Df K mg "states_of" s_states_of P_states_of Z.a_states_of Z.d_states_of
  are_parts : Df K mg "are_parts" s_are_parts P_are_parts Z.a_are_parts Z.d_are_parts
  steps_in : Df K mg "steps_in" s_steps_in P_steps_in Z.a_steps_in Z.d_steps_in
  dice : Df K mg "_law_dice" s_dice P_dice Z.a_dice Z.d_dice
  roll : Df K mg "_law_roll" s_roll P_roll Z.a_roll Z.d_roll
  pick : Df K mg "_law_pick" s_pick P_pick Z.a_pick Z.d_pick
  mixed : Df K mg "_law_mixed" s_mixed P_mixed Z.a_mixed Z.d_mixed
  some : Df K mg "_law_some" s_some P_some Z.a_some Z.d_some
  state_names : Df K mg "_law_state_names" s_state_names P_state_names Z.a_state_names Z.d_state_names
  plain : Df K mg "_law_plain" s_plain P_plain Z.a_plain Z.d_plain
  block : Df K mg "_law_block" s_block P_block Z.a_block Z.d_block
  count : Df K mg "_law_count" s_count P_count Z.a_count Z.d_count
  deal : Df K mg "_law_deal" s_deal P_deal Z.a_deal Z.d_deal
  either : Df K mg "_law_either" s_either P_either Z.a_either Z.d_either
  thrice : Df K mg "_law_thrice" s_thrice P_thrice Z.a_thrice Z.d_thrice
  uneven : Df K mg "_law_uneven" s_uneven P_uneven Z.a_uneven Z.d_uneven
  paid : Df K mg "_law_paid" s_paid P_paid Z.a_paid Z.d_paid
  written : Df K mg "_law_written" s_written P_written Z.a_written Z.d_written
  drawn_machine : Df K mg "_law_drawn_machine" s_drawn_machine P_drawn_machine Z.a_drawn_machine Z.d_drawn_machine
  any_machine : Df K mg "_law_any_machine" s_any_machine P_any_machine Z.a_any_machine Z.d_any_machine
  is_made : Df K mg "_law_is_made" s_is_made P_is_made Z.a_is_made Z.d_is_made
  is_nameL : Df K mg "_law_is_name" s_is_nameL P_is_nameL Z.a_is_nameL Z.d_is_nameL
  are_endsL : Df K mg "_law_are_ends" s_are_endsL P_are_endsL Z.a_are_endsL Z.d_are_endsL
  is_arc : Df K mg "_law_is_arc" s_is_arc P_is_arc Z.a_is_arc Z.d_is_arc
  is_let : Df K mg "_law_is_let" s_is_let P_is_let Z.a_is_let Z.d_is_let
  agrees : Df K mg "_law_agrees" s_agrees P_agrees Z.a_agrees Z.d_agrees
  small_right : Df K mg "_law_small_right" s_small_right P_small_right Z.a_small_right Z.d_small_right
  bent : Df K mg "_law_bent" s_bent P_bent Z.a_bent Z.d_bent
  law : Df K mg "law" s_law P_law Z.a_law Z.d_law
  Machine___init__ : Mt K Z.c_Machine "__init__" "Machine.__init__" s_Machine___init__ P_Machine___init__ Z.a_Machine___init__ Z.d_Machine___init__
  Machine : Ob K mg "Machine" Z.c_Machine
  Machine_kn : kitN K Z.c_Machine = true
  Machine_own_arcs : SlX.Slot1 K Z.c_Machine "own_arcs" Z.q_Machine_own_arcs 0
  Machine_own_firsts : SlX.Slot1 K Z.c_Machine "own_firsts" Z.q_Machine_own_firsts 1
  Machine_own_lasts : SlX.Slot1 K Z.c_Machine "own_lasts" Z.q_Machine_own_lasts 2
  Machine_own_lines : SlX.Slot1 K Z.c_Machine "own_lines" Z.q_Machine_own_lines 3
  Machine_own_states : SlX.Slot1 K Z.c_Machine "own_states" Z.q_Machine_own_states 4
  Machine_own_steps : SlX.Slot1 K Z.c_Machine "own_steps" Z.q_Machine_own_steps 5
  InvalidMachine : Ok0 K mg "InvalidMachine" Z.c_InvalidMachine
structure Tx (K : PySem.W.Frag) (Z : Ad) : Prop where
  ex : PySem.W.exmOne K (.ref Z.c_InvalidMachine) (.ref Z.c_InvalidMachine) = some true
/-! ### the head -/
def Q_names : List (List Str) := [
  ["_wall", "PriceError", "InvalidMachine", "InvalidText", "InvalidOperation", "UnknownName", "TooMany", "MOST_STATES", "MOST_PRICE", "PLACES", "states_in", "arcs_by_letter", "steps_with", "after_letter", "price_along", "names_for", "sides_of", "named", "named_arcs", "ascending", "choice_of", "sums_of", "both_of", "bridges", "joined_of"],
  ["turned_of", "MAX_LETTERS", "MAX_TEXT", "ALPHABET", "LIMIT", "is_integer", "is_within", "is_spelt", "is_name", "is_letter", "is_text", "are_names", "MAX_STATES", "MAX_PRICE", "FIRST", "LAST", "ARC", "is_place", "is_price", "are_ends", "states_of", "are_parts", "steps_in", "Machine", "_law_dice"],
  ["_law_roll", "_law_pick", "_law_mixed", "_law_some", "_law_state_names", "_law_plain", "_law_block", "_law_count", "_law_deal", "_law_either", "_law_thrice", "_law_uneven", "_law_paid", "_law_written", "_law_drawn_machine", "_law_any_machine", "_law_is_made", "_law_is_name", "_law_are_ends", "_law_is_arc", "_law_is_let", "_law_agrees", "_law_small_right", "_law_bent"]
]
def u_0 : DefY := ⟨fun K => He.ga K "is_integer", "is_integer", "is_integer", s_is_integer⟩
def u_1 : DefY := ⟨fun K => He.ga K "is_within", "is_within", "is_within", s_is_within⟩
def u_2 : DefY := ⟨fun K => He.ga K "is_spelt", "is_spelt", "is_spelt", s_is_spelt⟩
def u_3 : DefY := ⟨fun K => He.ga K "is_name", "is_name", "is_name", s_is_name⟩
def u_4 : DefY := ⟨fun K => He.ga K "is_letter", "is_letter", "is_letter", s_is_letter⟩
def u_5 : DefY := ⟨fun K => He.ga K "are_names", "are_names", "are_names", s_are_names⟩
def u_6 : DefY := ⟨fun K => He.ga K "is_place", "is_place", "is_place", s_is_place⟩
def u_7 : DefY := ⟨fun K => He.ga K "is_price", "is_price", "is_price", s_is_price⟩
def u_8 : DefY := ⟨fun K => He.ga K "are_ends", "are_ends", "are_ends", s_are_ends⟩
def u_9 : DefY := ⟨fun K => He.ga K "states_of", "states_of", "states_of", s_states_of⟩
def u_10 : DefY := ⟨fun K => He.ga K "are_parts", "are_parts", "are_parts", s_are_parts⟩
def u_11 : DefY := ⟨fun K => He.ga K "steps_in", "steps_in", "steps_in", s_steps_in⟩
def u_12 : DefY := ⟨fun K => He.ga K "_law_dice", "_law_dice", "_law_dice", s_dice⟩
def u_13 : DefY := ⟨fun K => He.ga K "_law_roll", "_law_roll", "_law_roll", s_roll⟩
def u_14 : DefY := ⟨fun K => He.ga K "_law_pick", "_law_pick", "_law_pick", s_pick⟩
def u_15 : DefY := ⟨fun K => He.ga K "_law_mixed", "_law_mixed", "_law_mixed", s_mixed⟩
def u_16 : DefY := ⟨fun K => He.ga K "_law_some", "_law_some", "_law_some", s_some⟩
def u_17 : DefY := ⟨fun K => He.ga K "_law_state_names", "_law_state_names", "_law_state_names", s_state_names⟩
def u_18 : DefY := ⟨fun K => He.ga K "_law_plain", "_law_plain", "_law_plain", s_plain⟩
def u_19 : DefY := ⟨fun K => He.ga K "_law_block", "_law_block", "_law_block", s_block⟩
def u_20 : DefY := ⟨fun K => He.ga K "_law_count", "_law_count", "_law_count", s_count⟩
def u_21 : DefY := ⟨fun K => He.ga K "_law_deal", "_law_deal", "_law_deal", s_deal⟩
def u_22 : DefY := ⟨fun K => He.ga K "_law_either", "_law_either", "_law_either", s_either⟩
def u_23 : DefY := ⟨fun K => He.ga K "_law_thrice", "_law_thrice", "_law_thrice", s_thrice⟩
def u_24 : DefY := ⟨fun K => He.ga K "_law_uneven", "_law_uneven", "_law_uneven", s_uneven⟩
def u_25 : DefY := ⟨fun K => He.ga K "_law_paid", "_law_paid", "_law_paid", s_paid⟩
def u_26 : DefY := ⟨fun K => He.ga K "_law_written", "_law_written", "_law_written", s_written⟩
def u_27 : DefY := ⟨fun K => He.ga K "_law_drawn_machine", "_law_drawn_machine", "_law_drawn_machine", s_drawn_machine⟩
def u_28 : DefY := ⟨fun K => He.ga K "_law_any_machine", "_law_any_machine", "_law_any_machine", s_any_machine⟩
def u_29 : DefY := ⟨fun K => He.ga K "_law_is_made", "_law_is_made", "_law_is_made", s_is_made⟩
def u_30 : DefY := ⟨fun K => He.ga K "_law_is_name", "_law_is_name", "_law_is_name", s_is_nameL⟩
def u_31 : DefY := ⟨fun K => He.ga K "_law_are_ends", "_law_are_ends", "_law_are_ends", s_are_endsL⟩
def u_32 : DefY := ⟨fun K => He.ga K "_law_is_arc", "_law_is_arc", "_law_is_arc", s_is_arc⟩
def u_33 : DefY := ⟨fun K => He.ga K "_law_is_let", "_law_is_let", "_law_is_let", s_is_let⟩
def u_34 : DefY := ⟨fun K => He.ga K "_law_agrees", "_law_agrees", "_law_agrees", s_agrees⟩
def u_35 : DefY := ⟨fun K => He.ga K "_law_small_right", "_law_small_right", "_law_small_right", s_small_right⟩
def u_36 : DefY := ⟨fun K => He.ga K "_law_bent", "_law_bent", "_law_bent", s_bent⟩
def u_37 : DefY := ⟨fun K => He.ga K "law", "law", "law", s_law⟩
def u_38 : DefY := ⟨fun K => (He.ma K (He.ga K "Machine") "__init__"), "__init__", "Machine.__init__", s_Machine___init__⟩
def FN : List DefY := [u_0, u_1, u_2, u_3, u_4, u_5, u_6, u_7, u_8, u_9, u_10, u_11, u_12, u_13, u_14, u_15, u_16, u_17, u_18, u_19, u_20, u_21, u_22, u_23, u_24, u_25, u_26, u_27, u_28, u_29, u_30, u_31, u_32, u_33, u_34, u_35, u_36, u_37, u_38]
def FA : List He.Fa := [.glo "is_integer", .glo "is_within", .glo "is_spelt", .glo "is_name", .glo "is_letter", .glo "are_names", .glo "is_place", .glo "is_price", .glo "are_ends", .glo "states_of", .glo "are_parts", .glo "steps_in", .glo "_law_dice", .glo "_law_roll", .glo "_law_pick", .glo "_law_mixed", .glo "_law_some", .glo "_law_state_names", .glo "_law_plain", .glo "_law_block", .glo "_law_count", .glo "_law_deal", .glo "_law_either", .glo "_law_thrice", .glo "_law_uneven", .glo "_law_paid", .glo "_law_written", .glo "_law_drawn_machine", .glo "_law_any_machine", .glo "_law_is_made", .glo "_law_is_name", .glo "_law_are_ends", .glo "_law_is_arc", .glo "_law_is_let", .glo "_law_agrees", .glo "_law_small_right", .glo "_law_bent", .glo "law", .glo "Machine", .glo "InvalidMachine", .int "LIMIT" (10 ^ 60), .str "ALPHABET" "abcdefghijklmnopqrstuvwxyz", .int "MAX_LETTERS" 8, .int "MAX_STATES" 24, .int "MAX_PRICE" 9, .str "FIRST" "first", .str "LAST" "last", .str "ARC" "arc", .free "abs", .free "all", .free "bool", .free "dict", .free "int", .free "isinstance", .free "len", .free "list", .free "max", .free "min", .free "range", .free "set", .free "sorted", .free "str", .free "tuple", .free "zip"]
def EXL (K : PySem.W.Frag) : List Bool := [decide (PySem.W.findIn K (.ref (He.ga K "Machine")) "__init__" = some (some (.ref (He.ma K (He.ga K "Machine") "__init__")))),
  PySem.W.isFn K (.ref (He.ma K (He.ga K "Machine") "__init__")),
  obB K (He.ga K "Machine"),
  kitN K (He.ga K "Machine"),
  slB K (He.ga K "Machine") (He.ma K (He.ga K "Machine") "own_arcs") "own_arcs" 0,
  slB K (He.ga K "Machine") (He.ma K (He.ga K "Machine") "own_firsts") "own_firsts" 1,
  slB K (He.ga K "Machine") (He.ma K (He.ga K "Machine") "own_lasts") "own_lasts" 2,
  slB K (He.ga K "Machine") (He.ma K (He.ga K "Machine") "own_lines") "own_lines" 3,
  slB K (He.ga K "Machine") (He.ma K (He.ga K "Machine") "own_states") "own_states" 4,
  slB K (He.ga K "Machine") (He.ma K (He.ga K "Machine") "own_steps") "own_steps" 5,
  xkB K (He.ga K "InvalidMachine"),
  PySem.W.excIn K (He.ga K "InvalidMachine") [.type "ValueError", .type "Exception", .type "BaseException", .type "object"] "ValueError.__new__",
  decide (PySem.W.exmOne K (.ref (He.ga K "InvalidMachine")) (.ref (He.ga K "InvalidMachine")) = some true)]
def EX (K : PySem.W.Frag) : Bool := (EXL K).all id
def TF : List He.Defn := []
abbrev R : PySem.W.OpenRow := PySem.W.OpenLaw.row PySem.Challenge.rw_lastprices_k05_whole_which_machines_ther
abbrev hk : PySem.W.Hook := hookZ 5 FA FN TF EX
def ob (s : PySem.W.SharedT) : AlZ := obsZ 5 FA FN TF EX (HandSHeadRun.getT s)
theorem ob_eq (s : PySem.W.SharedT) : ob s = hk.obs s.abs := obsZ_eq (HandSHeadRun.getT_eq s)
def loose : List Str := Q_names.flatten
abbrev qv : Program := PySem.W.view R.prog [79]
set_option maxHeartbeats 0 in
theorem run_a (w : World) : RunA R qv 9000 loose w := by
  intro os
  kernel_rfl
set_option maxHeartbeats 0 in
theorem run_b (w : World) : RunB R hk ob 9000 w := by
  intro os
  kernel_rfl
theorem run (w : World) : HandSHeadRun.RunEq R qv hk ob 9000 loose w := run_of (run_a w) (run_b w)

local macro_rules | `(tactic| walk_at "rd") => `(tactic| try simp only [cx_K, cx_w, tRet, tSeq_eq, tAsg, tDrop, tIfS_eq, tNext, gName, gSub, tAndV, tOrV, tNotV, tB, tTest, tAnd, tOr, tNot, tIf, tCB, tCons, tNil, tVar, tC, tOp, tUn, tChain, rI0, rI, rU, tLst, tTup, tCall, tPar,   tFor_eq, tLc_eq, iRng1, iRng2, iList, iTup, iStr, iZip, tRevL, tDisp, tPairs, tYes, wipe, id, rNe, rEq, scal_str, rIxS, tSM, tLM, rIxM, rLenM, rCat, rInt, rIntB, rSetL, rAppend, rExtend, rAllM, rRepS, rRng2, rInRng, atI0, atI1, atI2, ixN30, ixN32, upd_same, upd_upd,   L2.start, List.map_cons, List.map_nil, List.length_cons, List.length_nil, List.reduceReplicate, List.replicate_succ, List.replicate_zero, Nat.reduceAdd, Nat.reduceSub, List.nil_append, List.cons_append, List.append_nil,   List.getElem?_cons_zero, List.getElem?_cons_succ, List.set_cons_zero, List.set_cons_succ, Int.zero_add,   Option.some.injEq, HO.lst.injEq, HO.tup.injEq, HO.rng.injEq, V.int.injEq, V.bl.injEq, V.str.injEq, V.ref.injEq, reduceCtorEq, exists_eq_left, exists_eq_left', exists_eq_right, exists_eq', exists_eq, exists_and_left, true_and, and_true, false_and, and_assoc, exists_false, List.cons.injEq, ↓reduceIte, if_true, if_false, Bool.false_eq_true, tLc2_eq, LP.tDcT_eq, LP.rSortD, rLenS, rLenTM, rIxTM, rTupM, HO.tup.injEq, Bool.not_true, Bool.not_false, rJoin, LZ.iZipN, LZ.iEnumN, gTup, gLst, gCons, gNil, tSlot, SlX.tPropSl, SlX.tMethSl, StX.tMakeR, rStrOwn, tFldC, tMeth, tLM0, rPop, rPopAt, rInT, rInL, tFmt, tJs, LP.tCallS, HO.ins.injEq, tPar3, tAug, ipI, L2.tSl, tPart, tNoPart, rSlS, LP.rIsE, PT.open_sg, PT.shut_sg, PT.again_sg, PT.scal_bl, PT.scal_int, PT.cast0, PT.in3, PT.in2, PT.flat3, PT.flat2, PT.flat_str, PT.sg_inj, Nat.reduceEqDiff, Int.reduceEq, true_or, or_true, false_or, or_false, or_self, decide_true, decide_false, decide_not, Bool.decide_eq_true, Bool.decide_eq_false, not_true_eq_false, not_false_eq_true, LP.scal_intE, LP.scal_blE, rSlT, tDGet, tDGet2, sDPut, tLock, tLockE, StX.tStar, LP.rInD, LP.rNinD, iKeys, LP.iItT, tDNewT, tDNewK, iVals, iItems, LP.tScT_eq, LP.tListVals, LP.tDictItems, LP.tCMethS, LP.tFldC, LP.sFldC, tMeth, tMake, rSetOfT, tRevT_eq, LPMX.iKeysN, LPMX.tDGetN, LPMX.sDPutN, LPMX.rIsiN, LPMX.tListItemsT, LPMX.tDictItemsT, LP.rSetTx, *])
local macro_rules | `(tactic| walk_at "go") => `(tactic| (refine later ?_; walk_at "rd"))
local macro_rules | `(tactic| walk_at "gg") => `(tactic| repeat (refine later ?_; walk_at "rd"))
local macro_rules | `(tactic| walk_at "cj") => `(tactic| repeat (refine And.intro (by first | assumption | exact cpow60 | exact cpow59 | exact cpow17 | exact mul60 | decide | exact .inl ⟨by decide, by decide⟩ | exact .inr ⟨by decide, by decide⟩ | omega | exact ⟨by decide, by decide⟩) ?_))
/-! ### the dice -/
section
variable {P : Program} {w : World} {K : PySem.W.Frag} {mg : Str → Option Value} {base : Heap} {Z : Ad}
def spRoll : Sp := fun vs H Q _ => ∃ (d : Addr) (x y z n : Int), vs = [.ref d, .int n] ∧ H d = some (.lst [.int x, .int y, .int z]) ∧ 0 < n ∧ n.natAbs.log2 < 9000 ∧
  ∀ r x' y' z' : Int, 0 ≤ r → r < n → Q (.int r) (upd H d (.lst [.int x', .int y', .int z']))
theorem ok_roll (D : Ds K mg Z) (B : Bt mg) : FnOk P w K mg base CX0 1 Z.a_roll Z.d_roll P_roll spRoll := by
  refine D.roll.F.ok sc_roll (fun vs H Q E h => ?_) (fun cdv A outer s H vs Q E hr h => ?_)
  · obtain ⟨d, x, y, z, n, rfl, _⟩ := h
    rfl
  · obtain ⟨d, x, y, z, n, rfl, hd, hn, hlog, q⟩ := h
    refine ⟨_, (pss_cons (ps_if (pt_cmpR op_gt (pe_ix ix_M (pv 0) pe_int (fun _ _ => rfl)) pe_int (nomark _)) (pss_cons (ps_set (i := 2) sc_roll.nd rfl (Or.inl rfl) (pe_op op_mod (pe_callTy call_intI (by rfl) B.int (by decide +kernel) (pa_cons (pe_ix ix_M (pv 0) pe_int (fun _ _ => rfl)) pa_nil)) (pv 1)))
    (pss_cons (ps_asg (pe_op op_fdivW (pe_ix ix_M (pv 0) pe_int (fun _ _ => rfl)) (pv 1)) (pg_sub (pv 0) pe_int set_list))
    (pss_one (ps_ret (pv 2))))) pss_nil)
    (pss_cons (ps_asg (pe_op op_add (pe_ix ix_M (pv 0) pe_int (fun _ _ => rfl)) pe_int) (pg_sub (pv 0) pe_int set_list))
    (pss_cons (ps_set (i := 3) sc_roll.nd rfl (Or.inl rfl) (pe_op op_mod (pe_callTy call_intI (by rfl) B.int (by decide +kernel) (pa_cons (pe_op op_add (pe_ix ix_M (pv 0) pe_int (fun _ _ => rfl)) (pe_op op_mul pe_int (pe_ix ix_M (pv 0) pe_int (fun _ _ => rfl)))) pa_nil)) pe_int))
    (pss_cons (ps_set (i := 4) sc_roll.nd rfl (Or.inl rfl) (pe_op op_add (pe_op op_mul (pe_op op_mod (pe_callTy call_intI (by rfl) B.int (by decide +kernel) (pa_cons (pe_op op_add (pe_op op_mul (pv 3) (pv 3)) (pe_op op_mul pe_int (pe_ix ix_M (pv 0) pe_int (fun _ _ => rfl)))) pa_nil)) pe_int) pe_int) (pv 3)))
    (pss_one (ps_ret (pe_op op_mod (pe_callTy call_intI (by rfl) B.int (by decide +kernel) (pa_cons (pe_op op_fdivW (pv 4) pe_int) pa_nil)) (pv 1)))))))), ?_⟩
    walk_at "rd"
    have hdv : ∀ i : Int, CDivW i n := fun i => ⟨hn, hlog⟩
    have hm : ∀ i : Int, 0 ≤ i % n ∧ i % n < n := fun i => ⟨Int.emod_nonneg _ (by omega), Int.emod_lt_of_pos _ hn⟩
    refine ite2 (fun h => ?_) (fun h => ?_)
    · walk_at "go"
      walk_at "go"
      walk_at "go"
    · walk_at "go"
      walk_at "go"
      walk_at "go"
      refine ⟨.inl ⟨by decide, by decide⟩, by decide, ?_⟩
      have h1 := Int.emod_nonneg (y + 7907 * (z + 1)) (show (2305843009213693907 : Int) ≠ 0 by decide)
      have h2 := Int.emod_lt_of_pos (y + 7907 * (z + 1)) (show (0 : Int) < 2305843009213693907 by decide)
      generalize (y + 7907 * (z + 1)) % 2305843009213693907 = o at h1 h2 ⊢
      walk_at "go"
      have h3 := Int.emod_nonneg (o * o + 67 * (z + 1)) (show (2305843009213693921 : Int) ≠ 0 by decide)
      have h4 := Int.emod_lt_of_pos (o * o + 67 * (z + 1)) (show (0 : Int) < 2305843009213693921 by decide)
      refine ⟨.inl ⟨by omega, by omega⟩, .inl ⟨by decide, by decide⟩, by decide, .inr ⟨by decide, by decide⟩, ?_⟩
      walk_at "go"
      exact ⟨by decide, by decide⟩

def Items (H : Hp) (d : Addr) (it : V) (xs : List V) : Prop := (∃ l, it = .ref l ∧ l ≠ d ∧ H l = some (.lst xs)) ∨
  (∃ z : Str, it = .str z ∧ xs = z.cps.toList.map fun c => V.str ⟨#[c]⟩)
def spPick : Sp := fun vs H Q _ => ∃ (d : Addr) (x y z : Int) (it : V) (xs : List V), vs = [.ref d, it] ∧ H d = some (.lst [.int x, .int y, .int z]) ∧
  Items H d it xs ∧ 0 < xs.length ∧ xs.length ≤ 1000 ∧ ∀ v, v ∈ xs → ∀ x' y' z' : Int, Q v (upd H d (.lst [.int x', .int y', .int z']))
theorem ok_pick (D : Ds K mg Z) (B : Bt mg) : FnOk P w K mg base CX0 2 Z.a_pick Z.d_pick P_pick spPick := by
  have G_roll := ok_roll (P := P) (w := w) (base := base) D B
  refine D.pick.F.ok sc_pick (fun vs H Q E h => ?_) (fun cdv A outer s H vs Q E hr h => ?_)
  · obtain ⟨d, x, y, z, it, xs, rfl, _⟩ := h
    rfl
  · obtain ⟨d, x, y, z, it, xs, rfl, hd, hit, h0, h1, q⟩ := h
    refine ⟨_, (pss_one (ps_ret (pe_ix ix_seq (pv 1) (pe_df D.roll G_roll (hr.mono (by decide)) (by rfl) (pa_cons (pv 0) (pa_cons (pe_callB call_len (by rfl) B.len (by decide +kernel) (pa_cons (pv 1) pa_nil)) pa_nil))) (fun _ _ => rfl)))), ?_⟩
    have hlog : ((xs.length : Int)).natAbs.log2 < 9000 := Nat.lt_of_lt_of_le (log2_of (k := 10) (by omega) (by decide)) (by decide)
    have hat : ∀ r : Int, 0 ≤ r → r < (xs.length : Int) → ∃ v, v ∈ xs ∧ atI xs r = some v := by
      intro r r0 r1
      have hr' : r.toNat < xs.length := by omega
      refine ⟨xs[r.toNat], List.getElem_mem hr', ?_⟩
      exact L2.at_of (j := r.toNat) (by omega) (List.getElem?_eq_getElem hr')
    walk_at "rd"
    rcases hit with ⟨l, rfl, nl, hl⟩ | ⟨z', rfl, rfl⟩
    · refine ⟨xs.length, .inl ⟨xs, SqL.of hl, rfl⟩, ?_⟩
      refine ⟨d, x, y, z, _, rfl, hd, by omega, hlog, fun r x' y' z' r0 r1 => ?_⟩
      obtain ⟨v, hv, ha⟩ := hat r r0 r1
      exact .inl ⟨l, xs, r, v, rfl, rfl, SqL.of (by rw [upd_ne nl]; exact hl), ha, q v hv _ _ _⟩
    · rw [List.length_map] at h0 h1
      have ez : z'.length = z'.cps.toList.length := len_tl' z'
      have hz : z'.length ≤ sizeLine := Nat.le_trans (show z'.length ≤ 1000 by omega) (by decide)
      rw [List.length_map, ← ez] at hat hlog
      refine ⟨z'.length, ⟨hz, rfl⟩, ?_⟩
      refine ⟨d, x, y, z, _, rfl, hd, by omega, hlog, fun r x' y' w' r0 r1 => ?_⟩
      have hr' : r.toNat < z'.cps.toList.length := by omega
      have ha : atI z'.cps.toList r = some z'.cps.toList[r.toNat] := atI_of r0 hr'
      refine .inr (.inr ⟨z', r, z'.cps.toList[r.toNat], rfl, rfl, hz, ha, ?_⟩)
      exact q _ (List.mem_map.mpr ⟨_, List.getElem_mem hr', rfl⟩) _ _ _

def spDice (K : PySem.W.Frag) : Sp := fun vs H Q _ => ∃ (a : Addr) (ns : List Int) (i : Nat), vs = [.ref a, .int (i : Int)] ∧ SqL K H a (ns.map V.int) ∧
  ∀ (p : Addr) (x y : Int), H p = none → Q (.ref p) (upd H p (.lst [.int x, .int y, .int 0]))
theorem ok_dice (D : Ds K mg Z) (B : Bt mg) : FnOk P w K mg base CX0 1 Z.a_dice Z.d_dice P_dice (spDice K) := by
  refine D.dice.F.ok sc_dice (fun vs H Q E h => ?_) (fun cdv A outer s H vs Q E hr h => ?_)
  · obtain ⟨a, ns, i, rfl, _⟩ := h
    rfl
  · obtain ⟨a, ns, i, rfl, hS, q⟩ := h
    refine ⟨_, (pss_cons (ps_set (i := 2) sc_dice.nd rfl (Or.inl rfl) (pe_ifExp (pt_cmpR op_lt (pv 1) (pe_callB (call_lenK (K := K) rfl) (by rfl) B.len (by decide +kernel) (pa_cons (pv 0) pa_nil)) (nomark _)) (pe_callTy call_intI (by rfl) B.int (by decide +kernel) (pa_cons (pe_ix (ix_listK (K := K) rfl) (pv 0) (pv 1) (fun _ _ => rfl)) pa_nil)) (pe_op op_add (pe_op op_mul pe_int (pv 1)) pe_int)))
    (pss_cons (ps_set (i := 3) sc_dice.nd rfl (Or.inl rfl) (pe_op op_mod (pe_callB call_abs (by rfl) B.abs (by decide +kernel) (pa_cons (pv 2) pa_nil)) (pe_op op_pow pe_int pe_int)))
    (pss_cons (ps_set (i := 4) sc_dice.nd rfl (Or.inl rfl) (pe_callB (call_max2 rfl) (by rfl) B.max (by decide +kernel) (pa_cons pe_int (pa_cons (pe_op op_sub (pe_callB call_abs (by rfl) B.abs (by decide +kernel) (pa_cons (pv 2) pa_nil)) (pe_op op_pow pe_int pe_int)) pa_nil))))
    (pss_one (ps_ret (pe_lst (pa_cons (pe_op op_mod (pv 4) (pe_op op_mulW (pe_op op_pow pe_int pe_int) (pe_op op_pow pe_int pe_int))) (pa_cons (pe_op op_add (pe_op op_add (pe_op op_add (pe_op op_mul (pe_op op_mod (pv 3) pe_int) pe_int) (pe_op op_mul pe_int (pv 1))) (pe_op op_mul pe_int (pe_callTy call_intB (by rfl) B.int (by decide +kernel) (pa_cons (pe_cmpR op_lt (pv 2) pe_int (nomark _)) pa_nil)))) pe_int) (pa_cons pe_int pa_nil))))))))), ?_⟩
    walk_at "rd"
    refine ⟨_, .inl hS, ?_⟩
    rw [List.length_map]
    have cut : ∀ (A B : Prop) (c : Bool), (c = true → A) → (c = false → B) → if c = true then A else B := by
      intro A B c h1 h2
      cases c
      · exact h2 rfl
      · exact h1 rfl
    refine cut _ _ _ (fun h => ?_) (fun h => ?_)
    · have hi : i < ns.length := by have := of_decide_eq_true h; omega
      refine ⟨a, _, _, .int ns[i], rfl, rfl, hS, L2.at_of rfl (by rw [List.getElem?_map, List.getElem?_eq_getElem hi]; rfl), ?_⟩
      walk_at "rd"
      generalize ns[i] = c
      walk_at "go"
      refine ⟨cpow59, by decide, ?_⟩
      walk_at "go"
      refine ⟨cpow17, ?_⟩
      walk_at "go"
      walk_at "cj"
      exact fun p hp => q p _ _ hp
    · refine ⟨.inl ⟨by decide, by decide⟩, ?_⟩
      generalize 43 * (i : Int) + 7 = c
      walk_at "go"
      refine ⟨cpow59, by decide, ?_⟩
      walk_at "go"
      refine ⟨cpow17, ?_⟩
      walk_at "go"
      walk_at "cj"
      exact fun p hp => q p _ _ hp

end
/-! ### words -/
def alpha : Str := "abcdefghijklmnopqrstuvwxyz"
def spelt : V → Bool
  | .str x => (TL.tl x).all fun c => decide (c ∈ TL.tl alpha)
  | _ => false
def lenV : V → Nat
  | .str x => x.length
  | _ => 0
def isName (v : V) : Bool := spelt v && (decide (1 ≤ lenV v) && decide (lenV v ≤ 8))
def isLetter (v : V) : Bool := spelt v && decide (lenV v = 1)
def isText (v : V) : Bool := spelt v && decide (lenV v ≤ 100000)
/-- a plain value, a text of at most a million signs -/
def OkV (K : PySem.W.Frag) (H : Hp) (v : V) : Prop := (∃ t, Pl K H v t) ∧ lenV v ≤ 1000000
theorem OkV.same {K : PySem.W.Frag} {H H' : Hp} {v : V} (e : Same H H') (h : OkV K H v) : OkV K H' v := by
  obtain ⟨⟨t, p⟩, z⟩ := h
  exact ⟨⟨t, p.same e⟩, z⟩
def sp1 (K : PySem.W.Frag) (f : V → Bool) : Sp := fun vs H Q _ => ∃ v, vs = [v] ∧ OkV K H v ∧ ∀ H', Same H H' → Q (.bl (f v)) H'

section
variable {P : Program} {w : World} {K : PySem.W.Frag} {mg : Str → Option Value} {base : Heap} {Z : Ad}
theorem ok_is_spelt (D : Ds K mg Z) (B : Bt mg) (C0 : Cs mg) : FnOk P w K mg base CX0 1 Z.a_is_spelt Z.d_is_spelt P_is_spelt (sp1 K spelt) := by
  obtain ⟨⟨t_LIMIT, c_LIMIT⟩, ⟨t_ALPHABET, c_ALPHABET⟩, ⟨t_MAX_LETTERS, c_MAX_LETTERS⟩, ⟨t_MAX_STATES, c_MAX_STATES⟩, ⟨t_MAX_PRICE, c_MAX_PRICE⟩, ⟨t_FIRST, c_FIRST⟩, ⟨t_LAST, c_LAST⟩, ⟨t_ARC, c_ARC⟩⟩ := C0
  refine D.is_spelt.F.ok sc_is_spelt (fun vs H Q E h => ?_) (fun cdv A outer s H vs Q E hr h => ?_)
  · obtain ⟨v, rfl, _⟩ := h
    rfl
  · obtain ⟨v, rfl, ⟨⟨t, pl⟩, hz⟩, q⟩ := h
    refine ⟨_, (pss_one (ps_ret (pe_and (pe_callB (call_isiK' (K := K) rfl) (by rfl) B.isinstance (by decide +kernel) (pa_cons (pv 0) (pa_cons (pe_bltn (v := .ty "str") (by rfl) B.str (by decide +kernel) rfl) pa_nil))) (pe_one (pe_callB (cr_allM rfl) (by rfl) B.all (by decide +kernel) (pa_cons (pe_lc (own := [("letter", 1)]) (g := gName 1) rfl sc_is_spelt.nd (pi_str (pv 0)) (blkOk_by (N := N_is_spelt) (sc := defScope s_is_spelt) (by decide +kernel)) (fun _ _ _ _ _ => (pg_name (i := 1) sc_is_spelt.nd rfl (Or.inl rfl))) (fun _ _ _ _ _ => pts_nil) (fun _ _ _ _ _ => (pe_cmpR op_sgn (pv 1) (pe_glob (v := .str _) (by rfl) c_ALPHABET ⟨_, rfl⟩) (by rfl)))) pa_nil)))))), ?_⟩
    walk_at "rd"
    refine rd_isi pl (isi_str pl) ?_
    walk_at "rd"
    cases pl with
    | str x =>
      rw [if_pos (by decide)]
      walk_at "rd"
      refine lc_mapW (walk_signs x) (fun _ _ => trivial) (by rw [signs_len]; exact hz) (fun v => match v with | .str y => .bl (decide (y.cps.getD 0 0 ∈ TL.tl alpha)) | _ => .non) (fun x => rfl) ?_ ?_
      · intro v hv H1 e1 R hR
        obtain ⟨c, _, rfl⟩ := List.mem_map.mp hv
        walk_at "rd"
        refine ⟨c, alpha, rfl, rfl, ?_⟩
        exact hR H1 (Same.refl _)
      · intro p H2 hp e2 hl
        refine ⟨p, rfl, (TL.tl x).map (fun c => decide (c ∈ TL.tl alpha)), ?_, ?_⟩
        · rw [hl]
          unfold LP.signs sgn
          rw [List.map_map, List.map_map]
          rfl
        · have r := q H2 e2
          have e : ((TL.tl x).map (fun c => decide (c ∈ TL.tl alpha))).all id = spelt (.str x) := by
            rw [List.all_map]
            rfl
          rw [e]
          exact r
    | _ =>
      rw [if_neg (by decide)]
      exact q H (Same.refl _)

theorem ok_is_name (D : Ds K mg Z) (B : Bt mg) (C0 : Cs mg) : FnOk P w K mg base CX0 2 Z.a_is_name Z.d_is_name P_is_name (sp1 K isName) := by
  have G_is_spelt := ok_is_spelt (P := P) (w := w) (base := base) D B C0
  obtain ⟨⟨t_LIMIT, c_LIMIT⟩, ⟨t_ALPHABET, c_ALPHABET⟩, ⟨t_MAX_LETTERS, c_MAX_LETTERS⟩, ⟨t_MAX_STATES, c_MAX_STATES⟩, ⟨t_MAX_PRICE, c_MAX_PRICE⟩, ⟨t_FIRST, c_FIRST⟩, ⟨t_LAST, c_LAST⟩, ⟨t_ARC, c_ARC⟩⟩ := C0
  refine D.is_name.F.ok sc_is_name (fun vs H Q E h => ?_) (fun cdv A outer s H vs Q E hr h => ?_)
  · obtain ⟨v, rfl, _⟩ := h
    rfl
  · obtain ⟨v, rfl, ok, q⟩ := h
    refine ⟨_, (pss_one (ps_ret (pe_and (pe_df D.is_spelt G_is_spelt (hr.mono (by decide)) (by rfl) (pa_cons (pv 0) pa_nil)) (pe_one (pe_chain op_le op_le pe_int (pe_callB call_len_str (by rfl) B.len (by decide +kernel) (pa_cons (pv 0) pa_nil)) (pe_glob (v := .int _) (by rfl) c_MAX_LETTERS ⟨_, rfl⟩)))))), ?_⟩
    walk_at "rd"
    refine ⟨v, rfl, ok, fun H1 e1 => ?_⟩
    walk_at "rd"
    replace q := q H1 e1
    unfold isName at q
    refine ite2 (fun h => ?_) (fun h => ?_)
    · cases v with
      | str x =>
        rw [h, Bool.true_and] at q
        walk_at "rd"
        refine ⟨Nat.le_trans ok.2 (by decide), ?_⟩
        have e1 : decide ((1 : Int) ≤ (x.length : Int)) = decide (1 ≤ lenV (.str x)) := decide_eq_decide.mpr (by show _ ↔ 1 ≤ x.length; omega)
        have e2 : decide ((x.length : Int) ≤ 8) = decide (lenV (.str x) ≤ 8) := decide_eq_decide.mpr (by show _ ↔ x.length ≤ 8; omega)
        rw [e1, e2]
        refine ite2 (fun h => ?_) (fun h => ?_)
        · rw [h, Bool.true_and] at q
          exact q
        · rw [Bool.eq_false_iff.mpr h, Bool.false_and] at q
          exact q
      | _ => cases h
    · rw [Bool.eq_false_iff.mpr h, Bool.false_and] at q
      exact q
theorem ok_is_letter (D : Ds K mg Z) (B : Bt mg) (C0 : Cs mg) : FnOk P w K mg base CX0 2 Z.a_is_letter Z.d_is_letter P_is_letter (sp1 K isLetter) := by
  have G_is_spelt := ok_is_spelt (P := P) (w := w) (base := base) D B C0
  obtain ⟨⟨t_LIMIT, c_LIMIT⟩, ⟨t_ALPHABET, c_ALPHABET⟩, ⟨t_MAX_LETTERS, c_MAX_LETTERS⟩, ⟨t_MAX_STATES, c_MAX_STATES⟩, ⟨t_MAX_PRICE, c_MAX_PRICE⟩, ⟨t_FIRST, c_FIRST⟩, ⟨t_LAST, c_LAST⟩, ⟨t_ARC, c_ARC⟩⟩ := C0
  refine D.is_letter.F.ok sc_is_letter (fun vs H Q E h => ?_) (fun cdv A outer s H vs Q E hr h => ?_)
  · obtain ⟨v, rfl, _⟩ := h
    rfl
  · obtain ⟨v, rfl, ok, q⟩ := h
    refine ⟨_, (pss_one (ps_ret (pe_and (pe_df D.is_spelt G_is_spelt (hr.mono (by decide)) (by rfl) (pa_cons (pv 0) pa_nil)) (pe_one (pe_cmpR op_eq (pe_callB call_len_str (by rfl) B.len (by decide +kernel) (pa_cons (pv 0) pa_nil)) pe_int (nomark _)))))), ?_⟩
    walk_at "rd"
    refine ⟨v, rfl, ok, fun H1 e1 => ?_⟩
    walk_at "rd"
    replace q := q H1 e1
    unfold isLetter at q
    refine ite2 (fun h => ?_) (fun h => ?_)
    · cases v with
      | str x =>
        rw [h, Bool.true_and] at q
        walk_at "rd"
        refine ⟨Nat.le_trans ok.2 (by decide), ?_⟩
        have e1 : decide ((x.length : Int) = 1) = decide (lenV (.str x) = 1) := decide_eq_decide.mpr (by show _ ↔ x.length = 1; omega)
        rw [e1]
        exact q
      | _ => cases h
    · rw [Bool.eq_false_iff.mpr h, Bool.false_and] at q
      exact q
def isInt : V → Bool
  | .int i => decide (-10 ^ 60 < i) && decide (i < 10 ^ 60)
  | _ => false
def isCnt : V → Bool
  | .int i => (decide (-10 ^ 60 < i) && decide (i < 10 ^ 60)) && decide (0 ≤ i)
  | _ => false
def spIsInt (K : PySem.W.Frag) : Sp := fun vs H Q _ => ∃ v t, vs = [v] ∧ Pl K H v t ∧ Q (.bl (isInt v)) H
def spIsCnt (K : PySem.W.Frag) : Sp := fun vs H Q _ => ∃ v t, vs = [v] ∧ Pl K H v t ∧ Q (.bl (isCnt v)) H

theorem ok_is_integer (D : Ds K mg Z) (B : Bt mg) (C0 : Cs mg) : FnOk P w K mg base CX0 1 Z.a_is_integer Z.d_is_integer P_is_integer (spIsInt K) := by
  obtain ⟨⟨t_LIMIT, c_LIMIT⟩, ⟨t_ALPHABET, c_ALPHABET⟩, ⟨t_MAX_LETTERS, c_MAX_LETTERS⟩, ⟨t_MAX_STATES, c_MAX_STATES⟩, ⟨t_MAX_PRICE, c_MAX_PRICE⟩, ⟨t_FIRST, c_FIRST⟩, ⟨t_LAST, c_LAST⟩, ⟨t_ARC, c_ARC⟩⟩ := C0
  refine D.is_integer.F.ok sc_is_integer (fun vs H Q E h => ?_) (fun cdv A outer s H vs Q E hr h => ?_)
  · obtain ⟨v, t, rfl, _⟩ := h
    rfl
  · obtain ⟨v, t, rfl, pl, q⟩ := h
    
    refine ⟨_, (pss_one (ps_ret (pe_and (pe_callB (call_isiK' (K := K) rfl) (by rfl) B.isinstance (by decide +kernel) (pa_cons (pv 0) (pa_cons (pe_bltn (v := .ty "int") (by rfl) B.int (by decide +kernel) rfl) pa_nil))) (pe_and (pe_not (pe_callB (call_isiK' (K := K) rfl) (by rfl) B.isinstance (by decide +kernel) (pa_cons (pv 0) (pa_cons (pe_bltn (v := .ty "bool") (by rfl) B.bool (by decide +kernel) rfl) pa_nil)))) (pe_one (pe_chain op_lt op_lt (pe_un un_neg (pe_glob (v := .int _) (by rfl) c_LIMIT ⟨_, rfl⟩)) (pv 0) (pe_glob (v := .int _) (by rfl) c_LIMIT ⟨_, rfl⟩))))))), ?_⟩
    walk_at "rd"
    refine rd_isi pl (isi_int pl) ?_
    walk_at "rd"
    cases pl with
    | int i =>
      rw [if_pos (by decide)]
      refine rd_isi (K := K) (.int i) (isi_bool (K := K) (H := H) (.int i)) ?_
      walk_at "rd"
      rw [if_pos (by decide)]
      have e : isInt (.int i) = (decide (-10 ^ 60 < i) && decide (i < 10 ^ 60)) := rfl
      rw [e] at q
      refine ite2 (fun h => ?_) (fun h => ?_)
      · rw [h, Bool.true_and] at q
        exact q
      · rw [Bool.eq_false_iff.mpr h, Bool.false_and] at q
        exact q
    | bl b =>
      rw [if_pos (by decide)]
      refine rd_isi (K := K) (.bl b) (isi_bool (K := K) (H := H) (.bl b)) ?_
      walk_at "rd"
      rw [if_neg (by decide)]
      exact q
    | _ =>
      rw [if_neg (by decide)]
      exact q

end
section
variable {P : Program} {w : World} {K : PySem.W.Frag} {mg : Str → Option Value} {base : Heap} {Z : Ad}
/-! ### names, places, prices -/
def ltS (a b : Str) : Bool := decide (a.cps.toList < b.cps.toList)
/-- neighbours ascend -/
def ascB : List Str → Bool
  | a :: b :: r => ltS a b && ascB (b :: r)
  | _ => true
def namesB (xs : List Str) : Bool := xs.all (fun x => isName (.str x)) && ascB xs
theorem okv_s {H : Hp} {x : Str} (h : x.length ≤ 1000000) : OkV K H (.str x) := ⟨⟨_, .str _⟩, h⟩
def ltAt (xs : List Str) (i : Nat) : Bool := match xs[i]?, xs[i + 1]? with
  | some a, some b => ltS a b
  | _, _ => false
theorem asc_range : ∀ xs : List Str, (List.range (xs.length - 1)).all (ltAt xs) = ascB xs
  | [] => rfl
  | [_] => rfl
  | a :: b :: r => by
    have ih := asc_range (b :: r)
    show (List.range (r.length + 1)).all _ = (ltS a b && ascB (b :: r))
    rw [List.range_succ_eq_map, List.all_cons, List.all_map, ← ih]
    rfl
theorem cut1 (xs : List V) (h : 0 < xs.length) : cutV xs (some 1) none = xs.drop 1 := by
  unfold cutV
  have e : HT.sIx xs.length 0 (some 1) = 1 := by
    unfold HT.sIx
    first | (simp; omega) | (split <;> omega)
  rw [e]
  show (xs.drop 1).take (xs.length - 1) = _
  rw [List.take_of_length_le (by rw [List.length_drop]; exact Nat.le_refl _)]
end
section
variable {P : Program} {w : World} {K : PySem.W.Frag} {mg : Str → Option Value} {base : Heap} {Z : Ad}
theorem spelt_ok {x : Str} (h : spelt (.str x) = true) : PyData.strOk x = true := by
  have h : ((TL.tl x).all fun c => decide (c ∈ TL.tl alpha)) = true := h
  have e : TL.tl alpha = [97, 98, 99, 100, 101, 102, 103, 104, 105, 106, 107, 108, 109, 110, 111, 112, 113, 114, 115, 116, 117, 118, 119, 120, 121, 122] := by rfl
  rw [List.all_eq_true] at h
  unfold PyData.strOk
  rw [← Array.all_toList, List.all_eq_true]
  intro c hc
  have h2 := of_decide_eq_true (h c hc)
  rw [e] at h2
  simp only [List.mem_cons, List.not_mem_nil, or_false] at h2
  exact decide_eq_true (by omega)
theorem name_ok {x : Str} (h : isName (.str x) = true) : PyData.strOk x = true := spelt_ok (Bool.and_eq_true _ _ ▸ h).1
theorem letter_ok {x : Str} (h : isLetter (.str x) = true) : PyData.strOk x = true := spelt_ok (Bool.and_eq_true _ _ ▸ h).1
theorem shaped_strs {xs : List Str} (h : ∀ x ∈ xs, PyData.strOk x = true) : SeqAt.shaped (.tuple (xs.map .str)) = true := by
  unfold SeqAt.shaped
  simp only [PyData.canLay0, PyData.canLayAll0, PyData.depth, PyData.depthAll, lays xs h, deps, Bool.and_true, Bool.true_and, Bool.and_self]
  try decide
def withinB : V → Int → Int → Bool
  | .int i, lo, hi => decide (lo ≤ i) && decide (i ≤ hi)
  | _, _, _ => false
def spWithin (K : PySem.W.Frag) : Sp := fun vs H Q _ => ∃ (v : V) (t : String) (lo hi : Int), vs = [v, .int lo, .int hi] ∧ Pl K H v t ∧ Q (.bl (isInt v && withinB v lo hi)) H
theorem ok_is_within (D : Ds K mg Z) (B : Bt mg) (C0 : Cs mg) : FnOk P w K mg base CX0 2 Z.a_is_within Z.d_is_within P_is_within (spWithin K) := by
  have G_is_integer := ok_is_integer (P := P) (w := w) (base := base) D B C0
  obtain ⟨⟨t_LIMIT, c_LIMIT⟩, ⟨t_ALPHABET, c_ALPHABET⟩, ⟨t_MAX_LETTERS, c_MAX_LETTERS⟩, ⟨t_MAX_STATES, c_MAX_STATES⟩, ⟨t_MAX_PRICE, c_MAX_PRICE⟩, ⟨t_FIRST, c_FIRST⟩, ⟨t_LAST, c_LAST⟩, ⟨t_ARC, c_ARC⟩⟩ := C0
  refine D.is_within.F.ok sc_is_within (fun vs H Q E h => ?_) (fun cdv A outer s H vs Q E hr h => ?_)
  · obtain ⟨v, t, lo, hi, rfl, _⟩ := h
    rfl
  · obtain ⟨v, t, lo, hi, rfl, pl, q⟩ := h
    refine ⟨_, (pss_one (ps_ret (pe_and (pe_df D.is_integer G_is_integer (hr.mono (by decide)) (by rfl) (pa_cons (pv 0) pa_nil)) (pe_one (pe_chain op_le op_le (pv 1) (pv 0) (pv 2)))))), ?_⟩
    walk_at "rd"
    refine ⟨v, t, rfl, pl, ?_⟩
    cases hI : isInt v with
    | false =>
      rw [hI, Bool.false_and] at q
      walk_at "rd"
    | true =>
      rw [hI, Bool.true_and] at q
      cases v with
      | int i =>
        clear hI
        rw [show withinB (.int i) lo hi = (decide (lo ≤ i) && decide (i ≤ hi)) from rfl] at q
        by_cases h1 : lo ≤ i
        · rw [decide_eq_true h1, Bool.true_and] at q
          walk_at "rd"
        · rw [decide_eq_false h1, Bool.false_and] at q
          walk_at "rd"
      | _ => cases hI
def priceB (v : V) : Bool := isInt v && withinB v 0 9
def spPrice (K : PySem.W.Frag) : Sp := fun vs H Q _ => ∃ (v : V) (t : String), vs = [v] ∧ Pl K H v t ∧ Q (.bl (priceB v)) H
theorem ok_is_price (D : Ds K mg Z) (B : Bt mg) (C0 : Cs mg) : FnOk P w K mg base CX0 3 Z.a_is_price Z.d_is_price P_is_price (spPrice K) := by
  have G_is_within := ok_is_within (P := P) (w := w) (base := base) D B C0
  obtain ⟨⟨t_LIMIT, c_LIMIT⟩, ⟨t_ALPHABET, c_ALPHABET⟩, ⟨t_MAX_LETTERS, c_MAX_LETTERS⟩, ⟨t_MAX_STATES, c_MAX_STATES⟩, ⟨t_MAX_PRICE, c_MAX_PRICE⟩, ⟨t_FIRST, c_FIRST⟩, ⟨t_LAST, c_LAST⟩, ⟨t_ARC, c_ARC⟩⟩ := C0
  refine D.is_price.F.ok sc_is_price (fun vs H Q E h => ?_) (fun cdv A outer s H vs Q E hr h => ?_)
  · obtain ⟨v, t, rfl, _⟩ := h
    rfl
  · obtain ⟨v, t, rfl, pl, q⟩ := h
    refine ⟨_, (pss_one (ps_ret (pe_df D.is_within G_is_within (hr.mono (by decide)) (by rfl) (pa_cons (pv 0) (pa_cons pe_int (pa_cons (pe_glob (v := .int _) (by rfl) c_MAX_PRICE ⟨_, rfl⟩) pa_nil)))))), ?_⟩
    walk_at "rd"
    exact ⟨v, t, 0, 9, rfl, pl, q⟩
def placeB (a b c : Str) : Bool := isName (.str a) && (isLetter (.str b) && isName (.str c))
end
section
variable {P : Program} {w : World} {K : PySem.W.Frag} {mg : Str → Option Value} {base : Heap} {Z : Ad}
/-! ### values of any kind: ends, places -/
def PlS (K : PySem.W.Frag) (H : Hp) (xs : List V) : Prop := ∀ x ∈ xs, ∃ t, Pl K H x t
theorem PlS.same {H H' : Hp} {xs : List V} (e : Same H H') (h : PlS K H xs) : PlS K H' xs := fun x hx => by
  obtain ⟨t, p⟩ := h x hx
  exact ⟨t, p.same e⟩
/-- a value that may be asked: a tuple of plain values, or no tuple -/
inductive Vl (K : PySem.W.Frag) (H : Hp) : V → Option (List V) → Prop
  | tup {a : Addr} {xs : List V} (h : H a = some (.tup xs)) (hl : xs.length ≤ 1000) (p : PlS K H xs) (l : ∀ x ∈ xs, lenV x ≤ 1000000) : Vl K H (.ref a) (some xs)
  | no {v : V} {t : String} (p : Pl K H v t) (ht : t ≠ "tuple") : Vl K H v none
theorem Vl.same {H H' : Hp} (e : Same H H') {v : V} {o : Option (List V)} (h : Vl K H v o) : Vl K H' v o := by
  cases h with
  | tup h hl p l => exact .tup (e _ _ h) hl (p.same e) l
  | no p ht => exact .no (p.same e) ht
def strV : V → Option Str
  | .str x => some x
  | _ => none
def strsV (xs : List V) : List Str := xs.filterMap strV
theorem names_strs : ∀ {xs : List V}, xs.all isName = true → xs = (strsV xs).map V.str
  | [], _ => rfl
  | v :: xs, h => by
    obtain ⟨h1, h2⟩ := Bool.and_eq_true_iff.mp (show (isName v && xs.all isName) = true from h)
    obtain ⟨i, rfl⟩ : ∃ x, v = .str x := by
      cases v with
      | str x => exact ⟨x, rfl⟩
      | _ => exact Bool.noConfusion (show false = true from h1)
    have ih := names_strs (xs := xs) h2
    show V.str i :: xs = V.str i :: (strsV xs).map V.str
    rw [← ih]
theorem slA_any {H : Hp} {a : Addr} {xs zs : List V} {lo hi : Option Int} {Q : VK} (ha : H a = some (.tup xs)) (e : cutV xs lo hi = zs) (q : ∀ c H', Same H H' → H' c = some (.tup zs) → Q (.ref c) H') : rSlA K (.ref a) lo hi H Q := by
  refine ⟨a, xs, rfl, SqT.of ha, fun h => ?_, fun _ p hp => q p _ (Same.new hp) (by rw [← e]; exact upd_same)⟩
  refine q a H (Same.refl _) ?_
  have e2 : cutV xs lo hi = xs := by
    unfold cutV
    rw [h.1, h.2, List.drop_zero, Nat.sub_zero, List.take_length]
  rw [← e, e2]
  exact ha
theorem cut1a (xs : List V) : cutV xs (some 1) none = xs.drop 1 := by
  cases xs with
  | nil => rfl
  | cons x r => exact cut1 _ (Nat.succ_pos _)
theorem walk_zip0 {s1 s2 : LZ.Sv} {Y : Nat → Hp → V → Hp → Prop} : Walk (LZ.ItzN K [s1, s2]) 0 (fun H => s1.has K H [] ∧ s2.has K H []) Y := by
  refine ⟨fun i H hi q => absurd hi (Nat.not_lt_zero _), fun H q => ⟨0, by simp, fun s e => ?_, fun j s hj e => absurd hj (Nat.not_lt_zero _)⟩, fun i H v H' hi q y => absurd hi (Nat.not_lt_zero _)⟩
  cases e
  exact ⟨[], q.1, Nat.le_refl _⟩
def namesO : Option (List V) → Bool
  | some xs => xs.all isName && ascB (strsV xs)
  | none => false
def spNamesO (K : PySem.W.Frag) : Sp := fun vs H Q _ => ∃ (v : V) (o : Option (List V)), vs = [v] ∧ Vl K H v o ∧ ∀ H', Same H H' → Q (.bl (namesO o)) H'
theorem ok_are_names (D : Ds K mg Z) (B : Bt mg) (C0 : Cs mg) : FnOk P w K mg base CX0 3 Z.a_are_names Z.d_are_names P_are_names (spNamesO K) := by
  have G_is_name := ok_is_name (P := P) (w := w) (base := base) D B C0
  obtain ⟨⟨t_LIMIT, c_LIMIT⟩, ⟨t_ALPHABET, c_ALPHABET⟩, ⟨t_MAX_LETTERS, c_MAX_LETTERS⟩, ⟨t_MAX_STATES, c_MAX_STATES⟩, ⟨t_MAX_PRICE, c_MAX_PRICE⟩, ⟨t_FIRST, c_FIRST⟩, ⟨t_LAST, c_LAST⟩, ⟨t_ARC, c_ARC⟩⟩ := C0
  refine D.are_names.F.ok sc_are_names (fun vs H Q E h => ?_) (fun cdv A outer s H vs Q E hr h => ?_)
  · obtain ⟨v, o, rfl, _⟩ := h
    rfl
  · obtain ⟨v, o, rfl, hv, q⟩ := h
    refine ⟨_, (pss_cons (ps_if (PW.pt (pw_or (pt_not (pt_val (pe_callB (call_isiK' (K := K) rfl) (by rfl) B.isinstance (by decide +kernel) (pa_cons (pv 0) (pa_cons (pe_bltn (v := .ty "tuple") (by rfl) B.tuple (by decide +kernel) rfl) pa_nil))))) (pw_or1 (pt_not (pt_val (pe_callB (cr_allM rfl) (by rfl) B.all (by decide +kernel) (pa_cons (pe_lc (own := [("name", 1)]) (g := gName 1) rfl sc_are_names.nd (pi_tupK (K := K) rfl (pv 0)) (blkOk_by (N := N_are_names) (sc := defScope s_are_names) (by decide +kernel)) (fun _ _ _ _ _ => (pg_name (i := 1) sc_are_names.nd rfl (Or.inl rfl))) (fun _ _ _ _ _ => pts_nil) (fun _ _ _ _ _ => (pe_df D.is_name G_is_name (hr.mono (by decide)) (by rfl) (pa_cons (pv 1) pa_nil)))) pa_nil))))))) (pss_one (ps_ret pe_bl)) pss_nil)
    (pss_one (ps_ret (pe_callB (cr_allM rfl) (by rfl) B.all (by decide +kernel) (pa_cons (pe_lc (own := [("one", 2), ("other", 3)]) rfl sc_are_names.nd (pi_zipNK (K := K) rfl (by rfl) B.zip (pa_cons (pv 0) (pa_cons (pe_slice (sl_tupAK (K := K) rfl) (pv 0) (po_some pe_int) po_none) pa_nil))) (blkOk_by (N := N_are_names) (sc := defScope s_are_names) (by decide +kernel)) (fun _ _ _ _ _ => (pg_tupK (K := K) (n := 2) rfl rfl (pgs_cons (pg_name (i := 2) sc_are_names.nd rfl (Or.inl rfl)) (pgs_cons (pg_name (i := 3) sc_are_names.nd rfl (Or.inl rfl)) pgs_nil)))) (fun _ _ _ _ _ => pts_nil) (fun _ _ _ _ _ => (pe_cmpR op_lt_str (pv 2) (pv 3) (nomark _)))) pa_nil))))), ?_⟩
    walk_at "rd"
    cases hv with
    | @no v t p ht =>
      refine rd_isi p (isi_tuple p) ?_
      have e : isiB t "tuple" = false := by
        unfold isiB
        rw [beq_eq_false_iff_ne.mpr ht]
        simp
      rw [e]
      have q2 := q H (Same.refl _)
      clear e q
      walk_at "rd"
      exact q2
    | @tup a xs hp hl pl hx =>
      refine rd_isi (.tup hp) (isi_tuple (K := K) (H := H) (.tup hp)) ?_
      rw [show isiB "tuple" "tuple" = true from rfl]
      walk_at "rd"
      refine ⟨⟨_, SqT.of hp⟩, ?_⟩
      refine lc_mapW (walk_tup (xs := xs)) (fun H1 e1 => SqT.of (e1 _ _ hp)) (by omega) (fun x => .bl (isName x)) (fun _ => rfl) ?_ ?_
      · intro x hx1 H1 e1 R hR
        obtain ⟨t, px⟩ := pl x hx1
        have lx := hx x hx1
        have ok : OkV K H1 x := ⟨⟨t, px.same e1⟩, lx⟩
        walk_at "rd"
        exact ⟨_, rfl, ok, fun H2 e2 => hR H2 e2⟩
      · intro l H2 hl1 e2 hl2
        have em : xs.map (fun x => V.bl (isName x)) = (xs.map isName).map V.bl := by rw [List.map_map]; rfl
        have ea : (xs.map isName).all id = xs.all isName := by rw [List.all_map]; rfl
        rw [em] at hl2
        refine ⟨l, rfl, _, hl2, ?_⟩
        rw [ea]
        have hp2 := e2 _ _ hp
        have qq : ∀ H', Same H H' → Q (.bl (xs.all isName && ascB (strsV xs))) H' := q
        clear q
        cases hA : xs.all isName with
        | false =>
          rw [hA, Bool.false_and] at qq
          have q2 := qq H2 e2
          clear hl2 em ea hA
          walk_at "rd"
          walk_at "gg"
        | true =>
          rw [hA, Bool.true_and] at qq
          have es := names_strs hA
          clear hl2 em ea hA
          revert qq hp2 hl hp pl hx
          rw [es]
          have eI : strsV ((strsV xs).map V.str) = strsV xs := by rw [← es]
          rw [eI]
          generalize strsV xs = xs
          clear es eI
          intro hp hl pl hx hp2 qq
          have lx : (xs.map V.str).length = xs.length := List.length_map ..
          walk_at "rd"
          walk_at "gg"
          refine slA_any hp2 (cut1a _) fun p1 H3 e3 hq3 => ?_
          rw [← List.map_drop] at hq3
          have hp3 := e3 _ _ hp2
          replace e2 := e2.trans e3
          clear e3 hp2
          have ld : ((xs.drop 1).map V.str).length = xs.length - 1 := by rw [List.length_map, List.length_drop]
          refine ⟨[.tup a, .tup p1], .cons rfl (SqT.of hp3) (.cons rfl (SqT.of hq3) .nil), Nat.zero_lt_succ _, by show 2 ≤ 1000; decide, ?_⟩
          cases xs with
          | nil =>
            refine lc_val (walk_zip0 (s1 := .tup a) (s2 := .tup p1) (Y := fun _ _ _ _ => False)) (fun i => .bl true) (fun H4 e4 => ⟨SqT.of (e4 _ _ hp3), SqT.of (e4 _ _ hq3)⟩) (by omega) (fun i x H4 H5 hi => absurd hi (Nat.not_lt_zero _)) ?_
            intro l2 H4 hl4 e4 hl5
            exact ⟨l2, rfl, [], hl5, qq H4 (e2.trans e4)⟩
          | cons x0 r0 =>
          have lc : 0 < (x0 :: r0).length := Nat.succ_pos _
          generalize x0 :: r0 = xs at *
          refine lc_val (walk_zipS (s1 := .tup a) (s2 := .tup p1) (xs := xs.map V.str) (ys := (xs.drop 1).map V.str) (by omega)) (fun i => .bl (ltAt xs i)) (fun H4 e4 => ⟨SqT.of (e4 _ _ hp3), SqT.of (e4 _ _ hq3)⟩) (by omega) ?_ ?_
          · intro i x H4 H5 hi e4 y R hR
            obtain ⟨T, x1, y1, rfl, hT, rfl, h1, h2⟩ := y
            rw [ld] at hi
            have ix : i < xs.length := by omega
            have iy : i + 1 < xs.length := by omega
            dsimp only at h1 h2
            rw [List.getElem?_map, List.getElem?_eq_getElem ix] at h1
            rw [List.getElem?_map, List.getElem?_drop, Nat.add_comm 1 i, List.getElem?_eq_getElem iy] at h2
            cases h1
            cases h2
            have la : ltAt xs i = ltS xs[i] xs[i + 1] := by
              unfold ltAt
              rw [List.getElem?_eq_getElem ix, List.getElem?_eq_getElem iy]
            have hR2 := hR _ (Same.new (o := HO.tup [V.str xs[i], V.str xs[i + 1]]) hT)
            rw [la] at hR2
            clear hR la
            walk_at "rd"
            exact ⟨_, SqT.of upd_same, rfl, _, _, rfl, _, _, rfl, rfl, _, rfl, _, rfl, hR2⟩
          · intro l2 H4 hl4 e4 hl5
            rw [ld] at hl5
            have em : (List.range (xs.length - 1)).map (fun i => V.bl (ltAt xs i)) = ((List.range (xs.length - 1)).map (ltAt xs)).map V.bl := by rw [List.map_map]; rfl
            rw [em] at hl5
            have q2 := qq H4 (e2.trans e4)
            refine ⟨l2, rfl, _, hl5, ?_⟩
            rw [List.all_map]
            rw [← asc_range] at q2
            exact q2
def endsB : Option (List V) → Bool
  | some xs => xs.all isName && ascB (strsV xs) && !xs.isEmpty
  | none => false
def spEndsO (K : PySem.W.Frag) : Sp := fun vs H Q _ => ∃ (v : V) (o : Option (List V)), vs = [v] ∧ Vl K H v o ∧ ∀ H', Same H H' → Q (.bl (endsB o)) H'
theorem ok_are_ends (D : Ds K mg Z) (B : Bt mg) (C0 : Cs mg) : FnOk P w K mg base CX0 4 Z.a_are_ends Z.d_are_ends P_are_ends (spEndsO K) := by
  have G_are_names := ok_are_names (P := P) (w := w) (base := base) D B C0
  obtain ⟨⟨t_LIMIT, c_LIMIT⟩, ⟨t_ALPHABET, c_ALPHABET⟩, ⟨t_MAX_LETTERS, c_MAX_LETTERS⟩, ⟨t_MAX_STATES, c_MAX_STATES⟩, ⟨t_MAX_PRICE, c_MAX_PRICE⟩, ⟨t_FIRST, c_FIRST⟩, ⟨t_LAST, c_LAST⟩, ⟨t_ARC, c_ARC⟩⟩ := C0
  refine D.are_ends.F.ok sc_are_ends (fun vs H Q E h => ?_) (fun cdv A outer s H vs Q E hr h => ?_)
  · obtain ⟨v, o, rfl, _⟩ := h
    rfl
  · obtain ⟨v, o, rfl, hv, q⟩ := h
    refine ⟨_, (pss_one (ps_ret (pe_and (pe_df D.are_names G_are_names (hr.mono (by decide)) (by rfl) (pa_cons (pv 0) pa_nil)) (pe_one (pe_cmpR (op_neK (K := K) rfl hr.units) (pv 0) (pe_tup pa_nil) (nomark _)))))), ?_⟩
    walk_at "rd"
    refine ⟨v, o, rfl, hv, fun H1 e1 => ?_⟩
    cases hn : namesO o with
    | false =>
      have eb : endsB o = false := by
        cases o with
        | none => rfl
        | some xs =>
          show (_ && _ && _) = false
          rw [show (xs.all isName && ascB (strsV xs)) = false from hn, Bool.false_and]
      rw [eb] at q
      have q2 := q H1 e1
      walk_at "rd"
    | true =>
      cases hv with
      | no p ht => cases hn
      | @tup a xs hp hl pl hx =>
        have hp1 := e1 _ _ hp
        have hn2 : (xs.all isName && ascB (strsV xs)) = true := hn
        have qq : ∀ H', Same H H' → Q (.bl (xs.all isName && ascB (strsV xs) && !xs.isEmpty)) H' := q
        rw [hn2, Bool.true_and] at qq
        have es := names_strs (Bool.and_eq_true_iff.mp hn2).1
        have ha := (Bool.and_eq_true_iff.mp hn2).1
        clear q
        walk_at "rd"
        refine ⟨Nat.zero_le _, fun p2 hp2 => ?_⟩
        have e2 := Same.new (o := HO.tup []) hp2
        have q2 := qq _ (e1.trans e2)
        have ok : ∀ x ∈ strsV xs, PyData.strOk x = true := fun x hx => by
          have hm : V.str x ∈ xs := by
            rw [es]
            exact List.mem_map.mpr ⟨x, hx, rfl⟩
          exact name_ok (List.all_eq_true.mp ha _ hm)
        have hp3 := e2 _ _ hp1
        rw [es] at hp3
        refine ⟨.tuple ((strsV xs).map .str), .tuple [], .tup (SqT.of hp3) (dps (strsV xs)), .tup (SqT.of upd_same) .nil, shaped_strs ok, by decide +kernel, ?_⟩
        rw [es] at q2
        generalize strsV xs = zs at q2 ⊢
        cases zs with
        | nil => exact q2
        | cons x r => exact q2
end
section
variable {P : Program} {w : World} {K : PySem.W.Frag} {mg : Str → Option Value} {base : Heap} {Z : Ad}
def placeO : Option (List V) → Bool
  | some [a, b, c] => isName a && (isLetter b && isName c)
  | _ => false
theorem placeO_len {xs : List V} (h : xs.length ≠ 3) : placeO (some xs) = false := by
  match xs, h with
  | [], _ => rfl
  | [_], _ => rfl
  | [_, _], _ => rfl
  | [_, _, _], h => exact absurd rfl h
  | _ :: _ :: _ :: _ :: _, _ => rfl
def spPlaceO (K : PySem.W.Frag) : Sp := fun vs H Q _ => ∃ (v : V) (o : Option (List V)), vs = [v] ∧ Vl K H v o ∧ ∀ H', Same H H' → Q (.bl (placeO o)) H'
theorem ok_is_place (D : Ds K mg Z) (B : Bt mg) (C0 : Cs mg) : FnOk P w K mg base CX0 3 Z.a_is_place Z.d_is_place P_is_place (spPlaceO K) := by
  have G_is_name := ok_is_name (P := P) (w := w) (base := base) D B C0
  have G_is_letter := ok_is_letter (P := P) (w := w) (base := base) D B C0
  obtain ⟨⟨t_LIMIT, c_LIMIT⟩, ⟨t_ALPHABET, c_ALPHABET⟩, ⟨t_MAX_LETTERS, c_MAX_LETTERS⟩, ⟨t_MAX_STATES, c_MAX_STATES⟩, ⟨t_MAX_PRICE, c_MAX_PRICE⟩, ⟨t_FIRST, c_FIRST⟩, ⟨t_LAST, c_LAST⟩, ⟨t_ARC, c_ARC⟩⟩ := C0
  refine D.is_place.F.ok sc_is_place (fun vs H Q E h => ?_) (fun cdv A outer s H vs Q E hr h => ?_)
  · obtain ⟨v, o, rfl, _⟩ := h
    rfl
  · obtain ⟨v, o, rfl, hv, q⟩ := h
    refine ⟨_, (pss_cons (ps_if (PW.pt (pw_or (pt_not (pt_val (pe_callB (call_isiK' (K := K) rfl) (by rfl) B.isinstance (by decide +kernel) (pa_cons (pv 0) (pa_cons (pe_bltn (v := .ty "tuple") (by rfl) B.tuple (by decide +kernel) rfl) pa_nil))))) (pw_or1 (pt_cmpR op_ne (pe_callB call_lenT (by rfl) B.len (by decide +kernel) (pa_cons (pv 0) pa_nil)) pe_int (nomark _))))) (pss_one (ps_ret pe_bl)) pss_nil)
    (pss_one (ps_ret (pe_and (pe_df D.is_name G_is_name (hr.mono (by decide)) (by rfl) (pa_cons (pe_ix ix_TM (pv 0) pe_int (fun _ _ => rfl)) pa_nil)) (pe_and (pe_df D.is_letter G_is_letter (hr.mono (by decide)) (by rfl) (pa_cons (pe_ix ix_TM (pv 0) pe_int (fun _ _ => rfl)) pa_nil)) (pe_one (pe_df D.is_name G_is_name (hr.mono (by decide)) (by rfl) (pa_cons (pe_ix ix_TM (pv 0) pe_int (fun _ _ => rfl)) pa_nil)))))))), ?_⟩
    walk_at "rd"
    cases hv with
    | @no v t p ht =>
      refine rd_isi p (isi_tuple p) ?_
      have e : isiB t "tuple" = false := by
        unfold isiB
        rw [beq_eq_false_iff_ne.mpr ht]
        simp
      rw [e]
      have q2 := q H (Same.refl _)
      clear e q
      walk_at "rd"
      exact q2
    | @tup p xs hp hl pl hx =>
      refine rd_isi (.tup hp) (isi_tuple (K := K) (H := H) (.tup hp)) ?_
      rw [show isiB "tuple" "tuple" = true from rfl]
      walk_at "rd"
      by_cases h3 : xs.length = 3
      · match xs, h3 with
        | [a, b, c], _ =>
          have la : OkV K H a := ⟨pl a (by simp), hx a (by simp)⟩
          have lb : OkV K H b := ⟨pl b (by simp), hx b (by simp)⟩
          have lc : OkV K H c := ⟨pl c (by simp), hx c (by simp)⟩
          have qq : ∀ H', Same H H' → Q (.bl (isName a && (isLetter b && isName c))) H' := q
          clear q pl hx hl
          walk_at "rd"
          walk_at "gg"
          rw [if_neg (by simp)]
          walk_at "gg"
          refine ⟨_, rfl, la, fun H1 e1 => ?_⟩
          have hp1 := e1 _ _ hp
          cases h1 : isName a with
          | false =>
            rw [h1, Bool.false_and] at qq
            have q2 := qq H1 e1
            walk_at "rd"
          | true =>
            rw [h1, Bool.true_and] at qq
            clear h1
            walk_at "rd"
            refine ⟨_, rfl, lb.same e1, fun H2 e2 => ?_⟩
            have hp2 := e2 _ _ hp1
            cases h2 : isLetter b with
            | false =>
              rw [h2, Bool.false_and] at qq
              have q2 := qq H2 (e1.trans e2)
              walk_at "rd"
            | true =>
              rw [h2, Bool.true_and] at qq
              clear h2
              walk_at "rd"
              exact ⟨_, rfl, lc.same (e1.trans e2), fun H3 e3 => qq H3 ((e1.trans e2).trans e3)⟩
      · rw [placeO_len h3] at q
        have q2 := q H (Same.refl _)
        clear q
        walk_at "rd"
        walk_at "gg"
        rw [if_pos (by rw [Bool.not_eq_true', decide_eq_false_iff_not]; omega)]
        walk_at "gg"
end
section
variable {P : Program} {w : World} {K : PySem.W.Frag} {mg : Str → Option Value} {base : Heap} {Z : Ad}
/-! ### the states of arcs -/
abbrev Arc := Str × Str × Str
def key3 (k : Arc) : List Key := [.inr k.1, .inr k.2.1, .inr k.2.2]
def encA (m : List (Arc × Int)) : List (List Key × V) := m.map fun a => (key3 a.1, .int a.2)
def innA (m : List (Arc × Int)) : List Str := m.flatMap fun a => [a.1.1, a.1.2.2]
theorem lock_same {H H' : Hp} {d : Addr} {u : HO} {od : Obj} (hd : H d = some u) (e : Same (upd H d (.frz od u)) H') : Same H (upd H' d u) := fun b o hb => by
  by_cases hbd : b = d
  · subst hbd
    rw [upd_same, ← hd]
    exact hb
  · rw [upd_ne hbd]
    refine e b o ?_
    rw [upd_ne hbd]
    exact hb
def endsAt (m : List (Arc × Int)) (i : Nat) : List V := match m[i]? with
  | some a => [.str a.1.1, .str a.1.2.2]
  | none => []
theorem cat_len (m : List (Arc × Int)) (i : Nat) : (catN (endsAt m) i).length ≤ 2 * i := by
  induction i with
  | zero => exact Nat.le_refl _
  | succ i ih =>
    rw [catN_succ, List.length_append]
    have : (endsAt m i).length ≤ 2 := by
      unfold endsAt
      cases m[i]? with
      | none => exact Nat.zero_le _
      | some a => exact Nat.le_refl _
    omega
theorem cat_take (m : List (Arc × Int)) : ∀ k, k ≤ m.length → catN (endsAt m) k = (innA (m.take k)).map V.str
  | 0, _ => rfl
  | k + 1, hk => by
    have e := List.getElem?_eq_getElem (show k < m.length by omega)
    rw [catN_succ, cat_take m k (by omega), List.take_add_one, e]
    unfold innA endsAt
    rw [List.flatMap_append, List.map_append, e]
    rfl
theorem cat_all (m : List (Arc × Int)) : catN (endsAt m) m.length = (innA m).map V.str := by
  rw [cat_take m _ (Nat.le_refl _), List.take_length]
theorem inn_len : ∀ m : List (Arc × Int), (innA m).length = 2 * m.length
  | [] => rfl
  | a :: m => by
    show ([a.1.1, a.1.2.2] ++ innA m).length = _
    rw [List.length_append, inn_len m]
    show 2 + 2 * m.length = 2 * (m.length + 1)
    omega
def spStates : Sp := fun vs H Q _ => ∃ (f l d : Addr) (fs ls : List Str) (m : List (Arc × Int)), vs = [.ref f, .ref l, .ref d] ∧ H f = some (.tup (fs.map V.str)) ∧ H l = some (.tup (ls.map V.str)) ∧ H d = some (.dT (encA m)) ∧ fs.length + ls.length + 2 * m.length ≤ 4000 ∧
  ∀ ys p H', Same H H' → Sorted ys (fs ++ ls ++ innA m) → H' p = some (.tup (ys.map V.str)) → Q (.ref p) H'
theorem ok_states_of (D : Ds K mg Z) (B : Bt mg) (C0 : Cs mg) : FnOk P w K mg base CX0 1 Z.a_states_of Z.d_states_of P_states_of spStates := by
  obtain ⟨⟨t_LIMIT, c_LIMIT⟩, ⟨t_ALPHABET, c_ALPHABET⟩, ⟨t_MAX_LETTERS, c_MAX_LETTERS⟩, ⟨t_MAX_STATES, c_MAX_STATES⟩, ⟨t_MAX_PRICE, c_MAX_PRICE⟩, ⟨t_FIRST, c_FIRST⟩, ⟨t_LAST, c_LAST⟩, ⟨t_ARC, c_ARC⟩⟩ := C0
  refine D.states_of.F.ok sc_states_of (fun vs H Q E h => ?_) (fun cdv A outer s H vs Q E hr h => ?_)
  · obtain ⟨f, l, d, fs, ls, m, rfl, _⟩ := h
    rfl
  · obtain ⟨f, l, d, fs, ls, m, rfl, hf, hl, hd, hz, q⟩ := h
    refine ⟨_, (pss_cons (ps_lock (ps_setLc2 (i := 3) (own := [("state", 4), ("letter", 5), ("later", 6), ("end", 7)]) (vs1 := [7]) (g1 := gName 7) rfl sc_states_of.nd rfl rfl (sw_true rfl rfl rfl (by decide +kernel)) (pi_keys (pv 2)) (blkOk_by (N := N_states_of) (sc := defScope s_states_of) (by decide +kernel)) (by decide) (fun _ _ _ _ _ => (pg_tupK (K := K) (n := 3) rfl rfl (pgs_cons (pg_name (i := 4) sc_states_of.nd rfl (Or.inl rfl)) (pgs_cons (pg_name (i := 5) sc_states_of.nd rfl (Or.inl rfl)) (pgs_cons (pg_name (i := 6) sc_states_of.nd rfl (Or.inl rfl)) pgs_nil))))) (fun _ _ _ _ _ => pts_nil) (fun _ _ _ _ _ => (pi_tupK (K := K) rfl (pe_tup (pa_cons (pv 4) (pa_cons (pv 6) pa_nil))))) (fun _ _ _ _ _ => (pg_name (i := 7) sc_states_of.nd rfl (Or.inl rfl))) (fun _ _ _ _ _ => pts_nil) (fun _ _ _ _ _ => (pv 7))))
    (pss_one (ps_ret (pe_callTy call_tupM (by rfl) B.tuple (by decide +kernel) (pa_cons (pe_callB (cr_sortT rfl) (by rfl) B.sorted (by decide +kernel) (pa_cons (pe_callTy (cr_setT rfl) (by rfl) B.set (by decide +kernel) (pa_cons (pe_lst (pa_starK (K := K) rfl (pv 0) (pa_starK (K := K) rfl (pv 1) (pa_starK (K := K) rfl (pv 3) pa_nil)))) pa_nil)) pa_nil)) pa_nil))))), ?_⟩
    walk_at "rd"
    refine ⟨d, _, hd, trivial, fun od => ?_⟩
    walk_at "rd"
    refine ⟨od, .inr ⟨_, rfl, ?_⟩⟩
    have nfd : f ≠ d := fun e => by rw [e, hd] at hf; cases hf
    have nld : l ≠ d := fun e => by rw [e, hd] at hl; cases hl
    have hd1 : upd H d (HO.frz od (HO.dT (encA m))) d = some (.frz od (.dT (encA m))) := upd_same
    refine lc2_cat (walk_keysT (d := d) (o := od) (kvs := encA m)) (endsAt m) (fun H1 e1 => e1 _ _ hd1) ?_ ?_
    · intro i x H2 H3 De Nx hi hDe sm hacc y fin
      obtain ⟨rfl, k, v, p, hkv, rfl, hp⟩ := y
      have hm : i < m.length := by
        have : (encA m).length = m.length := List.length_map ..
        omega
      have ek : (encA m)[i]? = some (key3 m[i].1, .int m[i].2) := by
        unfold encA
        rw [List.getElem?_map, List.getElem?_eq_getElem hm]
        rfl
      rw [ek] at hkv
      cases hkv
      have em : endsAt m i = [.str m[i].1.1, .str m[i].1.2.2] := by
        unfold endsAt
        rw [List.getElem?_eq_getElem hm]
      rw [em] at fin
      have cl := cat_len m i
      generalize m[i] = a at *
      walk_at "rd"
      refine ⟨_, SqT.of hp, rfl, _, _, rfl, _, _, rfl, _, _, rfl, rfl, by decide, fun T hT => ⟨⟨_, SqT.of upd_same⟩, ?_⟩⟩
      have nTD : De ≠ T := ne_of_none hacc hT
      refine inner_cat (walk_tup (xs := [.str a.1.1, .str a.1.2.2])) id (by rw [upd_ne nTD]; exact hacc) ?_ (fun H' sb => SqT.of (sb _ _ nTD.symm upd_same)) (fun _ => rfl) (fun y _ H' _ R hR => ⟨y, rfl, hR⟩) (fun H' sb hD' => fin H' (Sb.same (sm.trans (Same.new hT)) hDe sb) ?_)
      · show _ + 2 ≤ _
        omega
      · rw [hD', List.map_id]
    · intro p H2 hp sm hp2
      have le : (encA m).length = m.length := List.length_map ..
      rw [le, cat_all] at hp2
      refine ⟨sm _ _ hd1, ?_⟩
      have npd : p ≠ d := fun e => by rw [e, upd_same] at hp; cases hp
      have sm2 := lock_same hd sm
      have hp3 : upd H2 d (HO.dT (encA m)) p = some (.lst ((innA m).map V.str)) := by rw [upd_ne npd]; exact hp2
      have hf3 := sm2 _ _ hf
      have hl3 := sm2 _ _ hl
      generalize upd H2 d (HO.dT (encA m)) = H3 at sm2 hp3 hf3 hl3 ⊢
      clear hp2 hp sm hd1 hd
      have li := inn_len m
      walk_at "gg"
      have ec : fs.map V.str ++ (ls.map V.str ++ (innA m).map V.str) = (fs ++ ls ++ innA m).map V.str := by rw [List.map_append, List.map_append, List.append_assoc]
      have lc : (fs ++ ls ++ innA m).length ≤ 4000 := by
        rw [List.length_append, List.length_append]
        omega
      refine ⟨_, .inl (SqT.of hf3), _, .inl (SqT.of hl3), _, .inr (SqL.of hp3), ?_, fun p1 hp1 => ?_⟩
      · rw [ec, List.length_map]
        exact Nat.le_trans lc (by decide)
      · rw [ec]
        refine ⟨p1, fs ++ ls ++ innA m, rfl, upd_same, Nat.lt_of_le_of_lt (Nat.succ_le_succ lc) (by decide), fun s hs => ⟨s, _, rfl, upd_same, fun ys p2 so hp2 => ⟨p2, rfl, _, upd_same, fun t ht => ?_⟩⟩⟩
        exact q ys t _ (((((sm2.trans (Same.new hp1)).trans (Same.new hs)).trans (Same.new hp2)).trans (Same.new ht))) so upd_same
end
section
variable {P : Program} {w : World} {K : PySem.W.Frag} {mg : Str → Option Value} {base : Heap} {Z : Ad}
/-! ### the parts of a machine -/
structure Gm (fs ls : List Str) (m : List (Arc × Int)) : Prop where
  f0 : 0 < fs.length
  l0 : 0 < ls.length
  fn : namesB fs = true
  ln : namesB ls = true
  an : ∀ a ∈ m, placeB a.1.1 a.1.2.1 a.1.2.2 = true ∧ priceB (.int a.2) = true
  nd : (m.map (·.1)).Nodup
  small : fs.length + ls.length + 2 * m.length ≤ 4000
  few : ∀ ys, Sorted ys (fs ++ ls ++ innA m) → ys.length ≤ 24
theorem key3_inj {a b : Arc} (h : key3 a = key3 b) : a = b := by
  unfold key3 at h
  simp only [List.cons.injEq, Sum.inr.injEq, and_true] at h
  obtain ⟨h1, h2, h3⟩ := h
  exact Prod.ext h1 (Prod.ext h2 h3)
theorem val_at : ∀ {m : List (Arc × Int)}, (m.map (·.1)).Nodup → ∀ a ∈ m, valV (encA m) (key3 a.1) = some (.int a.2)
  | b :: m, nd, a, ha => by
    rw [List.map_cons, List.nodup_cons] at nd
    rcases List.mem_cons.mp ha with rfl | ha
    · exact valV_pos rfl
    · show valV ((key3 b.1, V.int b.2) :: encA m) _ = _
      rw [valV_neg]
      · exact val_at nd.2 a ha
      · intro e
        have e' : b.1 = a.1 := key3_inj e
        exact nd.1 (by rw [e']; exact List.mem_map.mpr ⟨a, ha, rfl⟩)
theorem name_len {x : Str} (h : isName (.str x) = true) : x.length ≤ 8 := by
  unfold isName at h
  rw [Bool.and_eq_true, Bool.and_eq_true, decide_eq_true_eq, decide_eq_true_eq] at h
  exact h.2.2
theorem letter_len {x : Str} (h : isLetter (.str x) = true) : x.length = 1 := by
  unfold isLetter at h
  rw [Bool.and_eq_true, decide_eq_true_eq] at h
  exact h.2
theorem place_of {a b c : Str} (h : placeB a b c = true) : isName (.str a) = true ∧ isLetter (.str b) = true ∧ isName (.str c) = true := by
  unfold placeB at h
  rw [Bool.and_eq_true, Bool.and_eq_true] at h
  exact h
theorem names_len {xs : List Str} (h : namesB xs = true) : ∀ x ∈ xs, x.length ≤ 1000000 := fun x hx => by
  unfold namesB at h
  rw [Bool.and_eq_true, List.all_eq_true] at h
  exact Nat.le_trans (name_len (h.1 x hx)) (by decide)
end
section
variable {P : Program} {w : World} {K : PySem.W.Frag} {mg : Str → Option Value} {base : Heap} {Z : Ad}
open LPMX
/-! ### arcs of any kind -/
def leafV : NestedKey → V
  | .num i => .int i
  | .text x => .str x
  | _ => .non
def keyO : NestedKey → Option (List V)
  | .tup ks => some (ks.map leafV)
  | _ => none
theorem leaf_nk : ∀ k : Key, leafV (nk k) = kV k
  | .inl _ => rfl
  | .inr _ => rfl
theorem keyO_nkT (ks : List Key) : keyO (nkT ks) = some (ks.map kV) := by
  show some ((ks.map nk).map leafV) = _
  rw [List.map_map]
  congr 1
  exact List.map_congr_left fun k _ => leaf_nk k
def KOk (k : NestedKey) : Prop := ∀ xs, keyO k = some xs → xs.length ≤ 1000 ∧ ∀ x ∈ xs, lenV x ≤ 1000000
theorem pls_keys {H : Hp} (ks : List Key) : PlS K H (ks.map kV) := fun x hx => by
  obtain ⟨k, _, rfl⟩ := List.mem_map.mp hx
  cases k with
  | inl i => exact ⟨_, .int i⟩
  | inr x => exact ⟨_, .str x⟩
theorem key_vl {H : Hp} {k : NestedKey} {v : V} (x : NKey H k v) (ko : KOk k) : Vl K H v (keyO k) := by
  cases x with
  | scal s =>
    cases s with
    | non => exact .no .non (by decide)
    | int i => exact .no (.int i) (by decide)
    | str x => exact .no (.str x) (by decide)
  | @tup b ks e =>
    obtain ⟨h1, h2⟩ := ko _ (keyO_nkT ks)
    rw [keyO_nkT]
    exact .tup e h1 (pls_keys ks) h2
/-- a value that may be asked as arcs -/
inductive Ar (w : World) (K : PySem.W.Frag) (H : Hp) : V → Option (List (NestedKey × V)) → Prop
  | dct {d : Addr} {u : HO} {ks : List (NestedKey × V)} (h : H d = some u) (x : DctO w H d ks u) (hz : ks.length ≤ 1000) (nd : (ks.map (·.1)).Nodup) (ko : ∀ p ∈ ks, KOk p.1) (pl : ∀ p ∈ ks, ∃ t, Pl K H p.2 t) (dt : (∀ p ∈ ks, placeO (keyO p.1) = true) → ∃ kvs, u = .dT kvs) : Ar w K H (.ref d) (some ks)
  | no {v : V} {t : String} (p : Pl K H v t) (ht : t ≠ "dict") : Ar w K H v none
theorem Ar.same {H H' : Hp} (e : Same H H') {v : V} {o : Option (List (NestedKey × V))} (h : Ar w K H v o) : Ar w K H' v o := by
  cases h with
  | dct h x hz nd ko pl dt => exact .dct (e _ _ h) (x.keeps fun b ys hb => e _ _ hb) hz nd ko (fun p hp => let ⟨t, q⟩ := pl p hp; ⟨t, q.same e⟩) dt
  | no p ht => exact .no (p.same e) ht
theorem pl_lock {H : Hp} {d : Addr} {u : HO} {od : Obj} {v : V} {t : String} {ks : List (NestedKey × V)} (hd : H d = some u) (x : DctO w H d ks u) (h : Pl K H v t) : Pl K (upd H d (.frz od u)) v t := by
  have ne : ∀ {a : Addr} {o : HO}, H a = some o → (∀ kvs, o ≠ .dT kvs) → (∀ φ, o ≠ .ext φ) → a ≠ d := fun {a o} ha h1 h2 e => by
    rw [e, hd] at ha
    cases ha
    rcases x with ⟨kvs, e, _⟩ | ⟨ms, e, _⟩
    · exact h1 _ e
    · exact h2 _ e
  cases h with
  | non => exact .non
  | bl b => exact .bl b
  | int i => exact .int i
  | str x => exact .str x
  | lst h => exact .lst (by rw [upd_ne (ne h (fun _ z => by cases z) (fun _ z => by cases z))]; exact h)
  | tup h => exact .tup (by rw [upd_ne (ne h (fun _ z => by cases z) (fun _ z => by cases z))]; exact h)
  | dct h => exact .dct (by rw [upd_ne (ne h (fun _ z => by cases z) (fun _ z => by cases z))]; exact h)
theorem tk_lock {H : Hp} {d : Addr} {u : HO} {od : Obj} {ks : List (NestedKey × V)} (hd : H d = some u) (x : DctO w H d ks u) : ∀ b ys, H b = some (.tup ys) → upd H d (.frz od u) b = some (.tup ys) := fun b ys hb => by
  rw [upd_ne (fun e => ?_)]
  · exact hb
  · rw [e, hd] at hb
    cases hb
    rcases x with ⟨kvs, e, _⟩ | ⟨ms, e, _⟩ <;> cases e
def arcB (p : NestedKey × V) : Bool := placeO (keyO p.1) && priceB p.2
def arcOf (p : NestedKey × V) : Option (Arc × Int) := match p with
  | (.tup [.text a, .text b, .text c], .int i) => some ((a, b, c), i)
  | _ => none
def arcsOf (ks : List (NestedKey × V)) : List (Arc × Int) := ks.filterMap arcOf
def encN (a : Arc × Int) : NestedKey × V := (nkT (key3 a.1), .int a.2)
theorem leaf_str {k : NestedKey} {v : V} (e : leafV k = v) (h : isName v = true ∨ isLetter v = true) : ∃ x, k = .text x ∧ v = .str x := by
  subst e
  cases k with
  | text x => exact ⟨x, rfl, rfl⟩
  | _ => exact h.elim (fun h => Bool.noConfusion (show false = true from h)) fun h => Bool.noConfusion (show false = true from h)
theorem arc_some {p : NestedKey × V} (h : arcB p = true) : ∃ a : Arc × Int, p = encN a ∧ arcOf p = some a ∧ placeB a.1.1 a.1.2.1 a.1.2.2 = true ∧ priceB (.int a.2) = true := by
  obtain ⟨k, v⟩ := p
  obtain ⟨h1, h2⟩ := Bool.and_eq_true_iff.mp (show (placeO (keyO k) && priceB v) = true from h)
  obtain ⟨i, rfl⟩ : ∃ i, v = .int i := by
    cases v with
    | int i => exact ⟨i, rfl⟩
    | _ => exact Bool.noConfusion (show false = true from h2)
  cases k with
  | tup ks =>
    match ks, h1 with
    | [a, b, c], h1 =>
      have h3 : (isName (leafV a) && (isLetter (leafV b) && isName (leafV c))) = true := h1
      obtain ⟨i1, h4⟩ := Bool.and_eq_true_iff.mp h3
      obtain ⟨i2, i3⟩ := Bool.and_eq_true_iff.mp h4
      obtain ⟨x, rfl, ea⟩ := leaf_str (k := a) rfl (.inl i1)
      obtain ⟨y, rfl, eb⟩ := leaf_str (k := b) rfl (.inr i2)
      obtain ⟨z, rfl, ec⟩ := leaf_str (k := c) rfl (.inl i3)
      exact ⟨((x, y, z), i), rfl, rfl, h3, h2⟩
    | [], h1 => cases h1
    | [_], h1 => cases h1
    | [_, _], h1 => cases h1
    | _ :: _ :: _ :: _ :: _, h1 => cases h1
  | _ => cases h1
theorem arcs_all : ∀ {ks : List (NestedKey × V)}, ks.all arcB = true → ks = (arcsOf ks).map encN ∧ ∀ a ∈ arcsOf ks, placeB a.1.1 a.1.2.1 a.1.2.2 = true ∧ priceB (.int a.2) = true
  | [], _ => ⟨rfl, fun a ha => by cases ha⟩
  | p :: ks, h => by
    obtain ⟨h1, h2⟩ := Bool.and_eq_true_iff.mp (show (arcB p && ks.all arcB) = true from h)
    obtain ⟨a, e1, e2, e3⟩ := arc_some h1
    obtain ⟨i1, i2⟩ := arcs_all h2
    have ec : arcsOf (p :: ks) = a :: arcsOf ks := by
      unfold arcsOf
      rw [List.filterMap_cons, e2]
    rw [ec]
    refine ⟨by rw [List.map_cons, ← e1, ← i1], fun b hb => ?_⟩
    rcases List.mem_cons.mp hb with rfl | hb
    · exact e3
    · exact i2 b hb
theorem enc_kvs : ∀ {kvs : List (List Key × V)} {m : List (Arc × Int)}, kvs.map (fun p => (nkT p.1, p.2)) = m.map encN → kvs = encA m
  | [], [], _ => rfl
  | [], _ :: _, h => by cases h
  | _ :: _, [], h => by cases h
  | p :: kvs, a :: m, h => by
    rw [List.map_cons, List.map_cons] at h
    injection h with h1 h2
    have ih := enc_kvs h2
    have e1 : nkT p.1 = nkT (key3 a.1) := congrArg Prod.fst h1
    have e2 : p.2 = .int a.2 := congrArg Prod.snd h1
    show p :: kvs = (key3 a.1, .int a.2) :: encA m
    rw [← ih, ← nkT_inj e1, ← e2]
/-! ### how many there are -/
def uniq : List Str → List Str
  | [] => []
  | x :: xs => if x ∈ xs then uniq xs else x :: uniq xs
theorem mem_uniq (k : Str) : ∀ xs : List Str, k ∈ uniq xs ↔ k ∈ xs
  | [] => Iff.rfl
  | x :: xs => by
    have ih := mem_uniq k xs
    unfold uniq
    by_cases h : x ∈ xs
    · rw [if_pos h, ih, List.mem_cons]
      exact ⟨.inr, fun z => z.elim (fun e => e ▸ h) id⟩
    · rw [if_neg h, List.mem_cons, List.mem_cons, ih]
theorem nd_uniq : ∀ xs : List Str, (uniq xs).Nodup
  | [] => List.nodup_nil
  | x :: xs => by
    have ih := nd_uniq xs
    unfold uniq
    by_cases h : x ∈ xs
    · rw [if_pos h]
      exact ih
    · rw [if_neg h]
      exact List.nodup_cons.mpr ⟨fun z => h ((mem_uniq x xs).mp z), ih⟩
theorem nd_le : ∀ {ys zs : List Str}, ys.Nodup → (∀ k ∈ ys, k ∈ zs) → ys.length ≤ zs.length
  | [], _, _, _ => Nat.zero_le _
  | y :: ys, zs, nd, h => by
    obtain ⟨n1, n2⟩ := List.nodup_cons.mp nd
    have hy := h y List.mem_cons_self
    have ih := nd_le (zs := zs.erase y) n2 fun k hk => (List.mem_erase_of_ne (fun (e : k = y) => n1 (by rw [← e]; exact hk))).mpr (h k (List.mem_cons_of_mem _ hk))
    rw [List.length_erase_of_mem hy] at ih
    have := List.length_pos_of_mem hy
    rw [List.length_cons]
    omega
theorem nd_len {ys xs : List Str} (nd : ys.Nodup) (h : ∀ k, k ∈ ys ↔ k ∈ xs) : ys.length = (uniq xs).length :=
  Nat.le_antisymm (nd_le nd fun k hk => (mem_uniq k xs).mpr ((h k).mp hk)) (nd_le (nd_uniq xs) fun k hk => (h k).mpr ((mem_uniq k xs).mp hk))
def stsOf (fo lo : Option (List V)) (ks : List (NestedKey × V)) : List Str := strsV (fo.getD []) ++ strsV (lo.getD []) ++ innA (arcsOf ks)
def partsB (fo lo : Option (List V)) : Option (List (NestedKey × V)) → Bool
  | some ks => endsB fo && (endsB lo && (ks.all arcB && decide ((uniq (stsOf fo lo ks)).length ≤ 24)))
  | none => false
theorem partsB_f {fo lo : Option (List V)} {ao : Option (List (NestedKey × V))} (h : endsB fo = false) : partsB fo lo ao = false := by
  cases ao with
  | none => rfl
  | some ks =>
    show (endsB fo && _) = false
    rw [h, Bool.false_and]
theorem partsB_l {fo lo : Option (List V)} {ao : Option (List (NestedKey × V))} (h : endsB lo = false) : partsB fo lo ao = false := by
  cases ao with
  | none => rfl
  | some ks =>
    show (endsB fo && (endsB lo && _)) = false
    rw [h, Bool.false_and, Bool.and_false]
theorem ends_strs {xs : List V} (h : endsB (some xs) = true) : xs = (strsV xs).map V.str ∧ 0 < (strsV xs).length ∧ namesB (strsV xs) = true := by
  obtain ⟨h1, h2⟩ := Bool.and_eq_true_iff.mp (show (xs.all isName && ascB (strsV xs) && !xs.isEmpty) = true from h)
  obtain ⟨h3, h4⟩ := Bool.and_eq_true_iff.mp h1
  have e := names_strs h3
  refine ⟨e, ?_, ?_⟩
  · have el := congrArg List.length e
    rw [List.length_map] at el
    cases xs with
    | nil => cases h2
    | cons x r =>
      rw [← el]
      exact Nat.succ_pos _
  · unfold namesB
    rw [h4, Bool.and_true, List.all_eq_true]
    intro x hx
    have hm : V.str x ∈ xs := by
      rw [e]
      exact List.mem_map.mpr ⟨x, hx, rfl⟩
    exact List.all_eq_true.mp h3 _ hm
def spPartsO (w : World) (K : PySem.W.Frag) : Sp := fun vs H Q _ => ∃ (f l d : V) (fo lo : Option (List V)) (ao : Option (List (NestedKey × V))), vs = [f, l, d] ∧ Vl K H f fo ∧ Vl K H l lo ∧ Ar w K H d ao ∧ ∀ H', Same H H' → Q (.bl (partsB fo lo ao)) H'
def arcAt (ks : List (NestedKey × V)) (i : Nat) : Bool := match ks[i]? with
  | some p => arcB p
  | none => false
theorem val_nd : ∀ {ks : List (NestedKey × V)}, (ks.map (·.1)).Nodup → ∀ {p : NestedKey × V}, p ∈ ks → valV ks p.1 = some p.2
  | q :: ks, nd, p, hp => by
    rw [List.map_cons, List.nodup_cons] at nd
    rcases List.mem_cons.mp hp with rfl | hp
    · exact valV_pos rfl
    · rw [valV_neg]
      · exact val_nd nd.2 hp
      · intro e
        exact nd.1 (by rw [e]; exact List.mem_map.mpr ⟨p, hp, rfl⟩)
theorem arcs_range (ks : List (NestedKey × V)) : (List.range ks.length).map (fun i => V.bl (arcAt ks i)) = (ks.map arcB).map V.bl := by
  refine List.ext_getElem? fun i => ?_
  rw [List.getElem?_map, List.getElem?_map, List.getElem?_map]
  by_cases hi : i < ks.length
  · rw [List.getElem?_range hi]
    have e := List.getElem?_eq_getElem hi
    simp only [arcAt, e, Option.map_some]
  · rw [List.getElem?_eq_none (by rw [List.length_range]; omega), List.getElem?_eq_none (by omega)]
    rfl
theorem ok_are_parts (D : Ds K mg Z) (B : Bt mg) (C0 : Cs mg) : FnOk P w K mg base CX0 5 Z.a_are_parts Z.d_are_parts P_are_parts (spPartsO w K) := by
  have G_are_ends := ok_are_ends (P := P) (w := w) (base := base) D B C0
  have G_is_place := ok_is_place (P := P) (w := w) (base := base) D B C0
  have G_is_price := ok_is_price (P := P) (w := w) (base := base) D B C0
  have G_states_of := ok_states_of (P := P) (w := w) (base := base) D B C0
  obtain ⟨⟨t_LIMIT, c_LIMIT⟩, ⟨t_ALPHABET, c_ALPHABET⟩, ⟨t_MAX_LETTERS, c_MAX_LETTERS⟩, ⟨t_MAX_STATES, c_MAX_STATES⟩, ⟨t_MAX_PRICE, c_MAX_PRICE⟩, ⟨t_FIRST, c_FIRST⟩, ⟨t_LAST, c_LAST⟩, ⟨t_ARC, c_ARC⟩⟩ := C0
  refine D.are_parts.F.ok sc_are_parts (fun vs H Q E h => ?_) (fun cdv A outer s H vs Q E hr h => ?_)
  · obtain ⟨f, l, d, fo, lo, ao, rfl, _⟩ := h
    rfl
  · obtain ⟨f, l, d, fo, lo, ao, rfl, hf, hl, hd, q⟩ := h
    refine ⟨_, (pss_cons (ps_if (PW.pt (pw_or (pt_not (pt_val (pe_df D.are_ends G_are_ends (hr.mono (by decide)) (by rfl) (pa_cons (pv 0) pa_nil)))) (pw_or (pt_not (pt_val (pe_df D.are_ends G_are_ends (hr.mono (by decide)) (by rfl) (pa_cons (pv 1) pa_nil)))) (pw_or1 (pt_not (pt_val (pe_callB (LPMX.call_isiN (w := w) (K := K) rfl rfl) (by rfl) B.isinstance (by decide +kernel) (pa_cons (pv 2) (pa_cons (pe_bltn (v := .ty "dict") (by rfl) B.dict (by decide +kernel) rfl) pa_nil))))))))) (pss_one (ps_ret pe_bl)) pss_nil)
    (pss_cons (ps_if (pt_not (pt_val (pe_callB (cr_allM rfl) (by rfl) B.all (by decide +kernel) (pa_cons (pe_lock (pe_lc (own := [("place", 3)]) (g := gName 3) rfl sc_are_parts.nd (LPMX.pi_keysN (w := w) rfl (pv 2)) (blkOk_by (N := N_are_parts) (sc := defScope s_are_parts) (by decide +kernel)) (fun _ _ _ _ _ => (pg_name (i := 3) sc_are_parts.nd rfl (Or.inl rfl))) (fun _ _ _ _ _ => pts_nil) (fun _ _ _ _ _ => (pe_and (pe_df D.is_place G_is_place (hr.mono (by decide)) (by rfl) (pa_cons (pv 3) pa_nil)) (pe_one (pe_df D.is_price G_is_price (hr.mono (by decide)) (by rfl) (pa_cons (LPMX.pe_dgetN (w := w) rfl hr.units (pv 2) (pv 3) (fun _ _ => rfl)) pa_nil))))))) pa_nil)))) (pss_one (ps_ret pe_bl)) pss_nil)
    (pss_one (ps_ret (pe_cmpR op_le (pe_callB call_lenT (by rfl) B.len (by decide +kernel) (pa_cons (pe_df D.states_of G_states_of (hr.mono (by decide)) (by rfl) (pa_cons (pv 0) (pa_cons (pv 1) (pa_cons (pv 2) pa_nil)))) pa_nil)) (pe_glob (v := .int _) (by rfl) c_MAX_STATES ⟨_, rfl⟩) (nomark _)))))), ?_⟩
    walk_at "rd"
    refine ⟨f, fo, rfl, hf, fun H1 e1 => ?_⟩
    cases hef : endsB fo with
    | false =>
      rw [partsB_f hef] at q
      have q2 := q H1 e1
      walk_at "rd"
      walk_at "gg"
    | true =>
    walk_at "rd"
    refine ⟨l, lo, rfl, hl.same e1, fun H2 e2 => ?_⟩
    replace e2 := e1.trans e2
    cases hel : endsB lo with
    | false =>
      rw [partsB_l hel] at q
      have q2 := q H2 e2
      walk_at "rd"
      walk_at "gg"
    | true =>
    replace hf := hf.same e2
    replace hl := hl.same e2
    replace hd := hd.same e2
    walk_at "rd"
    cases hd with
    | @no v t p ht =>
      refine .inl (rd_isi p (isi_dict p) ?_)
      have e : isiB t "dict" = false := by
        unfold isiB
        rw [beq_eq_false_iff_ne.mpr ht]
        simp
      rw [e]
      have q2 := q H2 e2
      clear e q
      walk_at "rd"
      walk_at "gg"
      exact q2
    | @dct d u ks hd hx hz nd ko pl dt =>
      refine .inr ⟨d, rfl, ks, u, "dict", rfl, .inl hd, hx, true, kit_ty (by decide +kernel), ?_⟩
      walk_at "rd"
      walk_at "gg"
      refine ⟨d, u, hd, hx.mut, fun od => ?_⟩
      have hd1 : upd H2 d (HO.frz od u) d = some (.frz od u) := upd_same
      have hx1 : DctO w (upd H2 d (HO.frz od u)) d ks u := hx.keeps (tk_lock hd hx)
      have pl1 : ∀ p ∈ ks, ∃ t, Pl K (upd H2 d (HO.frz od u)) p.2 t := fun p hp => let ⟨t, q⟩ := pl p hp; ⟨t, pl_lock hd hx q⟩
      walk_at "rd"
      refine ⟨od, u, rfl, ks, hx1, ?_⟩
      have valf : ∀ i (hi : i < ks.length), valV ks ks[i].1 = some ks[i].2 := fun i hi => val_nd nd (List.getElem_mem hi)
      refine lc_val (walk_keysN (w := w) (d := d) (o := od) (ks := ks)) (fun i => .bl (arcAt ks i)) (fun H1 e1 => ⟨u, e1 _ _ hd1, hx1.keeps fun b ys hb => e1 _ _ hb⟩) (by omega) ?_ ?_
      · intro i x H3 H4 hi e3 y R hR
        obtain ⟨rfl, k, v, hkv, nk⟩ := y
        have hmem : (k, v) ∈ ks := List.mem_of_getElem? hkv
        have hR2 : ∀ H5, Same H4 H5 → R (.bl (placeO (keyO k) && priceB v)) H5 := fun H5 e5 => by
          have := hR H5 e5
          unfold arcAt at this
          rw [hkv] at this
          exact this
        have va : valV ks k = some v := by
          have := valf i hi
          rw [List.getElem?_eq_getElem hi] at hkv
          rw [Option.some.inj hkv] at this
          exact this
        have vl := key_vl (K := K) nk (ko _ hmem)
        obtain ⟨t, pv⟩ := pl1 _ hmem
        replace pv := pv.same e3
        have hd3 := e3 _ _ hd1
        have hx3 : DctO w H4 d ks u := hx1.keeps fun b ys hb => e3 _ _ hb
        clear hR hkv valf
        walk_at "rd"
        refine ⟨x, _, rfl, vl, fun H5 e5 => ?_⟩
        cases hp : placeO (keyO k) with
        | false =>
          rw [hp, Bool.false_and] at hR2
          have q5 := hR2 H5 e5
          walk_at "rd"
          done
        | true =>
          rw [hp, Bool.true_and] at hR2
          walk_at "rd"
          refine ⟨u, .inr ⟨od, e5 _ _ hd3⟩, ks, hx3.keeps fun b ys hb => e5 _ _ hb, k, nk.keeps fun b ys hb => e5 _ _ hb, v, va, ?_⟩
          exact ⟨v, t, rfl, pv.same e5, hR2 H5 e5⟩
      · intro p H3 hp e3 hp2
        rw [arcs_range] at hp2
        have ea : (ks.map arcB).all id = ks.all arcB := by rw [List.all_map]; rfl
        refine ⟨e3 _ _ hd1, ?_⟩
        have npd : p ≠ d := fun e => by rw [e, upd_same] at hp; cases hp
        have sm2 := lock_same hd e3
        have hp3 : upd H3 d u p = some (.lst ((ks.map arcB).map V.bl)) := by rw [upd_ne npd]; exact hp2
        replace hf := hf.same sm2
        replace hl := hl.same sm2
        have hd4 := sm2 _ _ hd
        replace e2 := e2.trans sm2
        generalize upd H3 d u = H4 at sm2 hp3 hf hl hd4 e2 ⊢
        clear hp2 hp hd1 e3 sm2 hx1 pl1 valf
        refine ⟨p, rfl, _, hp3, ?_⟩
        rw [ea]
        have qq : ∀ H', Same H H' → Q (.bl (endsB fo && (endsB lo && (ks.all arcB && decide ((uniq (stsOf fo lo ks)).length ≤ 24))))) H' := q
        rw [hef, hel, Bool.true_and, Bool.true_and] at qq
        cases hA : ks.all arcB with
        | false =>
          rw [hA, Bool.false_and] at qq
          have q2 := qq H4 e2
          clear q qq ea
          walk_at "rd"
          walk_at "gg"
          done
        | true =>
          rw [hA, Bool.true_and] at qq
          obtain ⟨eks, an⟩ := arcs_all hA
          obtain ⟨kvs, eu⟩ := dt fun p hp => (Bool.and_eq_true_iff.mp (show (placeO (keyO p.1) && priceB p.2) = true from List.all_eq_true.mp hA p hp)).1
          subst eu
          have ekv : kvs = encA (arcsOf ks) := by
            rcases hx with ⟨kvs', e1, e2⟩ | ⟨ms, e1, _⟩
            · cases e1
              exact enc_kvs (e2.symm.trans eks)
            · cases e1
          subst ekv
          have lm : (arcsOf ks).length = ks.length := by
            have := congrArg List.length eks
            rw [List.length_map] at this
            exact this.symm
          cases fo with
          | none => cases hef
          | some xs =>
          cases lo with
          | none => cases hel
          | some ys =>
          obtain ⟨ef, f0, fn⟩ := ends_strs hef
          obtain ⟨el, l0, ln⟩ := ends_strs hel
          have qq2 : ∀ H', Same H H' → Q (.bl (decide ((uniq (strsV xs ++ strsV ys ++ innA (arcsOf ks))).length ≤ 24))) H' := qq
          clear q qq ea hA
          cases hf with
          | @tup f xs' hf hfl _ _ =>
          cases hl with
          | @tup l ys' hl hll _ _ =>
          rw [ef] at hf
          rw [el] at hl
          have lxs := congrArg List.length ef
          have lys := congrArg List.length el
          rw [List.length_map] at lxs lys
          have bd : (strsV xs).length + (strsV ys).length + 2 * (arcsOf ks).length ≤ 4000 := by omega
          clear ef el eks lm lxs lys hd hx hz nd ko pl dt an hef hel
          walk_at "rd"
          walk_at "gg"
          refine ⟨f, l, d, strsV xs, strsV ys, arcsOf ks, rfl, hf, hl, hd4, bd, fun zs p5 H5 e5 so h5 => ?_⟩
          have lz : (zs.map V.str).length = zs.length := List.length_map ..
          have q5 := qq2 H5 (e2.trans e5)
          rw [← nd_len so.nd so.mem] at q5
          walk_at "rd"
          rw [decide_eq_decide.mpr (show ((zs.length : Int) ≤ 24 ↔ zs.length ≤ 24) by omega)]
          exact q5
end
section
variable {P : Program} {w : World} {K : PySem.W.Frag} {mg : Str → Option Value} {base : Heap} {Z : Ad}
/-! ### steps -/
def stepsL (m : List (Arc × Int)) (s l : Str) : List (Str × Int) := (m.filter fun a => decide (a.1.1 = s) && decide (a.1.2.1 = l)).map fun a => (a.1.2.2, a.2)
theorem stepsL_snoc (m : List (Arc × Int)) (a : Arc × Int) (s l : Str) : stepsL (m ++ [a]) s l = stepsL m s l ++ (if a.1.1 = s ∧ a.1.2.1 = l then [(a.1.2.2, a.2)] else []) := by
  unfold stepsL
  rw [List.filter_append, List.map_append]
  congr 1
  by_cases h : a.1.1 = s ∧ a.1.2.1 = l
  · rw [if_pos h, List.filter_cons_of_pos (by simp [h.1, h.2])]
    rfl
  · rw [if_neg h, List.filter_cons_of_neg (by simp; exact fun e => fun e2 => h ⟨e, e2⟩)]
    rfl
/-- tuples stay -/
def Tk (H H' : Hp) : Prop := ∀ b ys, H b = some (.tup ys) → H' b = some (.tup ys)
theorem Tk.of {H H' : Hp} (e : Same H H') : Tk H H' := fun b ys h => e _ _ h
theorem Tk.trans {A B C : Hp} (a : Tk A B) (b : Tk B C) : Tk A C := fun c ys h => b c ys (a c ys h)
theorem Tk.put {H : Hp} {d : Addr} {ws : List (List Key × V)} {o : HO} (h : H d = some (.dT ws)) : Tk H (upd H d o) := fun b ys e => by
  rw [upd_ne (fun z => by rw [z, h] at e; cases e)]
  exact e
def Stp (H : Hp) (xs : List (Str × Int)) : Option V → Prop
  | none => xs = []
  | some v => ∃ t rs, v = .ref t ∧ H t = some (.tup (rs.map V.ref)) ∧ Paired (fun (x : Str × Int) r => H r = some (.tup [.str x.1, .int x.2])) xs rs
theorem paired_mono {α β : Type} {F G : α → β → Prop} (h : ∀ a b, F a b → G a b) : ∀ {l : List α} {m : List β}, Paired F l m → Paired G l m
  | _, _, .nil => .nil
  | _, _, .cons a t => .cons (h _ _ a) (paired_mono h t)
theorem paired_snoc {α β : Type} {F : α → β → Prop} {a : α} {b : β} (h : F a b) : ∀ {l : List α} {m : List β}, Paired F l m → Paired F (l ++ [a]) (m ++ [b])
  | _, _, .nil => .cons h .nil
  | _, _, .cons x t => .cons x (paired_snoc h t)
theorem Stp.mono {H H' : Hp} {xs : List (Str × Int)} {o : Option V} (k : Tk H H') (h : Stp H xs o) : Stp H' xs o := by
  cases o with
  | none => exact h
  | some v =>
    obtain ⟨t, rs, h1, h2, h3⟩ := h
    exact ⟨t, rs, h1, k _ _ h2, paired_mono (fun _ _ e => k _ _ e) h3⟩
def StO (H : Hp) (ws : List (List Key × V)) (m : List (Arc × Int)) : Prop := ∀ s l, Stp H (stepsL m s l) (valV ws [.inr s, .inr l])
theorem StO.mono {H H' : Hp} {ws : List (List Key × V)} {m : List (Arc × Int)} (k : Tk H H') (h : StO H ws m) : StO H' ws m := fun s l => (h s l).mono k
def spSteps : Sp := fun vs H Q _ => ∃ (d : Addr) (m : List (Arc × Int)), vs = [.ref d] ∧ H d = some (.dT (encA m)) ∧ m.length ≤ 2000 ∧ ∀ p ws H', Same H H' → H' p = some (.dT ws) → StO H' ws m → Q (.ref p) H'
theorem ok_steps_in (D : Ds K mg Z) (B : Bt mg) (C0 : Cs mg) : FnOk P w K mg base CX0 1 Z.a_steps_in Z.d_steps_in P_steps_in spSteps := by
  obtain ⟨⟨t_LIMIT, c_LIMIT⟩, ⟨t_ALPHABET, c_ALPHABET⟩, ⟨t_MAX_LETTERS, c_MAX_LETTERS⟩, ⟨t_MAX_STATES, c_MAX_STATES⟩, ⟨t_MAX_PRICE, c_MAX_PRICE⟩, ⟨t_FIRST, c_FIRST⟩, ⟨t_LAST, c_LAST⟩, ⟨t_ARC, c_ARC⟩⟩ := C0
  refine D.steps_in.F.ok sc_steps_in (fun vs H Q E h => ?_) (fun cdv A outer s H vs Q E hr h => ?_)
  · obtain ⟨d, m, rfl, _⟩ := h
    rfl
  · obtain ⟨d, m, rfl, hd, hz, q⟩ := h
    refine ⟨_, (pss_cons (ps_set (i := 1) sc_steps_in.nd rfl (Or.inl rfl) pe_dnewT)
    (pss_cons (ps_lock (ps_for PassesOwn.never rfl (pi_itT (pv 0)) (pg_tupK (K := K) (n := 2) rfl rfl (pgs_cons (pg_tupK (K := K) (n := 3) rfl rfl (pgs_cons (pg_name (i := 2) sc_steps_in.nd rfl (Or.inl rfl)) (pgs_cons (pg_name (i := 3) sc_steps_in.nd rfl (Or.inl rfl)) (pgs_cons (pg_name (i := 4) sc_steps_in.nd rfl (Or.inl rfl)) pgs_nil)))) (pgs_cons (pg_name (i := 5) sc_steps_in.nd rfl (Or.inl rfl)) pgs_nil)))
      (pss_one (ps_dput (hu_of hr) (pv 1) (pe_tup (pa_cons (pv 2) (pa_cons (pv 3) pa_nil))) (pe_tup (pa_starK (K := K) rfl (pe_dget2 (hu_of hr) (pv 1) (pe_tup (pa_cons (pv 2) (pa_cons (pv 3) pa_nil))) (pe_tup pa_nil) ⟨rfl, rfl, rfl, rfl⟩) (pa_cons (pe_tup (pa_cons (pv 4) (pa_cons (pv 5) pa_nil))) pa_nil))) rfl))))
    (pss_one (ps_ret (pv 1))))), ?_⟩
    walk_at "rd"
    intro p hp
    have s1 := Same.new (o := HO.dT []) hp
    have hp1 : upd H p (HO.dT []) p = some (.dT []) := upd_same
    have hd1 := s1 _ _ hd
    generalize upd H p (HO.dT []) = H1 at s1 hp1 hd1 ⊢
    have npd : p ≠ d := fun e => by rw [e, hd] at hp; cases hp
    walk_at "go"
    refine ⟨d, _, hd1, trivial, fun od => ?_⟩
    walk_at "rd"
    refine ⟨od, _, rfl, ?_⟩
    have le : (encA m).length = m.length := List.length_map ..
    have hp2 : upd H1 d (HO.frz od (HO.dT (encA m))) p = some (.dT []) := by rw [upd_ne npd]; exact hp1
    have hd2 : upd H1 d (HO.frz od (HO.dT (encA m))) d = some (.frz od (.dT (encA m))) := upd_same
    have k2 : ∀ b o, b ≠ d → b ≠ p → H b = some o → upd H1 d (HO.frz od (HO.dT (encA m))) b = some o := fun b o h1 _ h => by rw [upd_ne h1]; exact s1 _ _ h
    generalize upd H1 d (HO.frz od (HO.dT (encA m))) = H2 at hp2 hd2 k2 ⊢
    obtain ⟨Pv, hP⟩ := inv_bi (fun (i : Nat) (σ : St) (H' : Hp) => ∃ (ws : List (List Key × V)) (o2 o3 o4 o5 : Option V), σ = [some (.ref d), some (.ref p), o2, o3, o4, o5] ∧ H' d = some (.frz od (.dT (encA m))) ∧ (∀ b o, b ≠ d → b ≠ p → H b = some o → H' b = some o) ∧ H' p = some (.dT ws) ∧ ws.length ≤ i ∧ StO H' ws (m.take i))
    refine loop_it (walk_itI (d := d) (o := od) (ws := encA m)) Pv ((hP _ _ _).mpr ⟨[], _, _, _, _, rfl, hd2, k2, hp2, Nat.le_refl _, fun s l => rfl⟩) (fun i σ H' _ h => by obtain ⟨_, _, _, _, _, _, h, _⟩ := (hP _ _ _).mp h; exact h) (fun i x σ H3 H4 hi hpv y => ?_) (fun σ H3 hpv => ?_)
    · obtain ⟨ws, o2, o3, o4, o5, rfl, hd3, k3, hp3, hw3, st3⟩ := (hP _ _ _).mp hpv
      clear hpv hp2 hd2 k2
      obtain ⟨T, r, k, v, hkv, rfl, hT, hr3, rfl⟩ := y
      have hm : i < m.length := by omega
      have ek : (encA m)[i]? = some (key3 m[i].1, .int m[i].2) := by
        unfold encA
        rw [List.getElem?_map, List.getElem?_eq_getElem hm]
        rfl
      rw [ek] at hkv
      cases hkv
      have et : m.take (i + 1) = m.take i ++ [m[i]] := by rw [List.take_add_one, List.getElem?_eq_getElem hm]; rfl
      have fin := fun ws' o2 o3 o4 o5 H' (h1 : H' d = some (.frz od (.dT (encA m)))) (h2 : ∀ b o, b ≠ d → b ≠ p → H b = some o → H' b = some o) (h3 : H' p = some (.dT ws')) (h4 : ws'.length ≤ i + 1) (h5 : StO H' ws' (m.take i ++ [m[i]])) => (hP (i + 1) [some (.ref d), some (.ref p), o2, o3, o4, o5] H').mpr ⟨ws', o2, o3, o4, o5, rfl, h1, h2, h3, h4, by rw [et]; exact h5⟩
      clear hP et ek
      generalize m[i] = a at *
      have s4 := Same.new (o := HO.tup [.ref r, .int a.2]) hT
      have hT4 : upd H3 T (HO.tup [.ref r, .int a.2]) T = some (.tup [.ref r, .int a.2]) := upd_same
      replace hr3 := s4 _ _ hr3
      replace hd3 := s4 _ _ hd3
      replace hp3 := s4 _ _ hp3
      replace st3 := st3.mono (Tk.of s4)
      replace k3 : ∀ b o, b ≠ d → b ≠ p → H b = some o → upd H3 T (HO.tup [.ref r, .int a.2]) b = some o := fun b o h1 h2 h => s4 _ _ (k3 b o h1 h2 h)
      generalize upd H3 T (HO.tup [.ref r, .int a.2]) = H4 at hT4 hr3 hd3 hp3 st3 k3 ⊢
      clear s4 hT
      walk_at "rd"
      refine ⟨_, SqT.of hT4, rfl, _, _, rfl, ?_⟩
      walk_at "rd"
      refine ⟨_, SqT.of hr3, rfl, _, _, rfl, _, _, rfl, _, _, rfl, rfl, ?_⟩
      walk_at "rd"
      walk_at "go"
      clear hT4 hr3
      refine ⟨.inr ⟨_, .inl hp3⟩, by decide, fun t1 h1 => ⟨Nat.zero_le _, fun t2 h2 => ?_⟩⟩
      have s5 := (Same.new (o := HO.tup [kV (Sum.inr a.1.1), kV (Sum.inr a.1.2.1)]) h1).trans (Same.new (o := HO.tup []) h2)
      have ht1 : upd (upd H4 t1 (HO.tup [kV (Sum.inr a.1.1), kV (Sum.inr a.1.2.1)])) t2 (HO.tup []) t1 = some (.tup [kV (Sum.inr a.1.1), kV (Sum.inr a.1.2.1)]) := Same.new h2 _ _ upd_same
      have ht2 : upd (upd H4 t1 (HO.tup [kV (Sum.inr a.1.1), kV (Sum.inr a.1.2.1)])) t2 (HO.tup []) t2 = some (.tup []) := upd_same
      replace hp3 := s5 _ _ hp3
      replace hd3 := s5 _ _ hd3
      replace st3 := st3.mono (Tk.of s5)
      replace k3 := fun b o h1 h2 h => s5 _ _ (k3 b o h1 h2 h)
      generalize upd (upd H4 t1 (HO.tup [kV (Sum.inr a.1.1), kV (Sum.inr a.1.2.1)])) t2 (HO.tup []) = H5 at ht1 ht2 hp3 hd3 st3 k3 ⊢
      clear s5 h1 h2
      have sl : (stepsL (m.take i) a.1.1 a.1.2.1).length ≤ 2000 := by
        unfold stepsL
        rw [List.length_map]
        refine Nat.le_trans (List.length_filter_le _ _) ?_
        rw [List.length_take]
        omega
      obtain ⟨t3, rs, e3, ht3, pr⟩ : ∃ t3 rs, (valV ws [Sum.inr a.1.1, Sum.inr a.1.2.1]).getD (V.ref t2) = .ref t3 ∧ H5 t3 = some (.tup (rs.map V.ref)) ∧ Paired (fun (x : Str × Int) r => H5 r = some (.tup [.str x.1, .int x.2])) (stepsL (m.take i) a.1.1 a.1.2.1) rs := by
        have h := st3 a.1.1 a.1.2.1
        cases hv : valV ws [Sum.inr a.1.1, Sum.inr a.1.2.1] with
        | none =>
          rw [hv] at h
          rw [show stepsL (m.take i) a.1.1 a.1.2.1 = [] from h]
          exact ⟨t2, [], rfl, ht2, .nil⟩
        | some v =>
          rw [hv] at h
          obtain ⟨t, rs, rfl, h2, h3⟩ := h
          exact ⟨t, rs, rfl, h2, h3⟩
      have lrs : rs.length ≤ 2000 := by rw [← Paired.length pr]; exact sl
      refine ⟨_, .inr ⟨ws, [Sum.inr a.1.1, Sum.inr a.1.2.1], t1, .inl hp3, rfl, ht1, rfl⟩, t3, e3, _, .inl (SqT.of ht3), by decide, fun t4 h4 => ⟨?_, fun t5 h5 => ⟨by decide, fun t6 h6 => ?_⟩⟩⟩
      · rw [List.length_append, List.length_map]
        exact Nat.le_trans (show rs.length + 1 ≤ 2001 by omega) (by decide)
      have s7 := Same.new (o := HO.tup [kV (Sum.inr a.1.2.2), V.int a.2]) h4
      have s8 := Same.new (o := HO.tup (rs.map V.ref ++ [V.ref t4])) h5
      have s9 := Same.new (o := HO.tup [kV (Sum.inr a.1.1), kV (Sum.inr a.1.2.1)]) h6
      have ht4 := s9 t4 (HO.tup [kV (Sum.inr a.1.2.2), V.int a.2]) (s8 _ _ upd_same)
      have ht5 := s9 t5 (HO.tup (rs.map V.ref ++ [V.ref t4])) upd_same
      have ht6 : upd (upd (upd H5 t4 (HO.tup [kV (Sum.inr a.1.2.2), V.int a.2])) t5 (HO.tup (rs.map V.ref ++ [V.ref t4]))) t6 (HO.tup [kV (Sum.inr a.1.1), kV (Sum.inr a.1.2.1)]) t6 = some (.tup [kV (Sum.inr a.1.1), kV (Sum.inr a.1.2.1)]) := upd_same
      have sA := (s7.trans s8).trans s9
      replace hp3 := sA _ _ hp3
      replace hd3 := sA _ _ hd3
      replace st3 := st3.mono (Tk.of sA)
      replace k3 := fun b o h1 h2 h => sA _ _ (k3 b o h1 h2 h)
      replace pr := paired_mono (fun _ _ e => sA _ _ e) pr
      generalize upd (upd (upd H5 t4 (HO.tup [kV (Sum.inr a.1.2.2), V.int a.2])) t5 (HO.tup (rs.map V.ref ++ [V.ref t4]))) t6 (HO.tup [kV (Sum.inr a.1.1), kV (Sum.inr a.1.2.1)]) = H6 at ht4 ht5 ht6 hp3 hd3 st3 k3 pr ⊢
      clear s7 s8 s9 sA h4 h5 h6 ht1 ht2 ht3
      have wl : ws.length < sizeLine := Nat.lt_of_le_of_lt (show ws.length ≤ 2000 by omega) (by decide)
      refine ⟨_, DPut.t (k := [Sum.inr a.1.1, Sum.inr a.1.2.1]) hp3 ht6 wl, fin _ _ _ _ _ _ ?_ ?_ upd_same ?_ ?_⟩
      · rw [upd_ne npd.symm]
        exact hd3
      · intro b o h1 h2 h
        rw [upd_ne h2]
        exact k3 b o h1 h2 h
      · have := length_putK ws [Sum.inr a.1.1, Sum.inr a.1.2.1] (V.ref t5)
        omega
      · have tk : Tk H6 (upd H6 p (HO.dT (putK ws [Sum.inr a.1.1, Sum.inr a.1.2.1] (V.ref t5)))) := Tk.put hp3
        intro s l
        rw [valV_put, stepsL_snoc]
        by_cases hk : a.1.1 = s ∧ a.1.2.1 = l
        · obtain ⟨rfl, rfl⟩ := hk
          rw [if_pos rfl, if_pos ⟨rfl, rfl⟩]
          refine ⟨t5, rs ++ [t4], rfl, ?_, paired_mono (fun _ _ e => tk _ _ e) (paired_snoc (F := fun (x : Str × Int) r => H6 r = some (.tup [.str x.1, .int x.2])) (a := (a.1.2.2, a.2)) (b := t4) ht4 pr)⟩
          rw [List.map_append]
          exact tk _ _ ht5
        · have nk : ¬ ([Sum.inr s, Sum.inr l] = ([Sum.inr a.1.1, Sum.inr a.1.2.1] : List Key)) := fun e => hk (by simp only [List.cons.injEq, Sum.inr.injEq, and_true] at e; exact ⟨e.1.symm, e.2.symm⟩)
          rw [if_neg hk, if_neg nk, List.append_nil]
          exact (st3 s l).mono tk
    · obtain ⟨ws, o2, o3, o4, o5, rfl, hd3, k3, hp3, hw3, st3⟩ := (hP _ _ _).mp hpv
      rw [le, List.take_length] at st3
      refine ⟨hd3, ?_⟩
      have q2 := q p ws (upd H3 d (HO.dT (encA m))) (fun b o h => ?_) (by rw [upd_ne npd]; exact hp3) (st3.mono fun b ys e => by rw [upd_ne (fun z => by rw [z, hd3] at e; cases e)]; exact e)
      · walk_at "gg"
      · by_cases hb : b = d
        · rw [hb, upd_same, ← hd, ← hb]
          exact h
        · rw [upd_ne hb]
          exact k3 b o hb (ne_of_none h hp) h
end
section
variable {P : Program} {w : World} {K : PySem.W.Frag} {mg : Str → Option Value} {base : Heap} {Z : Ad}
open LPMX
def Err0 (C : Addr) (H : Hp) (E : XK) : Prop := ∀ H', Same H H' → E (.ref C) none H'
theorem gm_of {H : Hp} {f l d : V} {fo lo : Option (List V)} {ao : Option (List (NestedKey × V))} (hf : Vl K H f fo) (hl : Vl K H l lo) (hd : Ar w K H d ao) (h : partsB fo lo ao = true) :
    ∃ (a b c : Addr) (fs ls : List Str) (m : List (Arc × Int)), f = .ref a ∧ l = .ref b ∧ d = .ref c ∧ H a = some (.tup (fs.map V.str)) ∧ H b = some (.tup (ls.map V.str)) ∧ H c = some (.dT (encA m)) ∧ Gm fs ls m := by
  cases hd with
  | no p ht => cases h
  | @dct d u ks hd hx hz nd ko pl dt =>
    have h1 : (endsB fo && (endsB lo && (ks.all arcB && decide ((uniq (stsOf fo lo ks)).length ≤ 24)))) = true := h
    obtain ⟨hef, h2⟩ := Bool.and_eq_true_iff.mp h1
    obtain ⟨hel, h3⟩ := Bool.and_eq_true_iff.mp h2
    obtain ⟨hA, h4⟩ := Bool.and_eq_true_iff.mp h3
    have few := of_decide_eq_true h4
    obtain ⟨eks, an⟩ := arcs_all hA
    obtain ⟨kvs, eu⟩ := dt fun p hp => (Bool.and_eq_true_iff.mp (show (placeO (keyO p.1) && priceB p.2) = true from List.all_eq_true.mp hA p hp)).1
    subst eu
    have ekv : kvs = encA (arcsOf ks) := by
      rcases hx with ⟨kvs', e1, e2⟩ | ⟨ms, e1, _⟩
      · cases e1
        exact enc_kvs (e2.symm.trans eks)
      · cases e1
    subst ekv
    have lm : (arcsOf ks).length = ks.length := by
      have := congrArg List.length eks
      rw [List.length_map] at this
      exact this.symm
    cases hf with
    | no p ht => cases hef
    | @tup f xs hf hfl _ _ =>
    cases hl with
    | no p ht => cases hel
    | @tup l ys hl hll _ _ =>
    obtain ⟨ef, f0, fn⟩ := ends_strs hef
    obtain ⟨el, l0, ln⟩ := ends_strs hel
    have lxs := congrArg List.length ef
    have lys := congrArg List.length el
    rw [List.length_map] at lxs lys
    rw [ef] at hf
    rw [el] at hl
    refine ⟨f, l, d, strsV xs, strsV ys, arcsOf ks, rfl, rfl, rfl, hf, hl, hd, ⟨f0, l0, fn, ln, an, ?_, by omega, fun zs so => ?_⟩⟩
    · rw [eks, List.map_map] at nd
      have nd2 : ((arcsOf ks).map ((fun a : Arc => nkT (key3 a)) ∘ fun a : Arc × Int => a.1)).Nodup := nd
      rw [← List.map_map] at nd2
      exact List.Pairwise.of_map _ (fun a b z e => z (by rw [e])) nd2
    · rw [nd_len so.nd so.mem]
      exact few
end
section
variable {P : Program} {w : World} {K : PySem.W.Frag} {mg : Str → Option Value} {base : Heap} {Z : Ad}
/-! ### class Machine -/
def leA (a b : Arc × Int) : Bool := leK (key3 a.1) (key3 b.1)
def sortA (m : List (Arc × Int)) : List (Arc × Int) := m.mergeSort leA
theorem sort_perm (m : List (Arc × Int)) : (sortA m).Perm m := List.mergeSort_perm m leA
theorem sort_keys (m : List (Arc × Int)) : sortK ((encA m).map (·.1)) = (encA (sortA m)).map (·.1) := by
  unfold sortK sortA encA
  rw [List.map_map, List.map_map]
  exact (List.map_mergeSort (f := (fun p => p.1) ∘ fun (a : Arc × Int) => (key3 a.1, V.int a.2)) (r := leA) (s := leK) fun a _ b _ => rfl).symm
theorem sort_nd {m : List (Arc × Int)} (h : (m.map (·.1)).Nodup) : ((sortA m).map (·.1)).Nodup := ((sort_perm m).map _).nodup_iff.mpr h
theorem sort_len (m : List (Arc × Int)) : (sortA m).length = m.length := (sort_perm m).length_eq
theorem slt_at {H : Hp} {x C dx : Addr} {v : Option V} {vs : List (Option V)} (h : SlX.Slt H x C dx (v :: vs)) : H x = some (SlX.SlO x C dx (v :: vs)) ∧ H dx = some (.xd []) := by
  rcases h with ⟨_, h⟩ | h
  · cases h
  · exact h
theorem slt_new {H : Hp} {x C dx p : Addr} {v : Option V} {vs : List (Option V)} (h : SlX.Slt H x C dx (v :: vs)) (hp : H p = none) : p ≠ x ∧ p ≠ dx :=
  ⟨(fun e => by rw [e, (slt_at h).1] at hp; cases hp), (fun e => by rw [e, (slt_at h).2] at hp; cases hp)⟩
theorem slt_off {H : Hp} {x C dx b : Addr} {o : HO} {v : Option V} {vs : List (Option V)} (h : SlX.Slt H x C dx (v :: vs)) (hb : H b = some o) (h1 : ∀ φ, o ≠ .ext φ) (h2 : ∀ fs, o ≠ .xd fs) : b ≠ x ∧ b ≠ dx :=
  ⟨(fun e => by rw [e, (slt_at h).1] at hb; exact h1 _ (Option.some.inj hb).symm), fun e => by rw [e, (slt_at h).2] at hb; exact h2 _ (Option.some.inj hb).symm⟩
theorem len_app (a b : Str) : (a ++ b).length = a.length + b.length := by
  show (a.cps ++ b.cps).size = a.cps.size + b.cps.size
  simp
theorem price_in {i : Int} (h : priceB (.int i) = true) : 0 ≤ i ∧ i ≤ 9 := by
  unfold priceB at h
  rw [Bool.and_eq_true] at h
  have h2 : (decide (0 ≤ i) && decide (i ≤ 9)) = true := h.2
  rw [Bool.and_eq_true, decide_eq_true_eq, decide_eq_true_eq] at h2
  exact h2
theorem price_txt {i : Int} (h : priceB (.int i) = true) : (Str.ofString (toString i)).length = 1 := by
  obtain ⟨h0, h9⟩ := price_in h
  rcases (show i = 0 ∨ i = 1 ∨ i = 2 ∨ i = 3 ∨ i = 4 ∨ i = 5 ∨ i = 6 ∨ i = 7 ∨ i = 8 ∨ i = 9 by omega) with rfl | rfl | rfl | rfl | rfl | rfl | rfl | rfl | rfl | rfl <;> decide +kernel
theorem small_line {n : Nat} (h : n ≤ 100) : n ≤ sizeLine := Nat.le_trans h (by decide)
theorem len_arc : (Str.ofString "arc").length = 3 := by decide +kernel
theorem len_sp : (Str.ofString " ").length = 1 := by decide +kernel
theorem len_em : Str.empty.length = 0 := rfl
def lineA (a : Arc × Int) : Str := Str.empty ++ Str.ofString "arc" ++ Str.ofString " " ++ a.1.1 ++ Str.ofString " " ++ a.1.2.1 ++ Str.ofString " " ++ Str.ofString (toString a.2) ++ Str.ofString " " ++ a.1.2.2
def lineAt (m : List (Arc × Int)) (i : Nat) : Str := match m[i]? with
  | some a => lineA a
  | none => Str.empty
def linesM (fs ls : List Str) (m : List (Arc × Int)) : List Str := Txt.join (Str.ofString " ") (Str.ofString "first" :: fs) :: Txt.join (Str.ofString " ") (Str.ofString "last" :: ls) :: m.map lineA
theorem sum_le : ∀ {xs : List Str}, (∀ x ∈ xs, x.length ≤ 8) → (xs.map (fun x => x.length)).sum ≤ 8 * xs.length
  | [], _ => Nat.le_refl _
  | x :: xs, h => by
    have h1 := h x List.mem_cons_self
    have h2 := sum_le fun y hy => h y (List.mem_cons_of_mem _ hy)
    rw [List.map_cons, List.sum_cons, List.length_cons]
    omega
theorem names_8 {xs : List Str} (h : namesB xs = true) : ∀ x ∈ xs, x.length ≤ 8 := fun x hx => by
  unfold namesB at h
  rw [Bool.and_eq_true, List.all_eq_true] at h
  exact name_len (h.1 x hx)
theorem inn_mem {m : List (Arc × Int)} {x : Str} : x ∈ innA m ↔ ∃ a ∈ m, x = a.1.1 ∨ x = a.1.2.2 := by
  unfold innA
  rw [List.mem_flatMap]
  constructor
  · rintro ⟨a, ha, h⟩
    exact ⟨a, ha, by simpa using h⟩
  · rintro ⟨a, ha, h⟩
    exact ⟨a, ha, by simpa using h⟩
theorem sorted_perm {fs ls : List Str} {m m' : List (Arc × Int)} (p : m.Perm m') {ys : List Str} (h : Sorted ys (fs ++ ls ++ innA m)) : Sorted ys (fs ++ ls ++ innA m') := by
  refine ⟨h.up, h.nd, fun k => ?_, ?_⟩
  · rw [h.mem, List.mem_append (s := fs ++ ls) (t := innA m), List.mem_append (s := fs ++ ls) (t := innA m'), inn_mem, inn_mem]
    constructor
    · rintro (z | ⟨a, ha, z⟩)
      · exact .inl z
      · exact .inr ⟨a, p.mem_iff.mp ha, z⟩
    · rintro (z | ⟨a, ha, z⟩)
      · exact .inl z
      · exact .inr ⟨a, p.mem_iff.mpr ha, z⟩
  · have h1 := h.len
    rw [List.length_append, inn_len, p.length_eq] at h1
    rw [List.length_append, inn_len]
    exact h1
theorem Gm.perm {fs ls : List Str} {m m' : List (Arc × Int)} (p : m.Perm m') (h : Gm fs ls m) : Gm fs ls m' :=
  ⟨h.f0, h.l0, h.fn, h.ln, fun a ha => h.an a (p.mem_iff.mpr ha), (p.map _).nodup_iff.mp h.nd, by rw [← p.length_eq]; exact h.small, fun ys so => h.few ys (sorted_perm p.symm so)⟩
/-- the instance at x is the machine of these parts, its arcs ascending -/
def MacO (C : Addr) (H : Hp) (x : Addr) (fs ls : List Str) (m : List (Arc × Int)) : Prop := ∃ (dx da f l ln st sp : Addr) (ys : List Str) (ws : List (List Key × V)), SlX.Slt H x C dx [some (.ref da), some (.ref f), some (.ref l), some (.ref ln), some (.ref st), some (.ref sp)] ∧ H da = some (.dT (encA m)) ∧
  H f = some (.tup (fs.map V.str)) ∧ H l = some (.tup (ls.map V.str)) ∧ H ln = some (.tup ((linesM fs ls m).map V.str)) ∧ H st = some (.tup (ys.map V.str)) ∧ Sorted ys (fs ++ ls ++ innA m) ∧ H sp = some (.dT ws) ∧ StO H ws m ∧ Gm fs ls m
theorem MacO.same {C : Addr} {H H' : Hp} {x : Addr} {fs ls : List Str} {m : List (Arc × Int)} (e : Same H H') (h : MacO C H x fs ls m) : MacO C H' x fs ls m := by
  obtain ⟨dx, da, f, l, ln, st, sp, ys, ws, h1, h2, h3, h4, h5, h6, h7, h8, h9, h10⟩ := h
  exact ⟨dx, da, f, l, ln, st, sp, ys, ws, Same.slt e h1, e _ _ h2, e _ _ h3, e _ _ h4, e _ _ h5, e _ _ h6, h7, e _ _ h8, h9.mono (Tk.of e), h10⟩
def spMacX (w : World) (K : PySem.W.Frag) (C C2 : Addr) : Sp := fun vs H Q E => ∃ (x dx : Addr) (f l d : V) (fo lo : Option (List V)) (ao : Option (List (NestedKey × V))), vs = [.ref x, f, l, d] ∧ H x = some (.ins C dx []) ∧ H dx = some (.own x) ∧ dx ≠ x ∧ Vl K H f fo ∧ Vl K H l lo ∧ Ar w K H d ao ∧
  (partsB fo lo ao = true → ∀ H', (∀ b o, b ≠ x → b ≠ dx → H b = some o → H' b = some o) → Q .non H') ∧ (partsB fo lo ao = false → Err0 C2 H E)
theorem ok_Machine___init__ (D : Ds K mg Z) (B : Bt mg) (C0 : Cs mg) : FnOk P w K mg base (L2.CX P w) 7 Z.a_Machine___init__ Z.d_Machine___init__ P_Machine___init__ (spMacX w K Z.c_Machine Z.c_InvalidMachine) := by
  have G_are_parts := ok_are_parts (P := P) (w := w) (base := base) D B C0
  have G_states_of := ok_states_of (P := P) (w := w) (base := base) D B C0
  have G_steps_in := ok_steps_in (P := P) (w := w) (base := base) D B C0
  obtain ⟨⟨t_LIMIT, c_LIMIT⟩, ⟨t_ALPHABET, c_ALPHABET⟩, ⟨t_MAX_LETTERS, c_MAX_LETTERS⟩, ⟨t_MAX_STATES, c_MAX_STATES⟩, ⟨t_MAX_PRICE, c_MAX_PRICE⟩, ⟨t_FIRST, c_FIRST⟩, ⟨t_LAST, c_LAST⟩, ⟨t_ARC, c_ARC⟩⟩ := C0
  refine okX D.Machine___init__.F sc_Machine___init__ (fun vs H Q E h => ?_) (fun cdv A outer s H vs Q E hr tk h => ?_)
  · obtain ⟨x, dx, f, l, d, fo, lo, ao, rfl, _⟩ := h
    rfl
  · obtain ⟨x, dx, f, l, d, fo, lo, ao, rfl, hx, hdx, hne, hvf, hvl, har, q1, q2⟩ := h
    refine ⟨_, (pss_cons (ps_if (pt_not (pt_val (pe_df D.are_parts G_are_parts (hr.mono (by decide)) (by rfl) (pa_cons (pv 1) (pa_cons (pv 2) (pa_cons (pv 3) pa_nil)))))) (pss_one (ps_raise rfl tk (pmk_new0 D.InvalidMachine (by rfl)))) pss_nil)
    (pss_cons (SlX.ps_sl (pv 0) (pv 1))
    (pss_cons (SlX.ps_sl (pv 0) (pv 2))
    (pss_cons (SlX.ps_sl (pv 0) (pe_dcT (own := [("place", 4)]) (g := gName 4) (hu_of hr) rfl sc_Machine___init__.nd (pi_listK (K := K) rfl (pe_callB (cr_sortD rfl hr.units) (by rfl) B.sorted (by decide +kernel) (pa_cons (pv 3) pa_nil))) (blkOk_by (N := N_Machine___init__) (sc := defScope s_Machine___init__) (by decide +kernel)) (fun _ _ _ _ _ => (pg_name (i := 4) sc_Machine___init__.nd rfl (Or.inl rfl))) (fun _ _ _ _ _ => pts_nil) (fun _ _ _ _ _ => (pv 4)) (fun _ _ _ _ _ => (pe_dget (hu_of hr) (pv 3) (pv 4) (fun _ _ => rfl)))))
    (pss_cons (SlX.ps_sl (pv 0) (pe_df D.states_of G_states_of (hr.mono (by decide)) (by rfl) (pa_cons (pv 1) (pa_cons (pv 2) (pa_cons (pv 3) pa_nil)))))
    (pss_cons (SlX.ps_sl (pv 0) (pe_df D.steps_in G_steps_in (hr.mono (by decide)) (by rfl) (pa_cons (pe_slot D.Machine D.Machine_own_arcs (pv 0)) pa_nil)))
    (pss_cons (ps_lock (ps_setLc (i := 5) (own := [("price", 9), ("state", 6), ("letter", 7), ("later", 8)]) rfl sc_Machine___init__.nd rfl rfl (sw_true rfl rfl rfl (by decide +kernel)) (pi_itT (pe_slot D.Machine D.Machine_own_arcs (pv 0))) (blkOk_by (N := N_Machine___init__) (sc := defScope s_Machine___init__) (by decide +kernel)) (fun _ _ _ _ _ => (pg_tupK (K := K) (n := 2) rfl rfl (pgs_cons (pg_tupK (K := K) (n := 3) rfl rfl (pgs_cons (pg_name (i := 6) sc_Machine___init__.nd rfl (Or.inl rfl)) (pgs_cons (pg_name (i := 7) sc_Machine___init__.nd rfl (Or.inl rfl)) (pgs_cons (pg_name (i := 8) sc_Machine___init__.nd rfl (Or.inl rfl)) pgs_nil)))) (pgs_cons (pg_name (i := 9) sc_Machine___init__.nd rfl (Or.inl rfl)) pgs_nil)))) (fun _ _ _ _ _ => pts_nil) (fun _ _ _ _ _ => (pe_joined (PJ.cons (pe_fmt (pe_glob (v := .str _) (by rfl) c_ARC ⟨_, rfl⟩)) (PJ.cons pe_str (PJ.cons (pe_fmt (pv 6)) (PJ.cons pe_str (PJ.cons (pe_fmt (pv 7)) (PJ.cons pe_str (PJ.cons (pe_fmt (pv 9)) (PJ.cons pe_str (PJ.cons (pe_fmt (pv 8)) PJ.nil)))))))))))))
    (pss_one (SlX.ps_sl (pv 0) (pe_tup (pa_cons (pe_sm PySem.F.plainAttrs_str PySem.F.slot_str_join PySem.F.type_str_join (mt_joinK (K := K) rfl) pe_str (pa_cons (pe_lst (pa_cons (pe_glob (v := .str _) (by rfl) c_FIRST ⟨_, rfl⟩) (pa_starK (K := K) rfl (pv 1) pa_nil))) pa_nil)) (pa_cons (pe_sm PySem.F.plainAttrs_str PySem.F.slot_str_join PySem.F.type_str_join (mt_joinK (K := K) rfl) pe_str (pa_cons (pe_lst (pa_cons (pe_glob (v := .str _) (by rfl) c_LAST ⟨_, rfl⟩) (pa_starK (K := K) rfl (pv 2) pa_nil))) pa_nil)) (pa_starK (K := K) rfl (pv 5) pa_nil))))))))))))), ?_⟩
    walk_at "rd"
    refine ⟨f, l, d, fo, lo, ao, rfl, hvf, hvl, har, fun H1 e1 => ?_⟩
    cases hpb : partsB fo lo ao with
    | false =>
      have qq := q2 hpb H1 e1
      clear q1 q2
      walk_at "rd"
      walk_at "gg"
    | true =>
    obtain ⟨f, l, d, fs, ls, m, rfl, rfl, rfl, hf, hl, hd, gm⟩ := gm_of hvf hvl har hpb
    have q : ∀ H', (∀ b o, b ≠ x → b ≠ dx → H b = some o → H' b = some o) → MacO Z.c_Machine H' x fs ls (sortA m) → Q .non H' := fun H' k _ => q1 hpb H' k
    clear q1 q2 hvf hvl har hpb
    have small := gm.small
    walk_at "rd"
    walk_at "gg"
    refine ⟨_, rfl, _, rfl, x, Z.c_Machine, dx, Z.q_Machine_own_firsts, [], 1, rfl, .inl ⟨e1 _ _ hx, rfl⟩, D.Machine.sc, D.Machine_own_firsts, ?_⟩
    refine later ?_
    refine ⟨_, rfl, _, rfl, x, Z.c_Machine, dx, Z.q_Machine_own_lasts, _, 2, rfl, SlX.slH_slt hne, D.Machine.sc, D.Machine_own_lasts, ?_⟩
    have x1 := e1 _ _ hx
    have nfx : f ≠ x := fun e => by rw [e, hx] at hf; cases hf
    have nfd : f ≠ dx := fun e => by rw [e, hdx] at hf; cases hf
    have nlx : l ≠ x := fun e => by rw [e, hx] at hl; cases hl
    have nld : l ≠ dx := fun e => by rw [e, hdx] at hl; cases hl
    have ndx : d ≠ x := fun e => by rw [e, hx] at hd; cases hd
    have ndd : d ≠ dx := fun e => by rw [e, hdx] at hd; cases hd
    have kp : ∀ b o, b ≠ x → b ≠ dx → H b = some o → SlX.slH (SlX.slH H1 x Z.c_Machine dx (SlX.putS 1 (V.ref f) [])) x Z.c_Machine dx (SlX.putS 2 (V.ref l) (SlX.putS 1 (V.ref f) [])) b = some o := fun b o h1 h2 hb => by
      rw [SlX.slH_ne h1 h2, SlX.slH_ne h1 h2]
      exact e1 _ _ hb
    have sl : SlX.Slt (SlX.slH (SlX.slH H1 x Z.c_Machine dx (SlX.putS 1 (V.ref f) [])) x Z.c_Machine dx (SlX.putS 2 (V.ref l) (SlX.putS 1 (V.ref f) []))) x Z.c_Machine dx [none, some (.ref f), some (.ref l)] := SlX.slH_slt hne
    generalize SlX.slH (SlX.slH H1 x Z.c_Machine dx (SlX.putS 1 (V.ref f) [])) x Z.c_Machine dx (SlX.putS 2 (V.ref l) (SlX.putS 1 (V.ref f) [])) = H2 at kp sl ⊢
    clear e1 x1
    have hf2 := kp _ _ nfx nfd hf
    have hl2 := kp _ _ nlx nld hl
    have hd2 := kp _ _ ndx ndd hd
    walk_at "go"
    refine sSl_go ?_
    walk_at "rd"
    have tri : ∀ k ∈ (encA m).map (·.1), ∃ a b c : Str, k = [.inr a, .inr b, .inr c] := fun k hk => by
      obtain ⟨p, hp, rfl⟩ := List.mem_map.mp hk
      obtain ⟨a, ha, rfl⟩ := List.mem_map.mp hp
      exact ⟨_, _, _, rfl⟩
    refine ⟨encA m, .inl hd2, tri, fun lp bs hlp pr => ?_⟩
    rw [sort_keys] at pr
    have s3 := Same.new (o := HO.lst (bs.map V.ref)) hlp
    have hlp3 : upd H2 lp (HO.lst (bs.map V.ref)) lp = some (.lst (bs.map V.ref)) := upd_same
    replace hf2 := s3 _ _ hf2
    replace hl2 := s3 _ _ hl2
    replace hd2 := s3 _ _ hd2
    replace sl := Same.slt s3 sl
    replace kp := fun b o h1 h2 hb => s3 _ _ (kp b o h1 h2 hb)
    replace pr := paired_mono (fun _ _ e => s3 _ _ e) pr
    generalize upd H2 lp (HO.lst (bs.map V.ref)) = H3 at hf2 hl2 hd2 sl kp pr hlp3 ⊢
    clear s3 hlp
    refine ⟨⟨_, SqL.of hlp3⟩, ?_⟩
    have lb : bs.length = m.length := by
      rw [← Paired.length pr, List.length_map]
      show ((sortA m).map _).length = _
      rw [List.length_map, sort_len]
    have nd : ((sortA m).map (·.1)).Nodup := sort_nd gm.nd
    have ln : (bs.map V.ref).length = m.length := by rw [List.length_map, lb]
    have le : (encA (sortA m)).length = m.length := by unfold encA; rw [List.length_map, sort_len]
    refine dcT_out (walk_list (xs := bs.map V.ref)) (fun i => ((encA (sortA m))[i]?).getD ([], .non)) ?_ (by omega) (fun H4 e4 => SqL.of (e4 _ _ hlp3)) ?_ ?_
    · intro i j hij hj
      have hi' : i < (sortA m).length := by rw [sort_len]; omega
      have hj' : j < (sortA m).length := by rw [sort_len]; omega
      unfold encA
      rw [List.getElem?_map, List.getElem?_map, List.getElem?_eq_getElem hi', List.getElem?_eq_getElem hj']
      intro e
      have e2 : (sortA m)[i].1 = (sortA m)[j].1 := key3_inj e
      have pw := List.pairwise_iff_getElem.mp nd i j (by rw [List.length_map]; exact hi') (by rw [List.length_map]; exact hj') hij
      rw [List.getElem_map, List.getElem_map] at pw
      exact pw e2
    · intro i y H4 H5 De Nx hi hDe sm yy put
      obtain ⟨rfl, ey⟩ := yy
      rw [List.getElem?_map] at ey
      have hb : i < bs.length := by omega
      have hs : i < (sortA m).length := by rw [sort_len]; omega
      rw [List.getElem?_eq_getElem hb] at ey
      cases ey
      have ee : (encA (sortA m))[i]? = some (key3 (sortA m)[i].1, .int (sortA m)[i].2) := by
        unfold encA
        rw [List.getElem?_map, List.getElem?_eq_getElem hs]
        rfl
      rw [ee] at put
      have mem : (sortA m)[i] ∈ m := (sort_perm m).mem_iff.mp (List.getElem_mem hs)
      have va := val_at gm.nd _ mem
      have hk : ((encA (sortA m)).map (·.1))[i]? = some (key3 (sortA m)[i].1) := by rw [List.getElem?_map, ee]; rfl
      obtain ⟨b', hb', hbt⟩ := paired_get pr hk
      rw [List.getElem?_eq_getElem hb] at hb'
      cases hb'
      have hb5 := sm _ _ hbt
      have hd5 := sm _ _ hd2
      have put2 := put bs[i] _ (Same.refl _) hb5
      generalize (sortA m)[i] = a at *
      walk_at "rd"
      exact ⟨_, .inr ⟨encA m, key3 a.1, bs[i], .inl hd5, rfl, hb5, va.symm⟩, put2⟩
    · intro p H4 hp sm hp4
      have er : (List.range (bs.map V.ref).length).map (fun i => ((encA (sortA m))[i]?).getD ([], .non)) = encA (sortA m) := by
        rw [ln]
        refine List.ext_getElem? fun i => ?_
        rw [List.getElem?_map]
        by_cases hi : i < m.length
        · have e := List.getElem?_eq_getElem (show i < (encA (sortA m)).length by omega)
          rw [List.getElem?_range hi, Option.map_some, e]
          rfl
        · rw [List.getElem?_eq_none (by rw [List.length_range]; omega), List.getElem?_eq_none (by omega)]
          rfl
      rw [er] at hp4
      clear er hlp3 pr ln lb le
      replace hf2 := sm _ _ hf2
      replace hl2 := sm _ _ hl2
      replace hd2 := sm _ _ hd2
      replace kp := fun b o h1 h2 hb => sm _ _ (kp b o h1 h2 hb)
      obtain ⟨npx, npd⟩ := slt_new (by assumption : SlX.Slt H3 x Z.c_Machine dx _) hp
      replace sl := Same.slt sm sl
      walk_at "rd"
      refine ⟨Z.c_Machine, dx, Z.q_Machine_own_arcs, _, sl, D.Machine.sc, 0, D.Machine_own_arcs, ?_⟩
      have hp5 : SlX.slH H4 x Z.c_Machine dx (SlX.putS 0 (V.ref p) [none, some (.ref f), some (.ref l)]) p = some (.dT (encA (sortA m))) := by rw [SlX.slH_ne npx npd]; exact hp4
      replace hf2 : SlX.slH H4 x Z.c_Machine dx (SlX.putS 0 (V.ref p) [none, some (.ref f), some (.ref l)]) f = _ := (SlX.slH_ne nfx nfd).trans hf2
      replace hl2 : SlX.slH H4 x Z.c_Machine dx (SlX.putS 0 (V.ref p) [none, some (.ref f), some (.ref l)]) l = _ := (SlX.slH_ne nlx nld).trans hl2
      replace hd2 : SlX.slH H4 x Z.c_Machine dx (SlX.putS 0 (V.ref p) [none, some (.ref f), some (.ref l)]) d = _ := (SlX.slH_ne ndx ndd).trans hd2
      replace kp := fun b o h1 h2 hb => (SlX.slH_ne (vs := SlX.putS 0 (V.ref p) [none, some (.ref f), some (.ref l)]) (C := Z.c_Machine) h1 h2).trans (kp b o h1 h2 hb)
      have sl5 : SlX.Slt (SlX.slH H4 x Z.c_Machine dx (SlX.putS 0 (V.ref p) [none, some (.ref f), some (.ref l)])) x Z.c_Machine dx [some (.ref p), some (.ref f), some (.ref l)] := SlX.slH_slt hne
      generalize SlX.slH H4 x Z.c_Machine dx (SlX.putS 0 (V.ref p) [none, some (.ref f), some (.ref l)]) = H5 at hp5 hf2 hl2 hd2 kp sl5 ⊢
      clear hp4 sl sm hp
      walk_at "go"
      refine sSl_go ?_
      walk_at "rd"
      refine ⟨f, l, d, fs, ls, m, rfl, hf2, hl2, hd2, gm.small, fun ys st H6 e6 so hst => ?_⟩
      replace hf2 := e6 _ _ hf2
      replace hl2 := e6 _ _ hl2
      replace hp5 := e6 _ _ hp5
      replace sl5 := Same.slt e6 sl5
      replace kp := fun b o h1 h2 hb => e6 _ _ (kp b o h1 h2 hb)
      clear e6 hd2
      obtain ⟨nsx, nsd⟩ := slt_off sl5 hst (fun _ z => by cases z) (fun _ z => by cases z)
      walk_at "rd"
      refine ⟨Z.c_Machine, dx, Z.q_Machine_own_states, _, sl5, D.Machine.sc, 4, D.Machine_own_states, ?_⟩
      have hp7 : SlX.slH H6 x Z.c_Machine dx (SlX.putS 4 (V.ref st) [some (.ref p), some (.ref f), some (.ref l)]) p = some (.dT (encA (sortA m))) := by rw [SlX.slH_ne npx npd]; exact hp5
      have hs7 : SlX.slH H6 x Z.c_Machine dx (SlX.putS 4 (V.ref st) [some (.ref p), some (.ref f), some (.ref l)]) st = some (.tup (ys.map V.str)) := by rw [SlX.slH_ne nsx nsd]; exact hst
      replace hf2 : SlX.slH H6 x Z.c_Machine dx (SlX.putS 4 (V.ref st) [some (.ref p), some (.ref f), some (.ref l)]) f = _ := (SlX.slH_ne nfx nfd).trans hf2
      replace hl2 : SlX.slH H6 x Z.c_Machine dx (SlX.putS 4 (V.ref st) [some (.ref p), some (.ref f), some (.ref l)]) l = _ := (SlX.slH_ne nlx nld).trans hl2
      replace kp := fun b o h1 h2 hb => (SlX.slH_ne (vs := SlX.putS 4 (V.ref st) [some (.ref p), some (.ref f), some (.ref l)]) (C := Z.c_Machine) h1 h2).trans (kp b o h1 h2 hb)
      have sl7 : SlX.Slt (SlX.slH H6 x Z.c_Machine dx (SlX.putS 4 (V.ref st) [some (.ref p), some (.ref f), some (.ref l)])) x Z.c_Machine dx [some (.ref p), some (.ref f), some (.ref l), none, some (.ref st)] := SlX.slH_slt hne
      generalize SlX.slH H6 x Z.c_Machine dx (SlX.putS 4 (V.ref st) [some (.ref p), some (.ref f), some (.ref l)]) = H7 at hp7 hs7 hf2 hl2 kp sl7 ⊢
      clear hp5 sl5 hst
      walk_at "go"
      refine sSl_go ?_
      walk_at "rd"
      refine ⟨dx, _, sl7, _, rfl, p, sortA m, rfl, hp7, by rw [sort_len]; omega, fun sp ws H8 e8 hsp sto => ?_⟩
      replace hf2 := e8 _ _ hf2
      replace hl2 := e8 _ _ hl2
      replace hp7 := e8 _ _ hp7
      replace hs7 := e8 _ _ hs7
      replace sl7 := Same.slt e8 sl7
      replace kp := fun b o h1 h2 hb => e8 _ _ (kp b o h1 h2 hb)
      clear e8
      obtain ⟨nqx, nqd⟩ := slt_off sl7 hsp (fun _ z => by cases z) (fun _ z => by cases z)
      refine ⟨Z.c_Machine, dx, Z.q_Machine_own_steps, _, sl7, D.Machine.sc, 5, D.Machine_own_steps, ?_⟩
      have tk9 : Tk H8 (SlX.slH H8 x Z.c_Machine dx (SlX.putS 5 (V.ref sp) [some (.ref p), some (.ref f), some (.ref l), none, some (.ref st)])) := fun b zs hb => by
        obtain ⟨n1, n2⟩ := slt_off sl7 hb (fun _ z => by cases z) (fun _ z => by cases z)
        rw [SlX.slH_ne n1 n2]
        exact hb
      replace sto := sto.mono tk9
      have hp9 : SlX.slH H8 x Z.c_Machine dx (SlX.putS 5 (V.ref sp) [some (.ref p), some (.ref f), some (.ref l), none, some (.ref st)]) p = some (.dT (encA (sortA m))) := by rw [SlX.slH_ne npx npd]; exact hp7
      have hs9 := tk9 _ _ hs7
      have hq9 : SlX.slH H8 x Z.c_Machine dx (SlX.putS 5 (V.ref sp) [some (.ref p), some (.ref f), some (.ref l), none, some (.ref st)]) sp = some (.dT ws) := by rw [SlX.slH_ne nqx nqd]; exact hsp
      replace hf2 := tk9 _ _ hf2
      replace hl2 := tk9 _ _ hl2
      replace kp := fun b o h1 h2 hb => (SlX.slH_ne (vs := SlX.putS 5 (V.ref sp) [some (.ref p), some (.ref f), some (.ref l), none, some (.ref st)]) (C := Z.c_Machine) h1 h2).trans (kp b o h1 h2 hb)
      have sl9 : SlX.Slt (SlX.slH H8 x Z.c_Machine dx (SlX.putS 5 (V.ref sp) [some (.ref p), some (.ref f), some (.ref l), none, some (.ref st)])) x Z.c_Machine dx [some (.ref p), some (.ref f), some (.ref l), none, some (.ref st), some (.ref sp)] := SlX.slH_slt hne
      generalize SlX.slH H8 x Z.c_Machine dx (SlX.putS 5 (V.ref sp) [some (.ref p), some (.ref f), some (.ref l), none, some (.ref st)]) = H9 at sto hp9 hs9 hq9 hf2 hl2 kp sl9 ⊢
      clear hp7 hs7 sl7 hsp tk9
      walk_at "go"
      refine ⟨p, _, hp9, trivial, fun od => ?_⟩
      have slA : SlX.Slt (upd H9 p (HO.frz od (HO.dT (encA (sortA m))))) x Z.c_Machine dx [some (.ref p), some (.ref f), some (.ref l), none, some (.ref st), some (.ref sp)] := by
        obtain ⟨h1, h2⟩ := slt_at sl9
        exact .inr ⟨by rw [upd_ne npx.symm]; exact h1, by rw [upd_ne npd.symm]; exact h2⟩
      have hpA : upd H9 p (HO.frz od (HO.dT (encA (sortA m)))) p = some (.frz od (.dT (encA (sortA m)))) := upd_same
      walk_at "rd"
      refine ⟨dx, _, slA, _, rfl, p, rfl, od, _, hpA, ?_⟩
      have le : (encA (sortA m)).length = m.length := by unfold encA; rw [List.length_map, sort_len]
      refine lc_val (walk_itI (d := p) (o := od) (ws := encA (sortA m))) (fun i => .str (lineAt (sortA m) i)) (fun H1 e1 => e1 _ _ hpA) (by omega) ?_ ?_
      · intro i y HB HC hi eB yy R hR
        obtain ⟨T, r, k, v, hkv, rfl, hT, hrr, rfl⟩ := yy
        have hs : i < (sortA m).length := by rw [sort_len]; omega
        have ee : (encA (sortA m))[i]? = some (key3 (sortA m)[i].1, .int (sortA m)[i].2) := by
          unfold encA
          rw [List.getElem?_map, List.getElem?_eq_getElem hs]
          rfl
        rw [ee] at hkv
        cases hkv
        have el : lineAt (sortA m) i = lineA (sortA m)[i] := by
          unfold lineAt
          rw [List.getElem?_eq_getElem hs]
        rw [el] at hR
        have mem : (sortA m)[i] ∈ m := (sort_perm m).mem_iff.mp (List.getElem_mem hs)
        obtain ⟨pl, pr⟩ := gm.an _ mem
        obtain ⟨p1, p2, p3⟩ := place_of pl
        have l1 := name_len p1
        have l2 := letter_len p2
        have l3 := name_len p3
        generalize (sortA m)[i] = a at *
        have eC := Same.new (o := HO.tup [.ref r, .int a.2]) hT
        have hTC : upd HB T (HO.tup [.ref r, .int a.2]) T = some (.tup [.ref r, .int a.2]) := upd_same
        replace hrr := eC _ _ hrr
        have hR2 := hR _ eC
        generalize upd HB T (HO.tup [.ref r, .int a.2]) = HC at hTC hrr hR2 ⊢
        clear hR eC hT
        walk_at "rd"
        refine ⟨_, SqT.of hTC, rfl, _, _, rfl, ?_⟩
        walk_at "rd"
        refine ⟨_, SqT.of hrr, rfl, _, _, rfl, _, _, rfl, _, _, rfl, rfl, ?_⟩
        have tx := price_txt pr
        obtain ⟨pi0, pi9⟩ := price_in pr
        have lg : a.2.natAbs.log2 < 1920 := Nat.lt_of_lt_of_le (log2_of (k := 10) (by omega) (by decide)) (by decide)
        have b1 : ∀ n, n ≤ 100 → n ≤ sizeLine := fun n h => small_line h
        clear hTC hrr
        walk_at "rd"
        refine ⟨b1 _ (by rw [len_arc]; decide), b1 _ (by simp only [len_app, len_arc, len_em]; omega), b1 _ (by simp only [len_app, len_arc, len_sp, len_em]; omega), .inl ⟨_, rfl, b1 _ (by omega), b1 _ (by simp only [len_app, len_arc, len_sp, len_em]; omega), b1 _ (by simp only [len_app, len_arc, len_sp, len_em]; omega), .inl ⟨_, rfl, b1 _ (by omega), b1 _ (by simp only [len_app, len_arc, len_sp, len_em]; omega), b1 _ (by simp only [len_app, len_arc, len_sp, len_em]; omega), ?_⟩⟩⟩
        exact ⟨b1 _ (by simp only [len_app, len_arc, len_sp, len_em, tx]; omega), b1 _ (by simp only [len_app, len_arc, len_sp, len_em, tx]; omega), .inl ⟨_, rfl, b1 _ (by omega), b1 _ (by simp only [len_app, len_arc, len_sp, len_em, tx]; omega), hR2⟩⟩
      · intro lt HB hlt eB hlB
        have er : (List.range (encA (sortA m)).length).map (fun i => V.str (lineAt (sortA m) i)) = ((sortA m).map lineA).map V.str := by
          rw [le, ← sort_len m]
          refine List.ext_getElem? fun i => ?_
          rw [List.getElem?_map, List.getElem?_map, List.getElem?_map]
          by_cases hi : i < (sortA m).length
          · have e := List.getElem?_eq_getElem hi
            unfold lineAt
            rw [List.getElem?_range hi, Option.map_some, e]
            rfl
          · rw [List.getElem?_eq_none (by rw [List.length_range]; omega), List.getElem?_eq_none (by omega)]
            rfl
        rw [er] at hlB
        refine ⟨eB _ _ hpA, ?_⟩
        have sm9 := lock_same hp9 eB
        have nlp : lt ≠ p := fun e => by rw [e, upd_same] at hlt; cases hlt
        have hlC : upd HB p (HO.dT (encA (sortA m))) lt = some (.lst (((sortA m).map lineA).map V.str)) := by rw [upd_ne nlp]; exact hlB
        replace sto := sto.mono (Tk.of sm9)
        replace hp9 := sm9 _ _ hp9
        replace hs9 := sm9 _ _ hs9
        replace hq9 := sm9 _ _ hq9
        replace hf2 := sm9 _ _ hf2
        replace hl2 := sm9 _ _ hl2
        replace sl9 := Same.slt sm9 sl9
        replace kp := fun b o h1 h2 hb => sm9 _ _ (kp b o h1 h2 hb)
        generalize upd HB p (HO.dT (encA (sortA m))) = HC at sto hp9 hs9 hq9 hf2 hl2 sl9 kp hlC ⊢
        clear er hlB hlt eB hpA slA sm9
        walk_at "go"
        refine sSl_go ?_
        walk_at "rd"
        have sf := sum_le (names_8 gm.fn)
        have ss := sum_le (names_8 gm.ln)
        have lf : (fs.map V.str).length = fs.length := List.length_map ..
        have ll : (ls.map V.str).length = ls.length := List.length_map ..
        have la : (((sortA m).map lineA).map V.str).length = m.length := by rw [List.length_map, List.length_map, sort_len]
        have bd : (9000 : Nat) ≤ sizeLine := by decide
        have l5 : (Str.ofString "first").length = 5 := by decide +kernel
        have l4 : (Str.ofString "last").length = 4 := by decide +kernel
        refine ⟨_, .inl (SqT.of hf2), by omega, fun t1 h1 => ⟨Str.ofString "first" :: fs, .inl (SqL.of upd_same), ?_, _, .inl (SqT.of (Same.new h1 _ _ hl2)), by omega, fun t2 h2 => ⟨Str.ofString "last" :: ls, .inl (SqL.of upd_same), ?_, _, .inr (SqL.of (((Same.new h1).trans (Same.new h2)) _ _ hlC)), by omega, fun t3 h3 => ?_⟩⟩⟩
        · rw [List.map_cons, List.sum_cons, List.length_cons, len_sp, l5]
          omega
        · rw [List.map_cons, List.sum_cons, List.length_cons, len_sp, l4]
          omega
        have eD := ((Same.new (o := HO.lst (V.str (Str.ofString "first") :: fs.map V.str)) h1).trans (Same.new (o := HO.lst (V.str (Str.ofString "last") :: ls.map V.str)) h2)).trans (Same.new (o := HO.tup (V.str (Txt.join (Str.ofString " ") (Str.ofString "first" :: fs)) :: V.str (Txt.join (Str.ofString " ") (Str.ofString "last" :: ls)) :: ((sortA m).map lineA).map V.str)) h3)
        have ht3 : upd (upd (upd HC t1 (HO.lst (V.str (Str.ofString "first") :: fs.map V.str))) t2 (HO.lst (V.str (Str.ofString "last") :: ls.map V.str))) t3 (HO.tup (V.str (Txt.join (Str.ofString " ") (Str.ofString "first" :: fs)) :: V.str (Txt.join (Str.ofString " ") (Str.ofString "last" :: ls)) :: ((sortA m).map lineA).map V.str)) t3 = some (.tup ((linesM fs ls (sortA m)).map V.str)) := upd_same
        replace sto := sto.mono (Tk.of eD)
        replace hp9 := eD _ _ hp9
        replace hs9 := eD _ _ hs9
        replace hq9 := eD _ _ hq9
        replace hf2 := eD _ _ hf2
        replace hl2 := eD _ _ hl2
        replace sl9 := Same.slt eD sl9
        replace kp := fun b o h1 h2 hb => eD _ _ (kp b o h1 h2 hb)
        generalize upd (upd (upd HC t1 (HO.lst (V.str (Str.ofString "first") :: fs.map V.str))) t2 (HO.lst (V.str (Str.ofString "last") :: ls.map V.str))) t3 (HO.tup (V.str (Txt.join (Str.ofString " ") (Str.ofString "first" :: fs)) :: V.str (Txt.join (Str.ofString " ") (Str.ofString "last" :: ls)) :: ((sortA m).map lineA).map V.str)) = HE at ht3 sto hp9 hs9 hq9 hf2 hl2 sl9 kp ⊢
        clear eD h1 h2 h3 hlC
        refine ⟨Z.c_Machine, dx, Z.q_Machine_own_lines, _, sl9, D.Machine.sc, 3, D.Machine_own_lines, q _ (fun b o h1 h2 hb => (SlX.slH_ne h1 h2).trans (kp b o h1 h2 hb)) ?_⟩
        have tkF : Tk HE (SlX.slH HE x Z.c_Machine dx (SlX.putS 3 (V.ref t3) [some (.ref p), some (.ref f), some (.ref l), none, some (.ref st), some (.ref sp)])) := fun b zs hb => by
          obtain ⟨n1, n2⟩ := slt_off sl9 hb (fun _ z => by cases z) (fun _ z => by cases z)
          rw [SlX.slH_ne n1 n2]
          exact hb
        exact ⟨dx, p, f, l, t3, st, sp, ys, ws, SlX.slH_slt hne, (SlX.slH_ne npx npd).trans hp9, tkF _ _ hf2, tkF _ _ hl2, tkF _ _ ht3, tkF _ _ hs9, sorted_perm (sort_perm m).symm so, (SlX.slH_ne nqx nqd).trans hq9, sto.mono tkF, gm.perm (sort_perm m).symm⟩
end
section
variable {P : Program} {w : World} {K : PySem.W.Frag} {mg : Str → Option Value} {base : Heap} {Z : Ad}
open LPMX
def spMade (w : World) (K : PySem.W.Frag) : Sp := fun vs H Q _ => ∃ (f l d : V) (fo lo : Option (List V)) (ao : Option (List (NestedKey × V))), vs = [f, l, d] ∧ Vl K H f fo ∧ Vl K H l lo ∧ Ar w K H d ao ∧ ∀ H', Same H H' → Q (.bl (partsB fo lo ao)) H'
theorem ok_is_made (D : Ds K mg Z) (B : Bt mg) (C0 : Cs mg) (T : Tx K Z) : FnOk P w K mg base CX0 9 Z.a_is_made Z.d_is_made P_is_made (spMade w K) := by
  have GX_Machine___init__ := ok_Machine___init__ (P := P) (w := w) (base := base) D B C0
  obtain ⟨⟨t_LIMIT, c_LIMIT⟩, ⟨t_ALPHABET, c_ALPHABET⟩, ⟨t_MAX_LETTERS, c_MAX_LETTERS⟩, ⟨t_MAX_STATES, c_MAX_STATES⟩, ⟨t_MAX_PRICE, c_MAX_PRICE⟩, ⟨t_FIRST, c_FIRST⟩, ⟨t_LAST, c_LAST⟩, ⟨t_ARC, c_ARC⟩⟩ := C0
  refine D.is_made.F.ok sc_is_made (fun vs H Q E h => ?_) (fun cdv A outer s H vs Q E hr h => ?_)
  · obtain ⟨f, l, d, fo, lo, ao, rfl, _⟩ := h
    rfl
  · obtain ⟨f, l, d, fo, lo, ao, rfl, hf, hl, hd, q⟩ := h
    refine ⟨_, (pss_cons (ps_try3 rfl rfl takes_none5 (fun W pn xe tk _ => (pss_one (ps_expr (pe_mkX (LPMX.takes_all tk) D.Machine D.Machine___init__ GX_Machine___init__ (hr.mono (by decide)) (by rfl) (pa_cons (pv 0) (pa_cons (pv 1) (pa_cons (pv 2) pa_nil)))))))
      (Cls3.bare ⟨by rfl, by decide, .inl D.InvalidMachine.g⟩ (fun a oe cls d pn hz hf => (pss_one (ps_ret pe_bl)))
      Cls3.nil))
    (pss_one (ps_ret pe_bl))), ?_⟩
    walk_at "rd"
    intro x dx hx hdx hne
    have e1 : Same H (upd (upd H dx (HO.own x)) x (HO.ins Z.c_Machine dx [])) := fun b o hb => by
      rw [upd_ne (ne_of_none hb hx), upd_ne (ne_of_none hb hdx)]
      exact hb
    have h1 : upd (upd H dx (HO.own x)) x (HO.ins Z.c_Machine dx []) x = some (.ins Z.c_Machine dx []) := upd_same
    have h2 : upd (upd H dx (HO.own x)) x (HO.ins Z.c_Machine dx []) dx = some (.own x) := by rw [upd_ne hne]; exact upd_same
    refine ⟨x, dx, f, l, d, fo, lo, ao, rfl, h1, h2, hne, hf.same e1, hl.same e1, hd.same e1, fun hp H' k => ⟨rfl, ?_⟩, fun hp H' e2 σ => ?_⟩
    · have q2 := q H' fun b o hb => k b o (ne_of_none hb hx) (ne_of_none hb hdx) (e1 _ _ hb)
      rw [hp] at q2
      walk_at "gg"
    · have q2 := q H' (e1.trans e2)
      rw [hp] at q2
      refine ⟨true, T.ex, fun _ a ha => ?_, fun z => by cases z⟩
      walk_at "rd"
      done
end
section
variable {P : Program} {w : World} {K : PySem.W.Frag} {mg : Str → Option Value} {base : Heap} {Z : Ad}
/-! ### draws -/
theorem erase_perm {α : Type} : ∀ {ls : List α} {k : Nat} (h : k < ls.length), (ls[k] :: ls.eraseIdx k).Perm ls
  | a :: ls, 0, _ => .refl _
  | a :: ls, k + 1, h => by
    have h' : k < ls.length := Nat.lt_of_succ_lt_succ h
    show (ls[k] :: a :: ls.eraseIdx k).Perm (a :: ls)
    exact (List.Perm.swap a ls[k] (ls.eraseIdx k)).trans ((erase_perm h').cons a)
def spMixed : Sp := fun vs H Q _ => ∃ (d a : Addr) (x y z : Int) (xs : List V), vs = [.ref d, .ref a] ∧ H d = some (.lst [.int x, .int y, .int z]) ∧ a ≠ d ∧ H a = some (.lst xs) ∧ xs.length ≤ 1000 ∧
  ∀ p ys H', Dk d H H' → p ≠ d → H p = none → ys.Perm xs → H' p = some (.lst ys) → Q (.ref p) H'
theorem ok_mixed (D : Ds K mg Z) (B : Bt mg) (C0 : Cs mg) : FnOk P w K mg base CX0 2 Z.a_mixed Z.d_mixed P_mixed spMixed := by
  have G_roll := ok_roll (P := P) (w := w) (base := base) D B
  obtain ⟨⟨t_LIMIT, c_LIMIT⟩, ⟨t_ALPHABET, c_ALPHABET⟩, ⟨t_MAX_LETTERS, c_MAX_LETTERS⟩, ⟨t_MAX_STATES, c_MAX_STATES⟩, ⟨t_MAX_PRICE, c_MAX_PRICE⟩, ⟨t_FIRST, c_FIRST⟩, ⟨t_LAST, c_LAST⟩, ⟨t_ARC, c_ARC⟩⟩ := C0
  refine D.mixed.F.ok sc_mixed (fun vs H Q E h => ?_) (fun cdv A outer s H vs Q E hr h => ?_)
  · obtain ⟨d, a, x, y, z, xs, rfl, _⟩ := h
    rfl
  · obtain ⟨d, a, x, y, z, xs, rfl, hd, nad, ha, hl, q⟩ := h
    refine ⟨_, (pss_cons (ps_par (i := 2) (j := 3) (by rfl) sc_mixed.nd rfl rfl (by decide) rfl rfl (pa_cons (pe_callTy call_list_of (by rfl) B.list (by decide +kernel) (pa_cons (pv 1) pa_nil)) (pa_cons (pe_lst pa_nil) pa_nil)) (by rfl))
    (pss_cons (ps_for PassesOwn.never rfl (pi_range1 (by rfl) B.range (pa_cons (pe_callB call_lenM (by rfl) B.len (by decide +kernel) (pa_cons (pv 1) pa_nil)) pa_nil)) (pg_name (i := 4) sc_mixed.nd rfl (Or.inl rfl))
      (pss_one (ps_expr (pe_lm PySem.F.plainAttrs_list PySem.F.slot_list_append PySem.F.type_list_append mt_append (pv 3) (pa_cons (pe_lm PySem.F.plainAttrs_list PySem.F.slot_list_pop PySem.F.type_list_pop mt_popAt (pv 2) (pa_cons (pe_df D.roll G_roll (hr.mono (by decide)) (by rfl) (pa_cons (pv 0) (pa_cons (pe_callB call_lenM (by rfl) B.len (by decide +kernel) (pa_cons (pv 2) pa_nil)) pa_nil))) pa_nil)) pa_nil)))))
    (pss_one (ps_ret (pv 3))))), ?_⟩
    walk_at "rd"
    refine ⟨_, .inl (SqL.of ha), fun l hl2 => ⟨by decide, fun p hp => ?_⟩⟩
    have npl : p ≠ l := fun e => by rw [e, upd_same] at hp; cases hp
    have hp0 : H p = none := by rw [← hp]; exact (upd_ne npl).symm
    have nld : l ≠ d := Dk.ne hd hl2
    have npd : p ≠ d := Dk.ne hd hp0
    have sm0 : Same H (upd (upd H l (HO.lst xs)) p (HO.lst [])) := (Same.new hl2).trans (Same.new hp)
    have hl0 : upd (upd H l (HO.lst xs)) p (HO.lst []) l = some (.lst xs) := by rw [upd_ne npl.symm, upd_same]
    have hp1 : upd (upd H l (HO.lst xs)) p (HO.lst []) p = some (.lst []) := upd_same
    have k0 := Dk.of hd sm0
    generalize upd (upd H l (HO.lst xs)) p (HO.lst []) = H0 at sm0 hl0 hp1 k0 ⊢
    have ha0 := sm0 _ _ ha
    walk_at "gg"
    refine ⟨by omega, by omega, ?_⟩
    rw [Int.toNat_natCast]
    obtain ⟨Pv, hP⟩ := inv_bi (fun (i : Nat) (σ : St) (H' : Hp) => ∃ (ls ds : List V) (o4 : Option V), σ = [some (.ref d), some (.ref a), some (.ref l), some (.ref p), o4] ∧ Dk d H H' ∧ H' l = some (.lst ls) ∧ H' p = some (.lst ds) ∧ ls.length + i = xs.length ∧ (ds ++ ls).Perm xs)
    refine loop_range Pv ((hP _ _ _).mpr ⟨xs, [], _, rfl, k0, hl0, hp1, rfl, .refl _⟩) (fun i σ H1 hi hpv => ?_) (fun σ H1 hpv => ?_)
    · obtain ⟨ls, ds, o4, rfl, k1, hl1, hp2, e1, pm⟩ := (hP _ _ _).mp hpv
      clear hpv
      have e2 : ds.length = i := by
        have := pm.length_eq
        rw [List.length_append] at this
        omega
      walk_at "rd"
      walk_at "gg"
      obtain ⟨x1, y1, z1, hd1⟩ := k1.2
      refine ⟨d, x1, y1, z1, _, rfl, hd1, by omega, Nat.lt_of_lt_of_le (log2_of (k := 10) (by omega) (by decide)) (by decide), fun r x' y' z' r0 r1 => ?_⟩
      have hr : r.toNat < ls.length := by omega
      have hl3 : upd H1 d (HO.lst [.int x', .int y', .int z']) l = some (.lst ls) := by rw [upd_ne nld]; exact hl1
      have hp3 : upd H1 d (HO.lst [.int x', .int y', .int z']) p = some (.lst ds) := by rw [upd_ne npd]; exact hp2
      have k3 := k1.trans (Dk.roll x' y' z')
      refine ⟨ls, r, rfl, hl3, by omega, by omega, r.toNat, seqIx r0 r1, _, List.getElem?_eq_getElem hr, ds, by rw [upd_ne npl]; exact hp3, ?_, (hP _ _ _).mpr ⟨ls.eraseIdx r.toNat, ds ++ [ls[r.toNat]], _, rfl, (k3.lay hl2 nld).lay hp0 npd, ?_, ?_, ?_, ?_⟩⟩
      · exact Nat.lt_of_le_of_lt (show ds.length ≤ 1000 by omega) (by decide)
      · rw [upd_ne npl.symm, upd_same]
      · rw [upd_same]
      · rw [List.length_eraseIdx_of_lt hr]
        omega
      · rw [List.append_assoc]
        exact ((erase_perm hr).append_left ds).trans pm
    · obtain ⟨ls, ds, o4, rfl, k1, hl1, hp2, e1, pm⟩ := (hP _ _ _).mp hpv
      have el : ls = [] := List.length_eq_zero_iff.mp (by omega)
      subst el
      rw [List.append_nil] at pm
      have q' := q p ds H1 k1 npd hp0 pm hp2
      walk_at "gg"
theorem shaped_strsL {xs : List Str} (h : ∀ x ∈ xs, PyData.strOk x = true) : SeqAt.shaped (.list (xs.map .str)) = true := by
  unfold SeqAt.shaped
  rw [PyData.canLay0, lays xs h]
  rw [PyData.depth, deps xs]
  decide
def spSome : Sp := fun vs H Q _ => ∃ (d a : Addr) (x y z : Int) (xs : List Str), vs = [.ref d, .ref a] ∧ H d = some (.lst [.int x, .int y, .int z]) ∧ a ≠ d ∧ H a = some (.lst (xs.map V.str)) ∧ 0 < xs.length ∧ xs.length ≤ 1000 ∧ (∀ x ∈ xs, PyData.strOk x = true) ∧
  ∀ p (ys : List Str) H', Dk d H H' → p ≠ d → H p = none → ys.Sublist xs → 0 < ys.length → H' p = some (.lst (ys.map V.str)) → Q (.ref p) H'
theorem ok_some (D : Ds K mg Z) (B : Bt mg) (C0 : Cs mg) : FnOk P w K mg base CX0 3 Z.a_some Z.d_some P_some spSome := by
  have G_roll := ok_roll (P := P) (w := w) (base := base) D B
  have G_pick := ok_pick (P := P) (w := w) (base := base) D B
  obtain ⟨⟨t_LIMIT, c_LIMIT⟩, ⟨t_ALPHABET, c_ALPHABET⟩, ⟨t_MAX_LETTERS, c_MAX_LETTERS⟩, ⟨t_MAX_STATES, c_MAX_STATES⟩, ⟨t_MAX_PRICE, c_MAX_PRICE⟩, ⟨t_FIRST, c_FIRST⟩, ⟨t_LAST, c_LAST⟩, ⟨t_ARC, c_ARC⟩⟩ := C0
  refine D.some.F.ok sc_some (fun vs H Q E h => ?_) (fun cdv A outer s H vs Q E hr h => ?_)
  · obtain ⟨d, a, x, y, z, xs, rfl, _⟩ := h
    rfl
  · obtain ⟨d, a, x, y, z, xs, rfl, hd, nad, ha, h0, hl, ok, q⟩ := h
    refine ⟨_, (pss_cons (ps_setLc (i := 2) (own := [("_law_item", 3)]) (g := gName 3) rfl sc_some.nd rfl rfl (sw_true rfl rfl rfl (by decide +kernel)) (pi_listK (K := K) rfl (pv 1)) (blkOk_by (N := N_some) (sc := defScope s_some) (by decide +kernel)) (fun _ _ _ _ _ => (pg_name (i := 3) sc_some.nd rfl (Or.inl rfl))) (fun _ _ _ _ _ => (pts_one (pt_cmpR op_eq (pe_df D.roll G_roll (hr.mono (by decide)) (by rfl) (pa_cons (pv 0) (pa_cons pe_int pa_nil))) pe_int (nomark _)))) (fun _ _ _ _ _ => (pv 3)))
    (pss_one (ps_ret (pe_ifExp (pt_cmpR (op_neK (K := K) rfl hr.units) (pv 2) (pe_lst pa_nil) (nomark _)) (pv 2) (pe_lst (pa_cons (pe_df D.pick G_pick (hr.mono (by decide)) (by rfl) (pa_cons (pv 0) (pa_cons (pv 1) pa_nil))) pa_nil)))))), ?_⟩
    walk_at "rd"
    have lx : (xs.map V.str).length = xs.length := List.length_map ..
    refine ⟨⟨_, SqL.of ha⟩, fun p hp => ?_⟩
    have npd : p ≠ d := Dk.ne hd hp
    obtain ⟨Pv, hP⟩ : ∃ Pv : Nat → Hp → Prop, ∀ i H', Pv i H' ↔ (Dk d H H' ∧ ∃ ys : List Str, H' p = some (.lst (ys.map V.str)) ∧ ys.Sublist (xs.take i)) := ⟨_, fun _ _ => Iff.rfl⟩
    refine lc_it (walk_list (K := K) (a := a) (xs := xs.map V.str)) Pv ((hP _ _).mpr ⟨Dk.of hd (Same.new hp), [], upd_same, by simp⟩) (fun i H' _ pv => SqL.of (((hP _ _).mp pv).1.1 _ _ nad ha)) ?_ ?_
    · rintro i v H1 H2 hi pv ⟨rfl, hv⟩
      obtain ⟨k1, ys, hp1, sb⟩ := (hP _ _).mp pv
      obtain ⟨x1, y1, z1, hd1⟩ := k1.2
      have hi2 : i < xs.length := by omega
      rw [List.getElem?_map, List.getElem?_eq_getElem hi2] at hv
      cases hv
      have et : xs.take (i + 1) = xs.take i ++ [xs[i]] := by rw [List.take_add_one, List.getElem?_eq_getElem hi2]; rfl
      have fin := fun (H' : Hp) (k : Dk d H H') (zs : List Str) (e1 : H' p = some (.lst (zs.map V.str))) (e2 : zs.Sublist (xs.take i ++ [xs[i]])) => (hP (i + 1) H').mpr ⟨k, zs, e1, by rw [et]; exact e2⟩
      clear hP et pv
      walk_at "rd"
      refine ⟨d, x1, y1, z1, _, rfl, hd1, by decide, by decide, fun r x' y' z' r0 r1 => ?_⟩
      have k3 := k1.trans (Dk.roll x' y' z')
      have hp3 : upd H2 d (HO.lst [.int x', .int y', .int z']) p = some (.lst (ys.map V.str)) := by rw [upd_ne npd]; exact hp1
      have sl := sb.length_le
      rw [List.length_take] at sl
      by_cases e : r = 0
      · subst e
        walk_at "rd"
        refine ⟨?_, fin _ (k3.lay hp npd) (ys ++ [xs[i]]) ?_ ?_⟩
        · rw [List.length_map]
          exact Nat.lt_of_le_of_lt (show ys.length ≤ 1000 by omega) (by decide)
        · rw [upd_same, List.map_append]
          rfl
        · exact sb.append (.refl _)
      · walk_at "rd"
        exact fin _ k3 ys hp3 (sb.trans (List.sublist_append_left _ _))
    · intro H1 pv
      obtain ⟨k1, ys, hp1, sb⟩ := (hP _ _).mp pv
      rw [List.length_map, List.take_length] at sb
      obtain ⟨x1, y1, z1, hd1⟩ := k1.2
      have oky : ∀ y ∈ ys, PyData.strOk y = true := fun y hy => ok y (sb.subset hy)
      walk_at "gg"
      refine ⟨Nat.zero_le _, fun p2 hp2 => ?_⟩
      have e2 := Same.new (o := HO.lst []) hp2
      have k2 := k1.same e2
      refine ⟨.list (ys.map .str), .list [], .lst (SqL.of (e2 _ _ hp1)) (dps ys), .lst (SqL.of upd_same) .nil, shaped_strsL oky, by decide +kernel, ?_⟩
      cases ys with
      | cons y r => exact ⟨true, rfl, q p (y :: r) _ k2 npd hp sb (Nat.zero_lt_succ _) (e2 _ _ hp1)⟩
      | nil =>
        obtain ⟨x2, y2, z2, hd2⟩ := k2.2
        refine ⟨false, rfl, d, x2, y2, z2, _, _, rfl, hd2, .inl ⟨a, rfl, nad, k2.1 _ _ nad ha⟩, by omega, by omega, fun v hv x3 y3 z3 => ⟨by decide, fun p3 hp3 => ?_⟩⟩
        obtain ⟨x4, hx4, rfl⟩ := List.mem_map.mp hv
        have k3 := k2.trans (Dk.roll x3 y3 z3)
        have np : p3 ≠ d := fun e => by rw [e, upd_same] at hp3; cases hp3
        have hn := k3.none np hp3
        exact q p3 [x4] _ (k3.lay hn np) np hn (List.singleton_sublist.mpr hx4) (Nat.zero_lt_succ _) upd_same
end
section
variable {P : Program} {w : World} {K : PySem.W.Frag} {mg : Str → Option Value} {base : Heap} {Z : Ad}
/-! ### sorted texts, sorted places -/
def leS (a b : Str) : Bool := decide (a.cps.toList ≤ b.cps.toList)
def sortS (xs : List Str) : List Str := xs.mergeSort leS
def encS : V → PyData
  | .str x => .str x
  | _ => .none
theorem leS_eq (a b : Str) : PySem.W.dataLe false encS (.str a) (.str b) = leS a b := by
  have h := congrFun (congrFun (PySem.W.dataLe_str (fun x : Str => x)) a) b
  exact h
theorem leS_total : PySem.W.TotalLe leS := by
  have h := PySem.W.sortLe_total (PyProof.Rows.listOrd PyProof.Rows.itemOrd) false (fun b : Str => PySem.W.keyToks (.str b))
  have e : leS = PySem.W.sortLe (PyProof.Rows.listOrd PyProof.Rows.itemOrd) false (fun b : Str => PySem.W.keyToks (.str b)) := (PySem.W.dataLe_str (fun x : Str => x)).symm
  rw [e]
  exact h
theorem sortS_map (xs : List Str) : (xs.map V.str).mergeSort (PySem.W.dataLe false encS) = (sortS xs).map V.str :=
  (PySem.W.sort_maps V.str fun a _ b _ => (leS_eq a b).symm).symm
theorem sortS_perm (xs : List Str) : (sortS xs).Perm xs := List.mergeSort_perm xs leS
theorem asc_pw : ∀ {xs : List Str}, xs.Pairwise (fun a b => ltS a b = true) → ascB xs = true
  | [], _ => rfl
  | [_], _ => rfl
  | a :: b :: r, h => by
    obtain ⟨h1, h2⟩ := List.pairwise_cons.mp h
    show (ltS a b && ascB (b :: r)) = true
    rw [h1 b List.mem_cons_self, asc_pw h2]
    rfl
theorem lt_of_le_ne {a b : Str} (h : leS a b = true) (n : a ≠ b) : ltS a b = true := by
  unfold leS at h
  unfold ltS
  rw [decide_eq_true_eq] at h ⊢
  rcases List.le_iff_lt_or_eq.mp h with h | h
  · exact h
  · exact absurd (key_inj h) n
theorem sortS_pw {xs : List Str} (nd : xs.Nodup) : (sortS xs).Pairwise (fun a b => ltS a b = true) := by
  have h1 := PySem.W.sort_pairwise leS_total xs
  have h2 : (sortS xs).Nodup := (sortS_perm xs).nodup_iff.mpr nd
  exact (List.Pairwise.and h1 h2).imp fun ⟨a, b⟩ => lt_of_le_ne a b
theorem sortS_asc {xs : List Str} (nd : xs.Nodup) : ascB (sortS xs) = true := asc_pw (sortS_pw nd)
theorem pw_asc : ∀ {xs : List Str}, ascB xs = true → xs.Pairwise (fun a b => ltS a b = true)
  | [], _ => .nil
  | [_], _ => List.pairwise_singleton _ _
  | a :: b :: r, h => by
    have h' : (ltS a b && ascB (b :: r)) = true := h
    rw [Bool.and_eq_true] at h'
    have ih := pw_asc h'.2
    refine List.pairwise_cons.mpr ⟨fun c hc => ?_, ih⟩
    rcases List.mem_cons.mp hc with rfl | hc
    · exact h'.1
    · have h2 := (List.pairwise_cons.mp ih).1 c hc
      have h1 := h'.1
      unfold ltS at h1 h2 ⊢
      rw [decide_eq_true_eq] at h1 h2 ⊢
      exact List.lt_trans h1 h2
theorem sub_asc {xs ys : List Str} (h : ascB ys = true) (s : xs.Sublist ys) : ascB xs = true := asc_pw ((pw_asc h).sublist s)
theorem asc_nd {xs : List Str} (h : ascB xs = true) : xs.Nodup := (pw_asc h).imp fun {a b} e n => by
  rw [n] at e
  unfold ltS at e
  rw [decide_eq_true_eq] at e
  exact List.lt_irrefl _ e
theorem sort_strs {H : Hp} {p : Addr} {xs : List Str} {Q : VK} (hp : H p = some (.lst (xs.map V.str))) (q : ∀ l, H l = none → Q (.ref l) (upd H l (.lst ((sortS xs).map V.str)))) : rSortL K [.ref p] H Q := by
  refine ⟨p, _, encS, rfl, hp, fun v hv => ?_, fun d hd d' hd' => ?_, .inr fun d hd => ?_, fun v hv => ?_, fun l hl => ?_⟩
  · obtain ⟨x, _, rfl⟩ := List.mem_map.mp hv
    exact .str x
  · rw [List.map_map] at hd hd'
    obtain ⟨x, _, rfl⟩ := List.mem_map.mp hd
    obtain ⟨y, _, rfl⟩ := List.mem_map.mp hd'
    rfl
  · rw [List.map_map] at hd
    obtain ⟨x, _, rfl⟩ := List.mem_map.mp hd
    exact ⟨(fun e => by cases e), fun ys e => by cases e⟩
  · obtain ⟨x, _, rfl⟩ := List.mem_map.mp hv
    exact Nat.zero_le _
  · rw [sortS_map]
    exact q l hl
theorem leA_total : PySem.W.TotalLe leA := PySem.W.sortLe_total (PyProof.Rows.listOrd PyProof.Rows.itemOrd) false (fun a : Arc × Int => PySem.W.keyToks (.tuple ((key3 a.1).map keyD)))
theorem toks3 {a b : Arc} (h : PySem.W.keyToks (.tuple ((key3 a).map keyD)) = PySem.W.keyToks (.tuple ((key3 b).map keyD))) : a = b := by
  obtain ⟨a1, a2, a3⟩ := a
  obtain ⟨b1, b2, b3⟩ := b
  simp only [key3, List.map_cons, List.map_nil, keyD, PySem.W.keyToks, PySem.W.keyToksAll, List.cons_append, List.nil_append, List.cons.injEq, Sum.inr.injEq, true_and, and_true] at h
  rw [key_inj h.1, key_inj h.2.1, key_inj h.2.2]
theorem leA_anti {a b : Arc × Int} (h1 : leA a b = true) (h2 : leA b a = true) : a.1 = b.1 := by
  have h1' : (!PyProof.Rows.lexLt PyProof.Rows.itemOrd (PySem.W.keyToks (.tuple ((key3 b.1).map keyD))) (PySem.W.keyToks (.tuple ((key3 a.1).map keyD)))) = true := h1
  have h2' : (!PyProof.Rows.lexLt PyProof.Rows.itemOrd (PySem.W.keyToks (.tuple ((key3 a.1).map keyD))) (PySem.W.keyToks (.tuple ((key3 b.1).map keyD)))) = true := h2
  rw [Bool.not_eq_true'] at h1' h2'
  exact toks3 (PyProof.Rows.lex_total _ _ h2' h1')
theorem pw_one {α : Type} {r : α → α → Prop} (anti : ∀ a b, r a b → r b a → a = b) : ∀ {m n : List α}, m.Pairwise r → n.Pairwise r → m.Perm n → m = n
  | [], n, _, _, p => (List.Perm.nil_eq p)
  | a :: m, [], _, _, p => absurd p.symm (by simp)
  | a :: m, b :: n, hm, hn, p => by
    have e : a = b := by
      have ha := p.mem_iff.mp (List.mem_cons_self (a := a) (l := m))
      have hb := p.mem_iff.mpr (List.mem_cons_self (a := b) (l := n))
      rcases List.mem_cons.mp ha with h | h
      · exact h
      · rcases List.mem_cons.mp hb with h' | h'
        · exact h'.symm
        · exact anti a b ((List.pairwise_cons.mp hm).1 b h') ((List.pairwise_cons.mp hn).1 a h)
    subst e
    rw [pw_one anti (List.pairwise_cons.mp hm).2 (List.pairwise_cons.mp hn).2 (List.Perm.cons_inv p)]
theorem nd_inj {m : List (Arc × Int)} (nd : (m.map (·.1)).Nodup) {a b : Arc × Int} (ha : a ∈ m) (hb : b ∈ m) (e : a.1 = b.1) : a = b := by
  have h1 := val_at nd a ha
  have h2 := val_at nd b hb
  rw [e, h2] at h1
  exact Prod.ext e (V.int.inj (Option.some.inj h1)).symm
theorem sortA_eq {m n : List (Arc × Int)} (p : m.Perm n) (nd : (m.map (·.1)).Nodup) : sortA m = sortA n := by
  have h1 := PySem.W.sort_pairwise leA_total m
  have h2 := PySem.W.sort_pairwise leA_total n
  have pm := sort_perm m
  have pn := (sort_perm n).trans p.symm
  refine pw_one (r := fun a b => leA a b = true ∧ a ∈ m ∧ b ∈ m) (fun a b x y => nd_inj nd x.2.1 x.2.2 (leA_anti x.1 y.1)) ?_ ?_ (pm.trans pn.symm)
  · exact h1.imp_of_mem fun ha hb h => ⟨h, pm.mem_iff.mp ha, pm.mem_iff.mp hb⟩
  · exact h2.imp_of_mem fun ha hb h => ⟨h, pn.mem_iff.mp ha, pn.mem_iff.mp hb⟩
/-! ### state names -/
def TEN : List Str := [Str.ofString "s", Str.ofString "t", Str.ofString "p", Str.ofString "q", Str.ofString "qa", Str.ofString "first", Str.ofString "last", Str.ofString "arc", Str.ofString "zzzzzzzz", Str.ofString "u"]
theorem ten_nd : TEN.Nodup := by decide +kernel
theorem ten_name : ∀ x ∈ TEN, isName (.str x) = true := by decide +kernel
theorem cut_take (xs : List V) (n : Nat) : cutV xs none (some (n : Int)) = xs.take n := by
  unfold cutV
  rw [HT.sIx_none, HT.sIx_nat, List.drop_zero, Nat.sub_zero]
  by_cases h : n ≤ xs.length
  · rw [Nat.min_eq_left h]
  · rw [Nat.min_eq_right (by omega), List.take_of_length_le (Nat.le_refl _), List.take_of_length_le (by omega)]
theorem perm_strs {xs : List Str} {ys : List V} (p : ys.Perm (xs.map V.str)) : ∃ zs : List Str, ys = zs.map V.str ∧ zs.Perm xs := by
  let g : V → Str := fun v => match v with | .str x => x | _ => Str.empty
  have hg : (xs.map V.str).map g = xs := by
    rw [List.map_map]
    exact (List.map_congr_left (fun x _ => rfl)).trans (List.map_id xs)
  refine ⟨ys.map g, ?_, ?_⟩
  · rw [List.map_map]
    refine ((List.map_congr_left (f := V.str ∘ g) (g := id) fun v hv => ?_).trans (List.map_id ys)).symm
    obtain ⟨x, _, rfl⟩ := List.mem_map.mp (p.mem_iff.mp hv)
    rfl
  · have := p.map g
    rw [hg] at this
    exact this
def spNamesD : Sp := fun vs H Q _ => ∃ (d : Addr) (x y z : Int) (n : Nat), vs = [.ref d, .int (n : Int)] ∧ H d = some (.lst [.int x, .int y, .int z]) ∧ n ≤ 10 ∧
  ∀ p (ys : List Str) H', Dk d H H' → p ≠ d → H p = none → ys.length = n → (∀ y ∈ ys, y ∈ TEN) → ascB ys = true → H' p = some (.lst (ys.map V.str)) → Q (.ref p) H'
theorem ok_state_names (D : Ds K mg Z) (B : Bt mg) (C0 : Cs mg) : FnOk P w K mg base CX0 3 Z.a_state_names Z.d_state_names P_state_names spNamesD := by
  have G_mixed := ok_mixed (P := P) (w := w) (base := base) D B C0
  obtain ⟨⟨t_LIMIT, c_LIMIT⟩, ⟨t_ALPHABET, c_ALPHABET⟩, ⟨t_MAX_LETTERS, c_MAX_LETTERS⟩, ⟨t_MAX_STATES, c_MAX_STATES⟩, ⟨t_MAX_PRICE, c_MAX_PRICE⟩, ⟨t_FIRST, c_FIRST⟩, ⟨t_LAST, c_LAST⟩, ⟨t_ARC, c_ARC⟩⟩ := C0
  refine D.state_names.F.ok sc_state_names (fun vs H Q E h => ?_) (fun cdv A outer s H vs Q E hr h => ?_)
  · obtain ⟨d, x, y, z, n, rfl, _⟩ := h
    rfl
  · obtain ⟨d, x, y, z, n, rfl, hd, hn, q⟩ := h
    refine ⟨_, (pss_one (ps_ret (pe_callB (cr_sortL (K := K) rfl hr.units) (by rfl) B.sorted (by decide +kernel) (pa_cons (pe_slice (sl_listK (K := K) rfl) (pe_df D.mixed G_mixed (hr.mono (by decide)) (by rfl) (pa_cons (pv 0) (pa_cons (pe_lst (pa_cons pe_str (pa_cons pe_str (pa_cons pe_str (pa_cons pe_str (pa_cons pe_str (pa_cons pe_str (pa_cons pe_str (pa_cons pe_str (pa_cons pe_str (pa_cons pe_str pa_nil))))))))))) pa_nil))) po_none (po_some (pv 1))) pa_nil)))), ?_⟩
    walk_at "rd"
    refine ⟨by decide, fun p hp => ?_⟩
    have npd := Dk.ne hd hp
    have e1 := Same.new (o := HO.lst (TEN.map V.str)) hp
    refine ⟨d, p, x, y, z, TEN.map V.str, rfl, e1 _ _ hd, npd, upd_same, by decide, fun p2 ys H2 k2 np2 hp2 pm hys => ?_⟩
    obtain ⟨zs, rfl, pz⟩ := perm_strs pm
    have k1 := (Dk.of hd e1).trans k2
    refine ⟨p2, _, rfl, SqL.of hys, fun p3 hp3 => ?_⟩
    have np3 : p3 ≠ d := Dk.ne k2.2.choose_spec.choose_spec.choose_spec hp3
    have k3 := k1.lay (o := HO.lst (cutV (zs.map V.str) none (some (n : Int)))) (k1.none np3 hp3) np3
    rw [cut_take, ← List.map_take] at k3 ⊢
    have zl : zs.length = 10 := pz.length_eq
    have znd : (zs.take n).Nodup := (pz.nodup_iff.mpr ten_nd).sublist (List.take_sublist _ _)
    refine sort_strs upd_same fun l hl => ?_
    have npl : l ≠ d := Dk.ne k3.2.choose_spec.choose_spec.choose_spec hl
    have hl0 := k3.none npl hl
    refine q l _ _ (k3.lay hl0 npl) npl hl0 ?_ (fun y hy => ?_) (sortS_asc znd) upd_same
    · rw [(sortS_perm _).length_eq, List.length_take]
      omega
    · exact pz.mem_iff.mp (List.mem_of_mem_take ((sortS_perm _).mem_iff.mp hy))
end
section
variable {P : Program} {w : World} {K : PySem.W.Frag} {mg : Str → Option Value} {base : Heap} {Z : Ad}
/-! ### plain machines -/
def putA (m : List (Arc × Int)) (k : Arc) (i : Int) : List (Arc × Int) := if (m.any fun a => decide (a.1 = k)) = true then m.map (fun a => if a.1 = k then (a.1, i) else a) else m ++ [(k, i)]
theorem any_enc (m : List (Arc × Int)) (k : Arc) : ((encA m).any fun kv => decide (kv.1 = key3 k)) = m.any fun a => decide (a.1 = k) := by
  unfold encA
  rw [List.any_map]
  congr 1
  funext a
  show decide (key3 a.1 = key3 k) = decide (a.1 = k)
  by_cases h : a.1 = k
  · rw [h]; simp
  · rw [decide_eq_false h, decide_eq_false fun e => h (key3_inj e)]
theorem put_enc (m : List (Arc × Int)) (k : Arc) (i : Int) : putK (encA m) (key3 k) (.int i) = encA (putA m k i) := by
  unfold putK putA
  rw [any_enc]
  split
  · unfold encA
    rw [List.map_map, List.map_map]
    refine List.map_congr_left fun a _ => ?_
    show (if key3 a.1 = key3 k then (key3 a.1, V.int i) else (key3 a.1, V.int a.2)) = (key3 (if a.1 = k then (a.1, i) else a).1, V.int (if a.1 = k then (a.1, i) else a).2)
    by_cases h : a.1 = k
    · rw [if_pos (by rw [h]), if_pos h]
    · rw [if_neg fun e => h (key3_inj e), if_neg h]
  · unfold encA
    rw [List.map_append]
    rfl
theorem putA_new {m : List (Arc × Int)} {k : Arc} {i : Int} (h : k ∉ m.map (·.1)) : putA m k i = m ++ [(k, i)] := by
  unfold putA
  rw [if_neg]
  intro z
  obtain ⟨p, hp, e⟩ := List.any_eq_true.mp z
  exact h (List.mem_map.mpr ⟨p, hp, of_decide_eq_true e⟩)
theorem putA_keys (m : List (Arc × Int)) (k : Arc) (i : Int) : (putA m k i).map (·.1) = if k ∈ m.map (·.1) then m.map (·.1) else m.map (·.1) ++ [k] := by
  by_cases h : k ∈ m.map (·.1)
  · rw [if_pos h]
    obtain ⟨a, ha, e⟩ := List.mem_map.mp h
    unfold putA
    rw [if_pos (List.any_eq_true.mpr ⟨a, ha, decide_eq_true e⟩), List.map_map]
    refine List.map_congr_left fun b _ => ?_
    show (if b.1 = k then (b.1, i) else b).1 = b.1
    split <;> rfl
  · rw [if_neg h, putA_new h, List.map_append]
    rfl
theorem putA_nd {m : List (Arc × Int)} {k : Arc} {i : Int} (nd : (m.map (·.1)).Nodup) : ((putA m k i).map (·.1)).Nodup := by
  rw [putA_keys]
  split
  · exact nd
  · rename_i h
    exact List.nodup_append.mpr ⟨nd, (by simp), fun a ha b hb e => by rw [List.mem_singleton] at hb; rw [e, hb] at ha; exact h ha⟩
theorem putA_mem {m : List (Arc × Int)} {k : Arc} {i : Int} {a : Arc × Int} (h : a ∈ putA m k i) : a = (k, i) ∨ a ∈ m := by
  unfold putA at h
  split at h
  · obtain ⟨b, hb, rfl⟩ := List.mem_map.mp h
    by_cases e : b.1 = k
    · rw [if_pos e, ← e]
      exact .inl rfl
    · rw [if_neg e]
      exact .inr hb
  · rcases List.mem_append.mp h with h | h
    · exact .inr h
    · exact .inl (List.mem_singleton.mp h)
theorem putA_len (m : List (Arc × Int)) (k : Arc) (i : Int) : (putA m k i).length ≤ m.length + 1 := by
  unfold putA
  split
  · rw [List.length_map]
    omega
  · rw [List.length_append]
    exact Nat.le_refl _
abbrev Pm := List Str × List Str × List (Arc × Int)
def kF : Str := Str.ofString "firsts"
def kL : Str := Str.ofString "lasts"
def kA : Str := Str.ofString "arcs"
/-- the plain machine at p -/
def PlA (H : Hp) (p f l a : Addr) (fs ls : List Str) (m : List (Arc × Int)) : Prop := H p = some (.dK [(.inr kF, .ref f), (.inr kL, .ref l), (.inr kA, .ref a)]) ∧ H f = some (.lst (fs.map V.str)) ∧ H l = some (.lst (ls.map V.str)) ∧ H a = some (.dT (encA m))
def PlO (H : Hp) (p : Addr) (fs ls : List Str) (m : List (Arc × Int)) : Prop := ∃ f l a, PlA H p f l a fs ls m
theorem PlA.same {H H' : Hp} {p f l a : Addr} {fs ls : List Str} {m : List (Arc × Int)} (e : Same H H') (h : PlA H p f l a fs ls m) : PlA H' p f l a fs ls m := ⟨e _ _ h.1, e _ _ h.2.1, e _ _ h.2.2.1, e _ _ h.2.2.2⟩
theorem PlO.same {H H' : Hp} {p : Addr} {fs ls : List Str} {m : List (Arc × Int)} (e : Same H H') (h : PlO H p fs ls m) : PlO H' p fs ls m := by
  obtain ⟨f, l, a, h⟩ := h
  exact ⟨f, l, a, h.same e⟩
theorem PlA.dk {d : Addr} {H H' : Hp} {p f l a : Addr} {fs ls : List Str} {m : List (Arc × Int)} {x y z : Int} (hd : H d = some (.lst [.int x, .int y, .int z])) (k : Dk d H H') (f0 : 0 < fs.length) (l0 : 0 < ls.length) (h : PlA H p f l a fs ls m) : PlA H' p f l a fs ls m := by
  have ne : ∀ (b : Addr) (ss : List Str), 0 < ss.length → H b = some (.lst (ss.map V.str)) → b ≠ d := fun b ss h0 hb e => by
    rw [e, hd] at hb
    cases ss with
    | nil => exact absurd h0 (Nat.lt_irrefl _)
    | cons s r => cases hb
  exact ⟨k.1 _ _ (fun e => by have := h.1; rw [e, hd] at this; cases this) h.1, k.1 _ _ (ne f fs f0 h.2.1) h.2.1, k.1 _ _ (ne l ls l0 h.2.2.1) h.2.2.1, k.1 _ _ (fun e => by have := h.2.2.2; rw [e, hd] at this; cases this) h.2.2.2⟩
theorem PlO.dk {d : Addr} {H H' : Hp} {p : Addr} {fs ls : List Str} {m : List (Arc × Int)} {x y z : Int} (hd : H d = some (.lst [.int x, .int y, .int z])) (k : Dk d H H') (f0 : 0 < fs.length) (l0 : 0 < ls.length) (h : PlO H p fs ls m) : PlO H' p fs ls m := by
  obtain ⟨f, l, a, h⟩ := h
  exact ⟨f, l, a, h.dk hd k f0 l0⟩
def getF (H : Hp) (p f l a : Addr) (fs ls : List Str) (m : List (Arc × Int)) (h : PlA H p f l a fs ls m) : DGet H p (.str kF) (some (.ref f)) := DGet.k (k := Sum.inr kF) h.1
theorem PlA.gF {H : Hp} {p f l a : Addr} {fs ls : List Str} {m : List (Arc × Int)} (h : PlA H p f l a fs ls m) : DGet H p (.str kF) (some (.ref f)) := DGet.k (k := Sum.inr kF) h.1
theorem PlA.gL {H : Hp} {p f l a : Addr} {fs ls : List Str} {m : List (Arc × Int)} (h : PlA H p f l a fs ls m) : DGet H p (.str kL) (some (.ref l)) := DGet.k (k := Sum.inr kL) h.1
theorem PlA.gA {H : Hp} {p f l a : Addr} {fs ls : List Str} {m : List (Arc × Int)} (h : PlA H p f l a fs ls m) : DGet H p (.str kA) (some (.ref a)) := DGet.k (k := Sum.inr kA) h.1
theorem merge3 (a b c : V) : mergeK [] [(Sum.inr kF, a), (Sum.inr kL, b), (Sum.inr kA, c)] = [(Sum.inr kF, a), (Sum.inr kL, b), (Sum.inr kA, c)] := rfl
theorem put3F (a b c v : V) : putK [((Sum.inr kF : Key), a), (Sum.inr kL, b), (Sum.inr kA, c)] (Sum.inr kF) v = [(Sum.inr kF, v), (Sum.inr kL, b), (Sum.inr kA, c)] := rfl
theorem put3L (a b c v : V) : putK [((Sum.inr kF : Key), a), (Sum.inr kL, b), (Sum.inr kA, c)] (Sum.inr kL) v = [(Sum.inr kF, a), (Sum.inr kL, v), (Sum.inr kA, c)] := rfl
theorem PlA.setA {H : Hp} {p f l a : Addr} {fs ls : List Str} {m m' : List (Arc × Int)} (h : PlA H p f l a fs ls m) : PlA (upd H a (.dT (encA m'))) p f l a fs ls m' :=
  ⟨by rw [upd_ne (fun e => by have h1 := h.1; rw [e, h.2.2.2] at h1; cases h1)]; exact h.1, by rw [upd_ne (fun e => by have h1 := h.2.1; rw [e, h.2.2.2] at h1; cases h1)]; exact h.2.1, by rw [upd_ne (fun e => by have h1 := h.2.2.1; rw [e, h.2.2.2] at h1; cases h1)]; exact h.2.2.1, upd_same⟩
theorem PlA.setF {H : Hp} {p f l a f' : Addr} {fs ls fs' : List Str} {m : List (Arc × Int)} (h : PlA H p f l a fs ls m) (hf : H f' = some (.lst (fs'.map V.str))) : PlA (upd H p (.dK [(.inr kF, .ref f'), (.inr kL, .ref l), (.inr kA, .ref a)])) p f' l a fs' ls m :=
  ⟨upd_same, by rw [upd_ne (fun e => by rw [e, h.1] at hf; cases hf)]; exact hf, by rw [upd_ne (fun e => by have h1 := h.2.2.1; rw [e, h.1] at h1; cases h1)]; exact h.2.2.1, by rw [upd_ne (fun e => by have h1 := h.2.2.2; rw [e, h.1] at h1; cases h1)]; exact h.2.2.2⟩
theorem PlA.setL {H : Hp} {p f l a l' : Addr} {fs ls ls' : List Str} {m : List (Arc × Int)} (h : PlA H p f l a fs ls m) (hl : H l' = some (.lst (ls'.map V.str))) : PlA (upd H p (.dK [(.inr kF, .ref f), (.inr kL, .ref l'), (.inr kA, .ref a)])) p f l' a fs ls' m :=
  ⟨upd_same, by rw [upd_ne (fun e => by have h1 := h.2.1; rw [e, h.1] at h1; cases h1)]; exact h.2.1, by rw [upd_ne (fun e => by rw [e, h.1] at hl; cases hl)]; exact hl, by rw [upd_ne (fun e => by have h1 := h.2.2.2; rw [e, h.1] at h1; cases h1)]; exact h.2.2.2⟩
theorem new_ne {H : Hp} {p q : Addr} {o : HO} (h : upd H p o q = none) : q ≠ p ∧ H q = none := by
  have n : q ≠ p := fun e => by rw [e, upd_same] at h; cases h
  exact ⟨n, by rw [← h]; exact (upd_ne n).symm⟩
/-! ### _law_plain -/
def sSP : Str := Str.ofString " "
def stepP (c : Pm) (ln : Str) : Option Pm := if ln.length ≤ 1000 then match Txt.split ln sSP with
  | k :: r => if k = Str.ofString "first" then some (r, c.2.1, c.2.2) else if k = Str.ofString "last" then some (c.1, r, c.2.2) else match r with
    | [a, b, n, e] => match PySem.intText? n with
      | some i => if n.length ≤ 640 then some (c.1, c.2.1, putA c.2.2 (a, b, e) i) else none
      | none => none
    | _ => none
  | [] => none
  else none
def plainOf (ls : List Str) : Option Pm := ls.foldlM stepP ([], [], [])
theorem plain_take {ls : List Str} {i : Nat} (hi : i < ls.length) (init : Pm) : (ls.take (i + 1)).foldlM stepP init = (ls.take i).foldlM stepP init >>= fun c => stepP c ls[i] := by
  rw [List.take_add_one, List.getElem?_eq_getElem hi, List.foldlM_append]
  simp
theorem plain_some {ls : List Str} {c : Pm} (h : plainOf ls = some c) : ∀ i, i ≤ ls.length → ∃ b, (ls.take i).foldlM stepP ([], [], []) = some b := by
  intro i hi
  have e : plainOf ls = (ls.take i ++ ls.drop i).foldlM stepP ([], [], []) := by rw [List.take_append_drop]; rfl
  rw [e, List.foldlM_append] at h
  cases hb : (ls.take i).foldlM stepP ([], [], []) with
  | none => rw [hb] at h; cases h
  | some b => exact ⟨b, rfl⟩
def spPlain (K : PySem.W.Frag) : Sp := fun vs H Q _ => ∃ (a : Addr) (lns : List Str) (c : Pm), vs = [.ref a] ∧ H a = some (.lst (lns.map V.str)) ∧ lns.length ≤ 1000 ∧ plainOf lns = some c ∧
  ∀ p H', Same H H' → H p = none → PlO H' p c.1 c.2.1 c.2.2 → Q (.ref p) H'
theorem ok_plain (D : Ds K mg Z) (B : Bt mg) (C0 : Cs mg) : FnOk P w K mg base CX0 1 Z.a_plain Z.d_plain P_plain (spPlain K) := by
  obtain ⟨⟨t_LIMIT, c_LIMIT⟩, ⟨t_ALPHABET, c_ALPHABET⟩, ⟨t_MAX_LETTERS, c_MAX_LETTERS⟩, ⟨t_MAX_STATES, c_MAX_STATES⟩, ⟨t_MAX_PRICE, c_MAX_PRICE⟩, ⟨t_FIRST, c_FIRST⟩, ⟨t_LAST, c_LAST⟩, ⟨t_ARC, c_ARC⟩⟩ := C0
  refine D.plain.F.ok sc_plain (fun vs H Q E h => ?_) (fun cdv A outer s H vs Q E hr h => ?_)
  · obtain ⟨a, lns, c, rfl, _⟩ := h
    rfl
  · obtain ⟨a, lns, c, rfl, ha, hl, hc, q⟩ := h
    refine ⟨_, (pss_cons (ps_set (i := 1) sc_plain.nd rfl (Or.inl rfl) (pe_disp (pps_cons pe_str (pe_lst pa_nil) (pps_cons pe_str (pe_lst pa_nil) (pps_cons pe_str pe_dnewT pps_nil))) (by rfl) (by rfl) (fun z => by cases z) (by decide)))
    (pss_cons (ps_for PassesOwn.never rfl (pi_listK (K := K) rfl (pv 0)) (pg_name (i := 2) sc_plain.nd rfl (Or.inl rfl))
      (pss_cons (ps_set (i := 3) sc_plain.nd rfl (Or.inl rfl) (pe_sm PySem.F.plainAttrs_str PySem.F.slot_str_split PySem.F.type_str_split mt_split (pv 2) (pa_cons pe_str pa_nil)))
    (pss_one (ps_if (pt_cmpR op_eq (pe_ix ix_M (pv 3) pe_int (fun _ _ => rfl)) pe_str (nomark _)) (pss_one (ps_dput (hu_of hr) (pv 1) pe_str (pe_slice (sl_listK (K := K) rfl) (pv 3) (po_some pe_int) po_none) rfl)) (pss_one (ps_if (pt_cmpR op_eq (pe_ix ix_M (pv 3) pe_int (fun _ _ => rfl)) pe_str (nomark _)) (pss_one (ps_dput (hu_of hr) (pv 1) pe_str (pe_slice (sl_listK (K := K) rfl) (pv 3) (po_some pe_int) po_none) rfl)) (pss_one (ps_dput (hu_of hr) (pe_dget (hu_of hr) (pv 1) pe_str (fun _ _ => rfl)) (pe_tup (pa_cons (pe_ix ix_M (pv 3) pe_int (fun _ _ => rfl)) (pa_cons (pe_ix ix_M (pv 3) pe_int (fun _ _ => rfl)) (pa_cons (pe_ix ix_M (pv 3) pe_int (fun _ _ => rfl)) pa_nil)))) (pe_callTy call_int_str (by rfl) B.int (by decide +kernel) (pa_cons (pe_ix ix_M (pv 3) pe_int (fun _ _ => rfl)) pa_nil)) rfl))))))))
    (pss_one (ps_ret (pv 1))))), ?_⟩
    walk_at "rd"
    intro p hp
    refine ⟨Nat.zero_le _, fun p1 h1 => ⟨Nat.zero_le _, fun p2 h2 p3 h3 => ?_⟩⟩
    have s1 := Same.new (o := HO.lst []) h1
    have s2 := Same.new (o := HO.lst []) h2
    have s3 := Same.new (o := HO.dT []) h3
    have s4 := (s1.trans s2).trans s3
    have hp4 := s4 _ _ (upd_same (H := H) (a := p) (o := HO.dK []))
    have k1 := (s2.trans s3) _ _ (upd_same (H := upd H p (.dK [])) (a := p1) (o := HO.lst []))
    have k2 := s3 _ _ (upd_same (H := upd (upd H p (.dK [])) p1 (.lst [])) (a := p2) (o := HO.lst []))
    have k3 := upd_same (H := upd (upd (upd H p (.dK [])) p1 (.lst [])) p2 (.lst [])) (a := p3) (o := HO.dT [])
    have sm := (Same.new (o := HO.dK []) hp).trans s4
    have n3 : H p3 = none := (new_ne (new_ne (new_ne h3).2).2).2
    have n3p : p3 ≠ p := (new_ne (new_ne (new_ne h3).2).2).1
    refine ⟨hp4, [(.inr kF, .ref p1), (.inr kL, .ref p2), (.inr kA, .ref p3)], rfl, Nat.le_of_ble_eq_true rfl, ?_⟩
    rw [merge3]
    generalize upd (upd (upd (upd H p (.dK [])) p1 (.lst [])) p2 (.lst [])) p3 (HO.dT []) = H4 at hp4 k1 k2 k3 sm ⊢
    have pl : PlA (upd H4 p (.dK [(.inr kF, .ref p1), (.inr kL, .ref p2), (.inr kA, .ref p3)])) p p1 p2 p3 [] [] [] :=
      ⟨upd_same, by rw [upd_ne (fun e => by rw [e, hp4] at k1; cases k1)]; exact k1, by rw [upd_ne (fun e => by rw [e, hp4] at k2; cases k2)]; exact k2, by rw [upd_ne n3p]; exact k3⟩
    have sm5 : Same H (upd H4 p (.dK [(.inr kF, .ref p1), (.inr kL, .ref p2), (.inr kA, .ref p3)])) := Same.lay sm hp
    clear sm h1 h2 h3 s1 s2 s3 s4 hp4 k1 k2 k3
    generalize upd H4 p (.dK [(.inr kF, .ref p1), (.inr kL, .ref p2), (.inr kA, .ref p3)]) = H5 at pl sm5 ⊢
    walk_at "go"
    refine ⟨⟨_, SqL.of (sm5 _ _ ha)⟩, ?_⟩
    have ll : (lns.map V.str).length = lns.length := List.length_map ..
    obtain ⟨Pv, hP⟩ := inv_bi (fun (i : Nat) (σ : St) (H' : Hp) => ∃ (b : Pm) (f l : Addr) (o2 o3 : Option V), σ = [some (.ref a), some (.ref p), o2, o3] ∧ (lns.take i).foldlM stepP ([], [], []) = some b ∧ Same H H' ∧ PlA H' p f l p3 b.1 b.2.1 b.2.2 ∧ b.2.2.length ≤ i)
    refine loop_it (walk_list (K := K) (a := a) (xs := lns.map V.str)) Pv ((hP _ _ _).mpr ⟨([], [], []), p1, p2, _, _, rfl, rfl, sm5, pl, Nat.le_refl _⟩) (fun i σ H' _ h => by obtain ⟨_, _, _, _, _, _, _, e, _⟩ := (hP _ _ _).mp h; exact SqL.of (e _ _ ha)) (fun i x σ H6 H7 hi hpv y => ?_) (fun σ H6 hpv => ?_)
    · obtain ⟨b, f, l, o2, o3, rfl, eb, sm6, pl6, bl⟩ := (hP _ _ _).mp hpv
      obtain ⟨rfl, hx⟩ := y
      have hi2 : i < lns.length := by omega
      rw [List.getElem?_map, List.getElem?_eq_getElem hi2] at hx
      cases hx
      obtain ⟨b', eb'⟩ := plain_some hc (i + 1) hi2
      have fin := fun (f' l' : Addr) (o2 o3 : Option V) (H' : Hp) (h1 : Same H H') (h2 : PlA H' p f' l' p3 b'.1 b'.2.1 b'.2.2) (h3 : b'.2.2.length ≤ i + 1) => (hP (i + 1) [some (.ref a), some (.ref p), o2, o3] H').mpr ⟨b', f', l', o2, o3, rfl, eb', h1, h2, h3⟩
      have est : stepP b lns[i] = some b' := by
        rw [plain_take hi2, eb] at eb'
        exact eb'
      clear hP hpv eb eb' hc
      generalize lns[i] = ln at est ⊢
      clear pl sm5 hi
      walk_at "rd"
      unfold stepP at est
      split at est
      rotate_left
      · cases est
      rename_i hln
      have hln2 : ln.length + 2 ≤ sizeLine := Nat.le_trans (show ln.length + 2 ≤ 1002 by omega) (by decide)
      walk_at "gg"
      refine ⟨rfl, fun t ht => ?_⟩
      have e7 := Same.new (o := HO.lst ((Txt.split ln (Str.ofString " ")).map V.str)) ht
      have ht7 : upd H7 t (HO.lst ((Txt.split ln (Str.ofString " ")).map V.str)) t = some (.lst ((Txt.split ln (Str.ofString " ")).map V.str)) := upd_same
      replace pl6 := pl6.same e7
      replace sm6 := sm6.trans e7
      generalize upd H7 t (HO.lst ((Txt.split ln (Str.ofString " ")).map V.str)) = H8 at ht7 pl6 sm6 ⊢
      clear e7 ht
      rw [show sSP = Str.ofString " " from rfl] at est
      generalize Txt.split ln (Str.ofString " ") = ws at est ht7 ⊢
      cases ws with
      | nil => cases est
      | cons k r =>
        simp only at est
        walk_at "gg"
        have e1 : cutV ((k :: r).map V.str) (some 1) none = r.map V.str := by rw [cut1 _ (show 0 < (List.map V.str (k :: r)).length from Nat.zero_lt_succ _)]; rfl
        by_cases hk : k = Str.ofString "first"
        · rw [if_pos hk] at est
          cases est
          rw [if_pos (decide_eq_true hk)]
          walk_at "go"
          refine ⟨t, _, rfl, SqL.of ht7, fun p4 h4 => ?_⟩
          rw [e1]
          have s9 := Same.new (o := HO.lst (r.map V.str)) h4
          have pl9 := (pl6.same s9).setF upd_same
          exact ⟨_, DPut.k (k := Sum.inr kF) (s9 _ _ pl6.1) (Nat.lt_of_lt_of_le (show 3 < 4 by decide) (by decide)), fin _ _ _ _ _ (Same.lay (sm6.trans s9) hp) (by rw [put3F]; exact pl9) (by show b.2.2.length ≤ i + 1; omega)⟩
        rw [if_neg hk] at est
        rw [if_neg (by rw [decide_eq_true_eq]; exact hk)]
        walk_at "gg"
        by_cases hk2 : k = Str.ofString "last"
        · rw [if_pos hk2] at est
          cases est
          rw [if_pos (decide_eq_true hk2)]
          walk_at "go"
          refine ⟨t, _, rfl, SqL.of ht7, fun p4 h4 => ?_⟩
          rw [e1]
          have s9 := Same.new (o := HO.lst (r.map V.str)) h4
          have pl9 := (pl6.same s9).setL upd_same
          exact ⟨_, DPut.k (k := Sum.inr kL) (s9 _ _ pl6.1) (Nat.lt_of_lt_of_le (show 3 < 4 by decide) (by decide)), fin _ _ _ _ _ (Same.lay (sm6.trans s9) hp) (by rw [put3L]; exact pl9) (by show b.2.2.length ≤ i + 1; omega)⟩
        rw [if_neg hk2] at est
        rw [if_neg (by rw [decide_eq_true_eq]; exact hk2)]
        split at est
        rotate_left
        · cases est
        rename_i x1 x2 x3 x4
        split at est
        rotate_left
        · cases est
        rename_i z hz
        split at est
        rotate_left
        · cases est
        rename_i hz2
        cases est
        walk_at "gg"
        refine ⟨_, rfl, _, rfl, _, hz, hz2, _, pl6.gA, _, rfl, by decide, fun p4 h4 => ⟨_, rfl, ?_⟩⟩
        have s9 := Same.new (o := HO.tup [V.str x1, V.str x2, V.str x4]) h4
        have pl9 := pl6.same s9
        have pl10 := pl9.setA (m' := putA b.2.2 (x1, x2, x4) z)
        refine ⟨_, DPut.t (k := key3 (x1, x2, x4)) pl9.2.2.2 upd_same ?_, fin _ _ _ _ _ (Same.lay (sm6.trans s9) n3) (by rw [put_enc]; exact pl10) ?_⟩
        · unfold encA
          rw [List.length_map]
          exact Nat.lt_of_le_of_lt (show b.2.2.length ≤ 1000 by omega) (by decide)
        · have := putA_len b.2.2 (x1, x2, x4) z
          show (putA b.2.2 (x1, x2, x4) z).length ≤ i + 1
          omega
    · obtain ⟨b, f, l, o2, o3, rfl, eb, sm6, pl6, bl⟩ := (hP _ _ _).mp hpv
      rw [ll, List.take_length] at eb
      have e : some b = some c := eb.symm.trans hc
      cases e
      have q' := q p H6 sm6 hp ⟨_, _, _, pl6⟩
      walk_at "gg"
end
section
variable {P : Program} {w : World} {K : PySem.W.Frag} {mg : Str → Option Value} {base : Heap} {Z : Ad}
/-! ### the lines of the written machines -/
theorem none_of {H H' : Hp} (e : Same H H') {p : Addr} (h : H' p = none) : H p = none := by
  cases hp : H p with
  | none => rfl
  | some o => rw [e _ _ hp] at h; cases h
theorem cut_drop (xs : List V) (n : Nat) (h : n ≤ xs.length) : cutV xs (some (n : Int)) none = xs.drop n := by
  unfold cutV
  rw [HT.sIx_none, HT.sIx_nat, Nat.min_eq_left h, List.take_of_length_le (by rw [List.length_drop]; exact Nat.le_refl _)]
def spLst (xs : List Str) : Sp := fun vs H Q _ => vs = [] ∧ ∀ p H', Same H H' → H p = none → H' p = some (.lst (xs.map V.str)) → Q (.ref p) H'
def ln_block : List Str := [Str.ofString "first p", Str.ofString "last r", Str.ofString "arc p a 0 p", Str.ofString "arc p b 0 p", Str.ofString "arc p b 0 q", Str.ofString "arc q a 1 q", Str.ofString "arc q b 0 r", Str.ofString "arc r a 0 r", Str.ofString "arc r b 0 r"]
def l1_block : List Str := [Str.ofString "first p", Str.ofString "last r", Str.ofString "arc p a 0 p", Str.ofString "arc p b 0 p", Str.ofString "arc p b 0 q", Str.ofString "arc q a 1 q", Str.ofString "arc q b 0 r"]
def l2_block : List Str := [Str.ofString "arc r a 0 r", Str.ofString "arc r b 0 r"]
theorem ok_block (D : Ds K mg Z) (B : Bt mg) (C0 : Cs mg) : FnOk P w K mg base CX0 1 Z.a_block Z.d_block P_block (spLst ln_block) := by
  obtain ⟨⟨t_LIMIT, c_LIMIT⟩, ⟨t_ALPHABET, c_ALPHABET⟩, ⟨t_MAX_LETTERS, c_MAX_LETTERS⟩, ⟨t_MAX_STATES, c_MAX_STATES⟩, ⟨t_MAX_PRICE, c_MAX_PRICE⟩, ⟨t_FIRST, c_FIRST⟩, ⟨t_LAST, c_LAST⟩, ⟨t_ARC, c_ARC⟩⟩ := C0
  refine D.block.F.ok sc_block (fun vs H Q E h => ?_) (fun cdv A outer s H vs Q E hr h => ?_)
  · obtain ⟨rfl, _⟩ := h
    rfl
  · obtain ⟨rfl, q⟩ := h
    refine ⟨_, (pss_cons (ps_set (i := 0) sc_block.nd rfl (Or.inl rfl) (pe_lst (pa_cons pe_str (pa_cons pe_str (pa_cons pe_str (pa_cons pe_str (pa_cons pe_str (pa_cons pe_str (pa_cons pe_str pa_nil)))))))))
    (pss_one (ps_ret (pe_op op_cat (pv 0) (pe_lst (pa_cons pe_str (pa_cons pe_str pa_nil))))))), ?_⟩
    walk_at "rd"
    refine ⟨by decide, fun p1 h1 => ?_⟩
    have s1 := Same.new (o := HO.lst (l1_block.map V.str)) h1
    have k1 := upd_same (H := H) (a := p1) (o := HO.lst (l1_block.map V.str))
    change Later _ _ _ (upd H p1 (HO.lst (l1_block.map V.str)))
    generalize upd H p1 (HO.lst (l1_block.map V.str)) = H1 at s1 k1 ⊢
    refine later ?_
    refine ⟨_, rfl, by decide, fun p2 h2 => ?_⟩
    have s2 := Same.new (o := HO.lst (l2_block.map V.str)) h2
    refine ⟨p1, p2, _, _, rfl, rfl, s2 _ _ k1, upd_same, by decide, fun p3 h3 => ?_⟩
    have s3 := Same.new (o := HO.lst (ln_block.map V.str)) h3
    have n3 : H p3 = none := none_of (s1.trans s2) h3
    exact q p3 _ ((s1.trans s2).trans s3) n3 upd_same
def ln_count : List Str := [Str.ofString "first c", Str.ofString "last c", Str.ofString "arc c a 0 c", Str.ofString "arc c b 1 c"]
theorem ok_count (D : Ds K mg Z) (B : Bt mg) (C0 : Cs mg) : FnOk P w K mg base CX0 1 Z.a_count Z.d_count P_count (spLst ln_count) := by
  obtain ⟨⟨t_LIMIT, c_LIMIT⟩, ⟨t_ALPHABET, c_ALPHABET⟩, ⟨t_MAX_LETTERS, c_MAX_LETTERS⟩, ⟨t_MAX_STATES, c_MAX_STATES⟩, ⟨t_MAX_PRICE, c_MAX_PRICE⟩, ⟨t_FIRST, c_FIRST⟩, ⟨t_LAST, c_LAST⟩, ⟨t_ARC, c_ARC⟩⟩ := C0
  refine D.count.F.ok sc_count (fun vs H Q E h => ?_) (fun cdv A outer s H vs Q E hr h => ?_)
  · obtain ⟨rfl, _⟩ := h
    rfl
  · obtain ⟨rfl, q⟩ := h
    refine ⟨_, (pss_one (ps_ret (pe_lst (pa_cons pe_str (pa_cons pe_str (pa_cons pe_str (pa_cons pe_str pa_nil))))))), ?_⟩
    walk_at "rd"
    exact ⟨by decide, fun p hp => q p _ (Same.new (o := HO.lst (ln_count.map V.str)) hp) hp upd_same⟩
def ln_either : List Str := [Str.ofString "first s x", Str.ofString "last s xc", Str.ofString "arc s a 1 s", Str.ofString "arc s b 0 s", Str.ofString "arc x a 0 xa", Str.ofString "arc x b 0 x", Str.ofString "arc xa a 0 xb", Str.ofString "arc xa b 0 xa", Str.ofString "arc xb a 0 xc", Str.ofString "arc xb b 0 xb", Str.ofString "arc xc a 0 xc", Str.ofString "arc xc b 0 xc"]
def l1_either : List Str := [Str.ofString "first s x", Str.ofString "last s xc", Str.ofString "arc s a 1 s", Str.ofString "arc s b 0 s", Str.ofString "arc x a 0 xa", Str.ofString "arc x b 0 x", Str.ofString "arc xa a 0 xb"]
def l2_either : List Str := [Str.ofString "arc xa b 0 xa", Str.ofString "arc xb a 0 xc", Str.ofString "arc xb b 0 xb", Str.ofString "arc xc a 0 xc", Str.ofString "arc xc b 0 xc"]
theorem ok_either (D : Ds K mg Z) (B : Bt mg) (C0 : Cs mg) : FnOk P w K mg base CX0 1 Z.a_either Z.d_either P_either (spLst ln_either) := by
  obtain ⟨⟨t_LIMIT, c_LIMIT⟩, ⟨t_ALPHABET, c_ALPHABET⟩, ⟨t_MAX_LETTERS, c_MAX_LETTERS⟩, ⟨t_MAX_STATES, c_MAX_STATES⟩, ⟨t_MAX_PRICE, c_MAX_PRICE⟩, ⟨t_FIRST, c_FIRST⟩, ⟨t_LAST, c_LAST⟩, ⟨t_ARC, c_ARC⟩⟩ := C0
  refine D.either.F.ok sc_either (fun vs H Q E h => ?_) (fun cdv A outer s H vs Q E hr h => ?_)
  · obtain ⟨rfl, _⟩ := h
    rfl
  · obtain ⟨rfl, q⟩ := h
    refine ⟨_, (pss_cons (ps_set (i := 0) sc_either.nd rfl (Or.inl rfl) (pe_lst (pa_cons pe_str (pa_cons pe_str (pa_cons pe_str (pa_cons pe_str (pa_cons pe_str (pa_cons pe_str (pa_cons pe_str pa_nil)))))))))
    (pss_one (ps_ret (pe_op op_cat (pv 0) (pe_lst (pa_cons pe_str (pa_cons pe_str (pa_cons pe_str (pa_cons pe_str (pa_cons pe_str pa_nil)))))))))), ?_⟩
    walk_at "rd"
    refine ⟨by decide, fun p1 h1 => ?_⟩
    have s1 := Same.new (o := HO.lst (l1_either.map V.str)) h1
    have k1 := upd_same (H := H) (a := p1) (o := HO.lst (l1_either.map V.str))
    change Later _ _ _ (upd H p1 (HO.lst (l1_either.map V.str)))
    generalize upd H p1 (HO.lst (l1_either.map V.str)) = H1 at s1 k1 ⊢
    refine later ?_
    refine ⟨_, rfl, by decide, fun p2 h2 => ?_⟩
    have s2 := Same.new (o := HO.lst (l2_either.map V.str)) h2
    refine ⟨p1, p2, _, _, rfl, rfl, s2 _ _ k1, upd_same, by decide, fun p3 h3 => ?_⟩
    have s3 := Same.new (o := HO.lst (ln_either.map V.str)) h3
    have n3 : H p3 = none := none_of (s1.trans s2) h3
    exact q p3 _ ((s1.trans s2).trans s3) n3 upd_same
def ln_thrice : List Str := [Str.ofString "first s x", Str.ofString "last s y", Str.ofString "arc s a 1 s", Str.ofString "arc x a 0 xa", Str.ofString "arc xa a 0 xb", Str.ofString "arc xb a 0 xc", Str.ofString "arc xc a 0 xd", Str.ofString "arc xd a 0 xe", Str.ofString "arc xe a 0 y", Str.ofString "arc y a 0 y"]
def l1_thrice : List Str := [Str.ofString "first s x", Str.ofString "last s y", Str.ofString "arc s a 1 s", Str.ofString "arc x a 0 xa", Str.ofString "arc xa a 0 xb", Str.ofString "arc xb a 0 xc", Str.ofString "arc xc a 0 xd"]
def l2_thrice : List Str := [Str.ofString "arc xd a 0 xe", Str.ofString "arc xe a 0 y", Str.ofString "arc y a 0 y"]
theorem ok_thrice (D : Ds K mg Z) (B : Bt mg) (C0 : Cs mg) : FnOk P w K mg base CX0 1 Z.a_thrice Z.d_thrice P_thrice (spLst ln_thrice) := by
  obtain ⟨⟨t_LIMIT, c_LIMIT⟩, ⟨t_ALPHABET, c_ALPHABET⟩, ⟨t_MAX_LETTERS, c_MAX_LETTERS⟩, ⟨t_MAX_STATES, c_MAX_STATES⟩, ⟨t_MAX_PRICE, c_MAX_PRICE⟩, ⟨t_FIRST, c_FIRST⟩, ⟨t_LAST, c_LAST⟩, ⟨t_ARC, c_ARC⟩⟩ := C0
  refine D.thrice.F.ok sc_thrice (fun vs H Q E h => ?_) (fun cdv A outer s H vs Q E hr h => ?_)
  · obtain ⟨rfl, _⟩ := h
    rfl
  · obtain ⟨rfl, q⟩ := h
    refine ⟨_, (pss_cons (ps_set (i := 0) sc_thrice.nd rfl (Or.inl rfl) (pe_lst (pa_cons pe_str (pa_cons pe_str (pa_cons pe_str (pa_cons pe_str (pa_cons pe_str (pa_cons pe_str (pa_cons pe_str pa_nil)))))))))
    (pss_one (ps_ret (pe_op op_cat (pv 0) (pe_lst (pa_cons pe_str (pa_cons pe_str (pa_cons pe_str pa_nil)))))))), ?_⟩
    walk_at "rd"
    refine ⟨by decide, fun p1 h1 => ?_⟩
    have s1 := Same.new (o := HO.lst (l1_thrice.map V.str)) h1
    have k1 := upd_same (H := H) (a := p1) (o := HO.lst (l1_thrice.map V.str))
    change Later _ _ _ (upd H p1 (HO.lst (l1_thrice.map V.str)))
    generalize upd H p1 (HO.lst (l1_thrice.map V.str)) = H1 at s1 k1 ⊢
    refine later ?_
    refine ⟨_, rfl, by decide, fun p2 h2 => ?_⟩
    have s2 := Same.new (o := HO.lst (l2_thrice.map V.str)) h2
    refine ⟨p1, p2, _, _, rfl, rfl, s2 _ _ k1, upd_same, by decide, fun p3 h3 => ?_⟩
    have s3 := Same.new (o := HO.lst (ln_thrice.map V.str)) h3
    have n3 : H p3 = none := none_of (s1.trans s2) h3
    exact q p3 _ ((s1.trans s2).trans s3) n3 upd_same
def ln_uneven : List Str := [Str.ofString "first p", Str.ofString "last p", Str.ofString "arc p a 1 q", Str.ofString "arc q a 1 p", Str.ofString "arc p a 9 p", Str.ofString "arc q a 9 q"]
theorem ok_uneven (D : Ds K mg Z) (B : Bt mg) (C0 : Cs mg) : FnOk P w K mg base CX0 1 Z.a_uneven Z.d_uneven P_uneven (spLst ln_uneven) := by
  obtain ⟨⟨t_LIMIT, c_LIMIT⟩, ⟨t_ALPHABET, c_ALPHABET⟩, ⟨t_MAX_LETTERS, c_MAX_LETTERS⟩, ⟨t_MAX_STATES, c_MAX_STATES⟩, ⟨t_MAX_PRICE, c_MAX_PRICE⟩, ⟨t_FIRST, c_FIRST⟩, ⟨t_LAST, c_LAST⟩, ⟨t_ARC, c_ARC⟩⟩ := C0
  refine D.uneven.F.ok sc_uneven (fun vs H Q E h => ?_) (fun cdv A outer s H vs Q E hr h => ?_)
  · obtain ⟨rfl, _⟩ := h
    rfl
  · obtain ⟨rfl, q⟩ := h
    refine ⟨_, (pss_one (ps_ret (pe_lst (pa_cons pe_str (pa_cons pe_str (pa_cons pe_str (pa_cons pe_str (pa_cons pe_str (pa_cons pe_str pa_nil))))))))), ?_⟩
    walk_at "rd"
    exact ⟨by decide, fun p hp => q p _ (Same.new (o := HO.lst (ln_uneven.map V.str)) hp) hp upd_same⟩
def ln_paid : List Str := [Str.ofString "first s", Str.ofString "last v", Str.ofString "arc s a 3 t", Str.ofString "arc s b 0 s", Str.ofString "arc t a 0 t", Str.ofString "arc t b 4 v", Str.ofString "arc v a 0 v", Str.ofString "arc v b 0 v"]
def l1_paid : List Str := [Str.ofString "first s", Str.ofString "last v", Str.ofString "arc s a 3 t", Str.ofString "arc s b 0 s", Str.ofString "arc t a 0 t", Str.ofString "arc t b 4 v", Str.ofString "arc v a 0 v"]
def l2_paid : List Str := [Str.ofString "arc v b 0 v"]
theorem ok_paid (D : Ds K mg Z) (B : Bt mg) (C0 : Cs mg) : FnOk P w K mg base CX0 1 Z.a_paid Z.d_paid P_paid (spLst ln_paid) := by
  obtain ⟨⟨t_LIMIT, c_LIMIT⟩, ⟨t_ALPHABET, c_ALPHABET⟩, ⟨t_MAX_LETTERS, c_MAX_LETTERS⟩, ⟨t_MAX_STATES, c_MAX_STATES⟩, ⟨t_MAX_PRICE, c_MAX_PRICE⟩, ⟨t_FIRST, c_FIRST⟩, ⟨t_LAST, c_LAST⟩, ⟨t_ARC, c_ARC⟩⟩ := C0
  refine D.paid.F.ok sc_paid (fun vs H Q E h => ?_) (fun cdv A outer s H vs Q E hr h => ?_)
  · obtain ⟨rfl, _⟩ := h
    rfl
  · obtain ⟨rfl, q⟩ := h
    refine ⟨_, (pss_cons (ps_set (i := 0) sc_paid.nd rfl (Or.inl rfl) (pe_lst (pa_cons pe_str (pa_cons pe_str (pa_cons pe_str (pa_cons pe_str (pa_cons pe_str (pa_cons pe_str (pa_cons pe_str pa_nil)))))))))
    (pss_one (ps_ret (pe_op op_cat (pv 0) (pe_lst (pa_cons pe_str pa_nil)))))), ?_⟩
    walk_at "rd"
    refine ⟨by decide, fun p1 h1 => ?_⟩
    have s1 := Same.new (o := HO.lst (l1_paid.map V.str)) h1
    have k1 := upd_same (H := H) (a := p1) (o := HO.lst (l1_paid.map V.str))
    change Later _ _ _ (upd H p1 (HO.lst (l1_paid.map V.str)))
    generalize upd H p1 (HO.lst (l1_paid.map V.str)) = H1 at s1 k1 ⊢
    refine later ?_
    refine ⟨_, rfl, by decide, fun p2 h2 => ?_⟩
    have s2 := Same.new (o := HO.lst (l2_paid.map V.str)) h2
    refine ⟨p1, p2, _, _, rfl, rfl, s2 _ _ k1, upd_same, by decide, fun p3 h3 => ?_⟩
    have s3 := Same.new (o := HO.lst (ln_paid.map V.str)) h3
    have n3 : H p3 = none := none_of (s1.trans s2) h3
    exact q p3 _ ((s1.trans s2).trans s3) n3 upd_same
def l0_deal : List Str := [Str.ofString "first c p", Str.ofString "last c r"]
def ln_deal : List Str := l0_deal ++ ln_block.drop 2 ++ ln_count.drop 2
theorem ok_deal (D : Ds K mg Z) (B : Bt mg) (C0 : Cs mg) : FnOk P w K mg base CX0 2 Z.a_deal Z.d_deal P_deal (spLst ln_deal) := by
  have G_block := ok_block (P := P) (w := w) (base := base) D B C0
  have G_count := ok_count (P := P) (w := w) (base := base) D B C0
  obtain ⟨⟨t_LIMIT, c_LIMIT⟩, ⟨t_ALPHABET, c_ALPHABET⟩, ⟨t_MAX_LETTERS, c_MAX_LETTERS⟩, ⟨t_MAX_STATES, c_MAX_STATES⟩, ⟨t_MAX_PRICE, c_MAX_PRICE⟩, ⟨t_FIRST, c_FIRST⟩, ⟨t_LAST, c_LAST⟩, ⟨t_ARC, c_ARC⟩⟩ := C0
  refine D.deal.F.ok sc_deal (fun vs H Q E h => ?_) (fun cdv A outer s H vs Q E hr h => ?_)
  · obtain ⟨rfl, _⟩ := h
    rfl
  · obtain ⟨rfl, q⟩ := h
    refine ⟨_, (pss_one (ps_ret (pe_op op_cat (pe_op op_cat (pe_lst (pa_cons pe_str (pa_cons pe_str pa_nil))) (pe_slice (sl_listK (K := K) rfl) (pe_df0 D.block G_block (hr.mono (by decide)) (by rfl)) (po_some pe_int) po_none)) (pe_slice (sl_listK (K := K) rfl) (pe_df0 D.count G_count (hr.mono (by decide)) (by rfl)) (po_some pe_int) po_none)))), ?_⟩
    walk_at "rd"
    refine ⟨by decide, fun p1 h1 => ⟨rfl, fun p2 H2 e2 h2 k2 => ⟨p2, _, rfl, SqL.of k2, fun p3 h3 => ?_⟩⟩⟩
    have s1 := Same.new (o := HO.lst (l0_deal.map V.str)) h1
    have c3 : cutV (ln_block.map V.str) (some 2) none = (ln_block.drop 2).map V.str := (cut_drop _ 2 (by decide)).trans (List.map_drop ..).symm
    rw [c3]
    have s3 := Same.new (o := HO.lst ((ln_block.drop 2).map V.str)) h3
    refine ⟨p3, rfl, _, s3 _ _ (e2 _ _ upd_same), _, upd_same, by decide, fun p4 h4 => ⟨rfl, fun p5 H5 e5 h5 k5 => ⟨p5, _, rfl, SqL.of k5, fun p6 h6 => ?_⟩⟩⟩
    have c6 : cutV (ln_count.map V.str) (some 2) none = (ln_count.drop 2).map V.str := (cut_drop _ 2 (by decide)).trans (List.map_drop ..).symm
    rw [c6]
    have s4 := Same.new (o := HO.lst (l0_deal.map V.str ++ (ln_block.drop 2).map V.str)) h4
    have s6 := Same.new (o := HO.lst ((ln_count.drop 2).map V.str)) h6
    refine ⟨p6, rfl, _, s6 _ _ (e5 _ _ upd_same), _, upd_same, by decide, fun p7 h7 => ?_⟩
    have sA := (((s1.trans e2).trans s3).trans s4).trans (Same.trans e5 s6)
    have s7 := Same.new (o := HO.lst (ln_deal.map V.str)) h7
    exact q p7 _ (sA.trans s7) (none_of sA h7) upd_same
end
section
variable {P : Program} {w : World} {K : PySem.W.Frag} {mg : Str → Option Value} {base : Heap} {Z : Ad}
/-! ### written and drawn machines -/
def ABC : List Str := [Str.ofString "a", Str.ofString "b", Str.ofString "c"]
structure Dm (k : Nat) (fs ls : List Str) (m : List (Arc × Int)) : Prop where
  f0 : 0 < fs.length
  l0 : 0 < ls.length
  fn : namesB fs = true
  ln : namesB ls = true
  an : ∀ a ∈ m, placeB a.1.1 a.1.2.1 a.1.2.2 = true ∧ priceB (.int a.2) = true
  nd : (m.map (·.1)).Nodup
  ml : m.length ≤ 300
  lt : ∀ a ∈ m, a.1.2.1 ∈ ABC
  nm : ∃ nm : List Str, nm.length ≤ max k 8 ∧ (∀ x ∈ nm, isName (.str x) = true) ∧ ∀ x ∈ fs ++ ls ++ innA m, x ∈ nm
theorem nd_sub_len {α : Type} [BEq α] [LawfulBEq α] : ∀ {ys nm : List α}, ys.Nodup → (∀ y ∈ ys, y ∈ nm) → ys.length ≤ nm.length
  | [], _, _, _ => Nat.zero_le _
  | y :: ys, nm, nd, h => by
    obtain ⟨h1, h2⟩ := List.nodup_cons.mp nd
    have hy := h y List.mem_cons_self
    have ih := nd_sub_len (ys := ys) (nm := nm.erase y) h2 fun z hz => (List.mem_erase_of_ne (fun e => h1 (by rw [← e]; exact hz))).mpr (h z (List.mem_cons_of_mem _ hz))
    rw [List.length_erase_of_mem hy] at ih
    have := List.length_pos_of_mem hy
    rw [List.length_cons]
    omega
theorem names_asc {xs : List Str} (h : namesB xs = true) : ascB xs = true := by
  unfold namesB at h
  rw [Bool.and_eq_true] at h
  exact h.2
theorem names_all {xs : List Str} (h : namesB xs = true) : ∀ x ∈ xs, isName (.str x) = true := by
  unfold namesB at h
  rw [Bool.and_eq_true, List.all_eq_true] at h
  exact h.1
theorem names_mk {xs : List Str} (h : ∀ x ∈ xs, isName (.str x) = true) (h2 : ascB xs = true) : namesB xs = true := by
  unfold namesB
  rw [Bool.and_eq_true, List.all_eq_true]
  exact ⟨h, h2⟩
theorem Dm.gm {k : Nat} {fs ls : List Str} {m : List (Arc × Int)} (h : Dm k fs ls m) (hk : k ≤ 10) : Gm fs ls m := by
  obtain ⟨nm, n1, n2, n3⟩ := h.nm
  have nl : nm.length ≤ 10 := by omega
  have lf := nd_sub_len (asc_nd (names_asc h.fn)) fun y hy => n3 y (List.mem_append_left _ (List.mem_append_left _ hy))
  have lls := nd_sub_len (asc_nd (names_asc h.ln)) fun y hy => n3 y (List.mem_append_left _ (List.mem_append_right _ hy))
  have ml := h.ml
  refine ⟨h.f0, h.l0, h.fn, h.ln, h.an, h.nd, by omega, fun ys so => ?_⟩
  have := nd_sub_len so.nd fun y hy => n3 y ((so.mem y).mp hy)
  omega
def dedup : List Str → List Str
  | [] => []
  | x :: r => if x ∈ dedup r then dedup r else x :: dedup r
theorem mem_dedup : ∀ {xs : List Str} {y : Str}, y ∈ xs → y ∈ dedup xs
  | x :: r, y, h => by
    unfold dedup
    rcases List.mem_cons.mp h with rfl | h
    · split
      · assumption
      · exact List.mem_cons_self
    · split
      · exact mem_dedup h
      · exact List.mem_cons_of_mem _ (mem_dedup h)
theorem dedup_mem : ∀ {xs : List Str} {y : Str}, y ∈ dedup xs → y ∈ xs
  | x :: r, y, h => by
    unfold dedup at h
    split at h
    · exact List.mem_cons_of_mem _ (dedup_mem h)
    · rcases List.mem_cons.mp h with rfl | h
      · exact List.mem_cons_self
      · exact List.mem_cons_of_mem _ (dedup_mem h)
def dmB (c : Pm) : Bool := decide (0 < c.1.length) && decide (0 < c.2.1.length) && namesB c.1 && namesB c.2.1 && c.2.2.all (fun a => placeB a.1.1 a.1.2.1 a.1.2.2 && priceB (.int a.2)) && decide ((c.2.2.map (·.1)).Nodup) && decide (c.2.2.length ≤ 300) &&
  c.2.2.all (fun a => decide (a.1.2.1 ∈ ABC)) && decide ((dedup (c.1 ++ c.2.1 ++ innA c.2.2)).length ≤ 8) && (c.1 ++ c.2.1 ++ innA c.2.2).all (fun x => isName (.str x))
theorem dm_of {k : Nat} {c : Pm} (h : dmB c = true) : Dm k c.1 c.2.1 c.2.2 := by
  unfold dmB at h
  simp only [Bool.and_eq_true, decide_eq_true_eq, List.all_eq_true] at h
  obtain ⟨⟨⟨⟨⟨⟨⟨⟨⟨h1, h2⟩, h3⟩, h4⟩, h5⟩, h6⟩, h7⟩, h8⟩, h9⟩, h10⟩ := h
  exact ⟨h1, h2, h3, h4, h5, h6, h7, h8, _, Nat.le_trans h9 (Nat.le_max_right _ _), fun x hx => h10 x (dedup_mem hx), fun x hx => mem_dedup hx⟩
def okLn (ls : List Str) : Bool := match plainOf ls with
  | some c => dmB c
  | none => false
theorem ln_ok {ls : List Str} (h : okLn ls = true) (k : Nat) : ∃ c, plainOf ls = some c ∧ Dm k c.1 c.2.1 c.2.2 := by
  unfold okLn at h
  split at h
  · rename_i c e
    exact ⟨c, e, dm_of h⟩
  · cases h
theorem k_block : okLn ln_block = true := by decide +kernel
theorem k_count : okLn ln_count = true := by decide +kernel
theorem k_deal : okLn ln_deal = true := by decide +kernel
theorem k_either : okLn ln_either = true := by decide +kernel
theorem k_uneven : okLn ln_uneven = true := by decide +kernel
theorem k_paid : okLn ln_paid = true := by decide +kernel
theorem k_thrice : okLn ln_thrice = true := by decide +kernel
def spWritten : Sp := fun vs H Q _ => ∃ i : Int, vs = [.int i] ∧ 0 ≤ i ∧ i ≤ 6 ∧ ∀ p fs ls m H', Same H H' → H p = none → PlO H' p fs ls m → Dm 0 fs ls m → Q (.ref p) H'
theorem ok_written (D : Ds K mg Z) (B : Bt mg) (C0 : Cs mg) : FnOk P w K mg base CX0 3 Z.a_written Z.d_written P_written spWritten := by
  have G_plain := ok_plain (P := P) (w := w) (base := base) D B C0
  have G_block := ok_block (P := P) (w := w) (base := base) D B C0
  have G_count := ok_count (P := P) (w := w) (base := base) D B C0
  have G_deal := ok_deal (P := P) (w := w) (base := base) D B C0
  have G_either := ok_either (P := P) (w := w) (base := base) D B C0
  have G_uneven := ok_uneven (P := P) (w := w) (base := base) D B C0
  have G_paid := ok_paid (P := P) (w := w) (base := base) D B C0
  have G_thrice := ok_thrice (P := P) (w := w) (base := base) D B C0
  obtain ⟨⟨t_LIMIT, c_LIMIT⟩, ⟨t_ALPHABET, c_ALPHABET⟩, ⟨t_MAX_LETTERS, c_MAX_LETTERS⟩, ⟨t_MAX_STATES, c_MAX_STATES⟩, ⟨t_MAX_PRICE, c_MAX_PRICE⟩, ⟨t_FIRST, c_FIRST⟩, ⟨t_LAST, c_LAST⟩, ⟨t_ARC, c_ARC⟩⟩ := C0
  refine D.written.F.ok sc_written (fun vs H Q E h => ?_) (fun cdv A outer s H vs Q E hr h => ?_)
  · obtain ⟨i, rfl, _⟩ := h
    rfl
  · obtain ⟨i, rfl, i0, i6, q⟩ := h
    refine ⟨_, (pss_cons (ps_if (pt_cmpR op_eq (pv 0) pe_int (nomark _)) (pss_one (ps_ret (pe_df D.plain G_plain (hr.mono (by decide)) (by rfl) (pa_cons (pe_df0 D.block G_block (hr.mono (by decide)) (by rfl)) pa_nil)))) pss_nil)
    (pss_cons (ps_if (pt_cmpR op_eq (pv 0) pe_int (nomark _)) (pss_one (ps_ret (pe_df D.plain G_plain (hr.mono (by decide)) (by rfl) (pa_cons (pe_df0 D.count G_count (hr.mono (by decide)) (by rfl)) pa_nil)))) pss_nil)
    (pss_cons (ps_if (pt_cmpR op_eq (pv 0) pe_int (nomark _)) (pss_one (ps_ret (pe_df D.plain G_plain (hr.mono (by decide)) (by rfl) (pa_cons (pe_df0 D.deal G_deal (hr.mono (by decide)) (by rfl)) pa_nil)))) pss_nil)
    (pss_cons (ps_if (pt_cmpR op_eq (pv 0) pe_int (nomark _)) (pss_one (ps_ret (pe_df D.plain G_plain (hr.mono (by decide)) (by rfl) (pa_cons (pe_df0 D.either G_either (hr.mono (by decide)) (by rfl)) pa_nil)))) pss_nil)
    (pss_cons (ps_if (pt_cmpR op_eq (pv 0) pe_int (nomark _)) (pss_one (ps_ret (pe_df D.plain G_plain (hr.mono (by decide)) (by rfl) (pa_cons (pe_df0 D.uneven G_uneven (hr.mono (by decide)) (by rfl)) pa_nil)))) pss_nil)
    (pss_one (ps_ret (pe_df D.plain G_plain (hr.mono (by decide)) (by rfl) (pa_cons (pe_ifExp (pt_cmpR op_eq (pv 0) pe_int (nomark _)) (pe_df0 D.paid G_paid (hr.mono (by decide)) (by rfl)) (pe_df0 D.thrice G_thrice (hr.mono (by decide)) (by rfl))) pa_nil))))))))), ?_⟩
    have go : ∀ {xs : List Str}, okLn xs = true → xs.length ≤ 1000 → spLst xs [] H (fun x H1 => spPlain K [x] H1 Q E0) E0 := fun {xs} hk hl => by
      obtain ⟨c, e, dm⟩ := ln_ok hk 0
      refine ⟨rfl, fun a H1 s1 h1 k1 => ⟨a, xs, c, rfl, k1, hl, e, fun p H2 s2 h2 pl => ?_⟩⟩
      exact q p _ _ _ H2 (s1.trans s2) (none_of s1 h2) pl dm
    have g0 := go k_block (by decide)
    have g1 := go k_count (by decide)
    have g2 := go k_deal (by decide)
    have g3 := go k_either (by decide)
    have g4 := go k_uneven (by decide)
    have g5 := go k_paid (by decide)
    have g6 := go k_thrice (by decide)
    clear go q
    rcases (show i = 0 ∨ i = 1 ∨ i = 2 ∨ i = 3 ∨ i = 4 ∨ i = 5 ∨ i = 6 by omega) with rfl | rfl | rfl | rfl | rfl | rfl | rfl
    all_goals clear i0 i6
    all_goals walk_at "rd"
    all_goals walk_at "gg"
theorem Dm.mono {k k' : Nat} {fs ls : List Str} {m : List (Arc × Int)} (h : Dm k fs ls m) (e : k ≤ k') : Dm k' fs ls m := by
  obtain ⟨nm, n1, n2, n3⟩ := h.nm
  exact ⟨h.f0, h.l0, h.fn, h.ln, h.an, h.nd, h.ml, h.lt, nm, by omega, n2, n3⟩
end
section
variable {P : Program} {w : World} {K : PySem.W.Frag} {mg : Str → Option Value} {base : Heap} {Z : Ad}
/-! ### drawn machines -/
def PRC : List Int := [0, 0, 0, 1, 1, 2, 9]
/-- arcs between the names -/
structure Bag (nm : List Str) (m : List (Arc × Int)) : Prop where
  nd : (m.map (·.1)).Nodup
  mem : ∀ a ∈ m, a.1.1 ∈ nm ∧ a.1.2.1 ∈ ABC ∧ a.1.2.2 ∈ nm ∧ a.2 ∈ PRC
def prod3 (nm : List Str) : List Arc := nm.flatMap fun a => ABC.flatMap fun b => nm.map fun c => (a, b, c)
theorem prod3_len (nm : List Str) : (prod3 nm).length = nm.length * (3 * nm.length) := by
  unfold prod3
  have h : ∀ a : Str, (ABC.flatMap fun b => nm.map fun c => ((a, b, c) : Arc)).length = 3 * nm.length := fun a => by
    unfold ABC
    simp only [List.flatMap_cons, List.flatMap_nil, List.length_append, List.length_map, List.length_nil]
    omega
  rw [List.length_flatMap]
  simp only [h]
  rw [List.map_const', List.sum_replicate_nat]
theorem Bag.len {nm : List Str} {m : List (Arc × Int)} (h : Bag nm m) (hn : nm.length ≤ 10) : m.length ≤ 300 := by
  have h1 := nd_sub_len (nm := prod3 nm) h.nd fun k hk => by
    obtain ⟨a, ha, rfl⟩ := List.mem_map.mp hk
    obtain ⟨h1, h2, h3, _⟩ := h.mem a ha
    exact List.mem_flatMap.mpr ⟨_, h1, List.mem_flatMap.mpr ⟨_, h2, List.mem_map.mpr ⟨_, h3, rfl⟩⟩⟩
  rw [List.length_map, prod3_len] at h1
  have h2 : nm.length * (3 * nm.length) ≤ 10 * (3 * 10) := Nat.mul_le_mul hn (Nat.mul_le_mul_left 3 hn)
  omega
theorem Bag.put {nm : List Str} {m : List (Arc × Int)} (h : Bag nm m) {a b c : Str} {i : Int} (ha : a ∈ nm) (hb : b ∈ ABC) (hc : c ∈ nm) (hi : i ∈ PRC) : Bag nm (putA m (a, b, c) i) :=
  ⟨putA_nd h.nd, fun x hx => by
    rcases putA_mem hx with rfl | hx
    · exact ⟨ha, hb, hc, hi⟩
    · exact h.mem x hx⟩
theorem abc_letter : ∀ x ∈ ABC, isLetter (.str x) = true := by decide +kernel
theorem prc_price : ∀ i ∈ PRC, priceB (.int i) = true := by decide +kernel
theorem Bag.dm {nm fs ls : List Str} {m : List (Arc × Int)} {k : Nat} (h : Bag nm m) (hk : nm.length ≤ k) (hk2 : k ≤ 10) (ten : ∀ x ∈ nm, x ∈ TEN) (asc : ascB nm = true) (sf : fs.Sublist nm) (sl : ls.Sublist nm) (f0 : 0 < fs.length) (l0 : 0 < ls.length) : Dm k fs ls m := by
  have nn : ∀ x ∈ nm, isName (.str x) = true := fun x hx => ten_name x (ten x hx)
  refine ⟨f0, l0, names_mk (fun x hx => nn x (sf.subset hx)) (sub_asc asc sf), names_mk (fun x hx => nn x (sl.subset hx)) (sub_asc asc sl), fun a ha => ?_, h.nd, h.len (by omega), fun a ha => (h.mem a ha).2.1, nm, by omega, nn, fun x hx => ?_⟩
  · obtain ⟨h1, h2, h3, h4⟩ := h.mem a ha
    refine ⟨?_, prc_price _ h4⟩
    unfold placeB
    rw [nn _ h1, abc_letter _ h2, nn _ h3]
    rfl
  · rcases List.mem_append.mp hx with hx | hx
    · rcases List.mem_append.mp hx with hx | hx
      · exact sf.subset hx
      · exact sl.subset hx
    · unfold innA at hx
      obtain ⟨a, ha, hx⟩ := List.mem_flatMap.mp hx
      obtain ⟨h1, h2, h3, h4⟩ := h.mem a ha
      rcases List.mem_cons.mp hx with rfl | hx
      · exact h1
      · rw [List.mem_singleton.mp hx]
        exact h3
def spDrawnM : Sp := fun vs H Q _ => ∃ (d : Addr) (x y z : Int) (k n : Nat), vs = [.ref d, .int (k : Int), .int (n : Int)] ∧ H d = some (.lst [.int x, .int y, .int z]) ∧ 1 ≤ k ∧ k ≤ 10 ∧ 1 ≤ n ∧ n ≤ 3 ∧
  ∀ p fs ls m H', Dk d H H' → H p = none → p ≠ d → PlO H' p fs ls m → Dm k fs ls m → Q (.ref p) H'
theorem ok_drawn_machine (D : Ds K mg Z) (B : Bt mg) (C0 : Cs mg) : FnOk P w K mg base CX0 4 Z.a_drawn_machine Z.d_drawn_machine P_drawn_machine spDrawnM := by
  have G_roll := ok_roll (P := P) (w := w) (base := base) D B
  have G_pick := ok_pick (P := P) (w := w) (base := base) D B
  have G_some := ok_some (P := P) (w := w) (base := base) D B C0
  have G_state_names := ok_state_names (P := P) (w := w) (base := base) D B C0
  obtain ⟨⟨t_LIMIT, c_LIMIT⟩, ⟨t_ALPHABET, c_ALPHABET⟩, ⟨t_MAX_LETTERS, c_MAX_LETTERS⟩, ⟨t_MAX_STATES, c_MAX_STATES⟩, ⟨t_MAX_PRICE, c_MAX_PRICE⟩, ⟨t_FIRST, c_FIRST⟩, ⟨t_LAST, c_LAST⟩, ⟨t_ARC, c_ARC⟩⟩ := C0
  refine D.drawn_machine.F.ok sc_drawn_machine (fun vs H Q E h => ?_) (fun cdv A outer s H vs Q E hr h => ?_)
  · obtain ⟨d, x, y, z, k, n, rfl, _⟩ := h
    rfl
  · obtain ⟨d, x, y, z, k, n, rfl, hd, k1, k10, n1, n3, q⟩ := h
    refine ⟨_, (pss_cons (ps_set (i := 3) sc_drawn_machine.nd rfl (Or.inl rfl) (pe_df D.state_names G_state_names (hr.mono (by decide)) (by rfl) (pa_cons (pv 0) (pa_cons (pe_op op_add pe_int (pe_df D.roll G_roll (hr.mono (by decide)) (by rfl) (pa_cons (pv 0) (pa_cons (pv 1) pa_nil)))) pa_nil))))
    (pss_cons (ps_par (i := 4) (j := 5) (by rfl) sc_drawn_machine.nd rfl rfl (by decide) rfl rfl (pa_cons (pe_slice (sl_listK (K := K) rfl) (pe_lst (pa_cons pe_str (pa_cons pe_str (pa_cons pe_str pa_nil)))) po_none (po_some (pe_op op_add pe_int (pe_df D.roll G_roll (hr.mono (by decide)) (by rfl) (pa_cons (pv 0) (pa_cons (pv 2) pa_nil)))))) (pa_cons pe_dnewT pa_nil)) (by rfl))
    (pss_cons (ps_for PassesOwn.never rfl (pi_listK (K := K) rfl (pv 3)) (pg_name (i := 6) sc_drawn_machine.nd rfl (Or.inl rfl))
      (pss_one (ps_for PassesOwn.never rfl (pi_listK (K := K) rfl (pv 4)) (pg_name (i := 7) sc_drawn_machine.nd rfl (Or.inl rfl))
      (pss_one (ps_for PassesOwn.never rfl (pi_listK (K := K) rfl (pv 3)) (pg_name (i := 8) sc_drawn_machine.nd rfl (Or.inl rfl))
      (pss_one (ps_if (pt_cmpR op_eq (pe_df D.roll G_roll (hr.mono (by decide)) (by rfl) (pa_cons (pv 0) (pa_cons (pe_op op_add pe_int (pe_callTy call_intB (by rfl) B.int (by decide +kernel) (pa_cons (pe_cmpR op_gt (pe_callB call_lenM (by rfl) B.len (by decide +kernel) (pa_cons (pv 3) pa_nil)) pe_int (nomark _)) pa_nil))) pa_nil))) pe_int (nomark _)) (pss_one (ps_dput (hu_of hr) (pv 5) (pe_tup (pa_cons (pv 6) (pa_cons (pv 7) (pa_cons (pv 8) pa_nil)))) (pe_df D.pick G_pick (hr.mono (by decide)) (by rfl) (pa_cons (pv 0) (pa_cons (pe_lst (pa_cons pe_int (pa_cons pe_int (pa_cons pe_int (pa_cons pe_int (pa_cons pe_int (pa_cons pe_int (pa_cons pe_int pa_nil)))))))) pa_nil))) rfl)) pss_nil)))))))
    (pss_one (ps_ret (pe_disp (pps_cons pe_str (pe_df D.some G_some (hr.mono (by decide)) (by rfl) (pa_cons (pv 0) (pa_cons (pv 3) pa_nil))) (pps_cons pe_str (pe_df D.some G_some (hr.mono (by decide)) (by rfl) (pa_cons (pv 0) (pa_cons (pv 3) pa_nil))) (pps_cons pe_str (pv 5) pps_nil))) (by rfl) (by rfl) (fun z => by cases z) (by decide))))))), ?_⟩
    walk_at "rd"
    refine ⟨d, x, y, z, _, rfl, hd, by omega, Nat.lt_of_lt_of_le (log2_of (k := 10) (by omega) (by decide)) (by decide), fun r x1 y1 z1 r0 r1 => ?_⟩
    walk_at "rd"
    refine ⟨d, x1, y1, z1, (1 + r).toNat, by rw [Int.toNat_of_nonneg (by omega)], upd_same, by omega, fun pn nm H1 dk1 npd hpn nl ten asc hnm => ?_⟩
    replace dk1 := (Dk.roll (A := H) x1 y1 z1).trans dk1
    replace hpn := (Dk.roll (A := H) x1 y1 z1).none npd hpn
    walk_at "gg"
    refine ⟨by decide, fun p0 h0 => ?_⟩
    obtain ⟨x2, y2, z2, hd2⟩ := dk1.2
    have np0 : p0 ≠ d := Dk.ne hd2 h0
    have e0 := Same.new (o := HO.lst (ABC.map V.str)) h0
    have dk2 := dk1.same e0
    have hp0 : upd H1 p0 (HO.lst (ABC.map V.str)) p0 = some (.lst (ABC.map V.str)) := upd_same
    replace hnm := e0 _ _ hnm
    refine ⟨d, x2, y2, z2, _, rfl, e0 _ _ hd2, by omega, Nat.lt_of_lt_of_le (log2_of (k := 10) (by omega) (by decide)) (by decide), fun r2 x3 y3 z3 r20 r21 => ?_⟩
    have dk3 := dk2.trans (Dk.roll x3 y3 z3)
    have hp3 : upd (upd H1 p0 (HO.lst (ABC.map V.str))) d (HO.lst [.int x3, .int y3, .int z3]) p0 = some (.lst (ABC.map V.str)) := by rw [upd_ne np0]; exact hp0
    have hn3 : upd (upd H1 p0 (HO.lst (ABC.map V.str))) d (HO.lst [.int x3, .int y3, .int z3]) pn = some (.lst (nm.map V.str)) := by rw [upd_ne npd]; exact hnm
    refine ⟨r2, rfl, ?_⟩
    change rSlL _ _ _ _ (upd (upd H1 p0 (HO.lst (ABC.map V.str))) d (HO.lst [.int x3, .int y3, .int z3])) _
    generalize upd (upd H1 p0 (HO.lst (ABC.map V.str))) d (HO.lst [.int x3, .int y3, .int z3]) = H3 at dk3 hp3 hn3 ⊢
    refine ⟨p0, _, rfl, SqL.of hp3, fun ps hps => ?_⟩
    have ec : cutV (ABC.map V.str) none (some (1 + r2)) = (ABC.take (1 + r2).toNat).map V.str := by
      rw [show (1 + r2 : Int) = (((1 + r2).toNat : Nat) : Int) by omega, cut_take, List.map_take, Int.toNat_natCast]
    rw [ec]
    have sgl : ∀ x ∈ ABC.take (1 + r2).toNat, x ∈ ABC := fun x hx => List.mem_of_mem_take hx
    have sgn : (ABC.take (1 + r2).toNat).length ≤ 3 := by rw [List.length_take]; exact Nat.min_le_right _ _
    generalize ABC.take (1 + r2).toNat = sg at sgl sgn ⊢
    have e4 := Same.new (o := HO.lst (sg.map V.str)) hps
    have hs4 : upd H3 ps (HO.lst (sg.map V.str)) ps = some (.lst (sg.map V.str)) := upd_same
    have dk4 := dk3.same e4
    have hn4 := e4 _ _ hn3
    have nps : ps ≠ d := Dk.ne dk3.2.choose_spec.choose_spec.choose_spec hps
    generalize upd H3 ps (HO.lst (sg.map V.str)) = H4 at e4 hs4 dk4 hn4 ⊢
    walk_at "rd"
    intro pa hpa
    have npa : pa ≠ d := Dk.ne dk4.2.choose_spec.choose_spec.choose_spec hpa
    have hpa0 := dk4.none npa hpa
    have e5 := Same.new (o := HO.dT []) hpa
    have dk5 := dk4.same e5
    have hn5 := e5 _ _ hn4
    have hs5 := e5 _ _ hs4
    have ha5 : upd H4 pa (HO.dT []) pa = some (.dT (encA [])) := upd_same
    have nap : pa ≠ pn := fun e => by rw [e, hn4] at hpa; cases hpa
    have nas : pa ≠ ps := fun e => by rw [e, hs4] at hpa; cases hpa
    generalize upd H4 pa (HO.dT []) = H5 at e5 dk5 hn5 hs5 ha5 ⊢
    clear e4 e5 e0 dk1 dk2 dk3 dk4 hn3 hn4 hp0 hp3 hs4 hnm hd2 hps hpa h0 ec
    have nl10 : nm.length ≤ 10 := by omega
    have nl1 : 1 ≤ nm.length := by omega
    have nlk : nm.length ≤ k := by omega
    clear nl r0 r1 r20 r21
    walk_at "go"
    refine ⟨⟨_, SqL.of hn5⟩, ?_⟩
    obtain ⟨Pv, hP⟩ := inv_bi (fun (_ : Unit) (σ : St) (H' : Hp) => ∃ (m : List (Arc × Int)) (o6 o7 o8 : Option V), σ = [some (.ref d), some (.int (k : Int)), some (.int (n : Int)), some (.ref pn), some (.ref ps), some (.ref pa), o6, o7, o8] ∧ Dk d H H' ∧ H' pn = some (.lst (nm.map V.str)) ∧ H' ps = some (.lst (sg.map V.str)) ∧ H' pa = some (.dT (encA m)) ∧ Bag nm m)
    have lnm : (nm.map V.str).length = nm.length := List.length_map ..
    have lsg : (sg.map V.str).length = sg.length := List.length_map ..
    have sqn : ∀ σ H', Pv () σ H' → SqL K H' pn (nm.map V.str) := fun σ H' h => by obtain ⟨_, _, _, _, _, _, e, _⟩ := (hP _ _ _).mp h; exact SqL.of e
    have sqs : ∀ σ H', Pv () σ H' → SqL K H' ps (sg.map V.str) := fun σ H' h => by obtain ⟨_, _, _, _, _, _, _, e, _⟩ := (hP _ _ _).mp h; exact SqL.of e
    refine loop_it (walk_list (K := K) (a := pn) (xs := nm.map V.str)) (fun _ => Pv ()) ((hP _ _ _).mpr ⟨[], _, _, _, rfl, dk5, hn5, hs5, ha5, ⟨.nil, fun a h => by cases h⟩⟩) (fun i σ H' _ h => sqn σ H' h) (fun i x σ H6 H7 hi hpv y => ?_) (fun σ H6 hpv => ?_)
    · obtain ⟨m, o6, o7, o8, rfl, dk6, hn6, hs6, ha6, bag⟩ := (hP _ _ _).mp hpv
      obtain ⟨rfl, hx⟩ := y
      obtain ⟨s1, hs1, rfl⟩ := List.mem_map.mp (List.mem_of_getElem? hx)
      walk_at "rd"
      refine later ?_
      walk_at "rd"
      refine ⟨⟨_, SqL.of hs6⟩, ?_⟩
      have up : ∀ (o6 o7 o8 : Option V) (m : List (Arc × Int)) (H' : Hp), Dk d H H' → H' pn = some (.lst (nm.map V.str)) → H' ps = some (.lst (sg.map V.str)) → H' pa = some (.dT (encA m)) → Bag nm m → Pv () [some (.ref d), some (.int (k : Int)), some (.int (n : Int)), some (.ref pn), some (.ref ps), some (.ref pa), o6, o7, o8] H' := fun o6 o7 o8 m H' h1 h2 h3 h4 h5 => (hP _ _ _).mpr ⟨m, o6, o7, o8, rfl, h1, h2, h3, h4, h5⟩
      clear hP hpv sqn sqs
      obtain ⟨Pw, hW⟩ := inv_bi (fun (_ : Unit) (σ : St) (H' : Hp) => ∃ (m : List (Arc × Int)) (o7 o8 : Option V), σ = [some (.ref d), some (.int (k : Int)), some (.int (n : Int)), some (.ref pn), some (.ref ps), some (.ref pa), some (.str s1), o7, o8] ∧ Dk d H H' ∧ H' pn = some (.lst (nm.map V.str)) ∧ H' ps = some (.lst (sg.map V.str)) ∧ H' pa = some (.dT (encA m)) ∧ Bag nm m)
      refine loop_it (walk_list (K := K) (a := ps) (xs := sg.map V.str)) (fun _ => Pw ()) ((hW _ _ _).mpr ⟨m, o7, o8, rfl, dk6, hn6, hs6, ha6, bag⟩) (fun i σ H' _ h => by obtain ⟨_, _, _, _, _, _, e, _⟩ := (hW _ _ _).mp h; exact SqL.of e) (fun i x σ H8 H9 hi hpw y => ?_) (fun σ H8 hpw => by obtain ⟨m, o7, o8, rfl, h1, h2, h3, h4, h5⟩ := (hW _ _ _).mp hpw; exact up _ _ _ m H8 h1 h2 h3 h4 h5)
      clear up dk6 hn6 hs6 ha6 bag
      obtain ⟨m, o7, o8, rfl, dk6, hn6, hs6, ha6, bag⟩ := (hW _ _ _).mp hpw
      obtain ⟨rfl, hx2⟩ := y
      obtain ⟨s2, hs2, rfl⟩ := List.mem_map.mp (List.mem_of_getElem? hx2)
      walk_at "rd"
      refine later ?_
      walk_at "rd"
      refine ⟨⟨_, SqL.of hn6⟩, ?_⟩
      have up : ∀ (o7 o8 : Option V) (m : List (Arc × Int)) (H' : Hp), Dk d H H' → H' pn = some (.lst (nm.map V.str)) → H' ps = some (.lst (sg.map V.str)) → H' pa = some (.dT (encA m)) → Bag nm m → Pw () [some (.ref d), some (.int (k : Int)), some (.int (n : Int)), some (.ref pn), some (.ref ps), some (.ref pa), some (.str s1), o7, o8] H' := fun o7 o8 m H' h1 h2 h3 h4 h5 => (hW _ _ _).mpr ⟨m, o7, o8, rfl, h1, h2, h3, h4, h5⟩
      clear hW hpw
      obtain ⟨Pu, hU⟩ := inv_bi (fun (_ : Unit) (σ : St) (H' : Hp) => ∃ (m : List (Arc × Int)) (o8 : Option V), σ = [some (.ref d), some (.int (k : Int)), some (.int (n : Int)), some (.ref pn), some (.ref ps), some (.ref pa), some (.str s1), some (.str s2), o8] ∧ Dk d H H' ∧ H' pn = some (.lst (nm.map V.str)) ∧ H' ps = some (.lst (sg.map V.str)) ∧ H' pa = some (.dT (encA m)) ∧ Bag nm m)
      refine loop_it (walk_list (K := K) (a := pn) (xs := nm.map V.str)) (fun _ => Pu ()) ((hU _ _ _).mpr ⟨m, o8, rfl, dk6, hn6, hs6, ha6, bag⟩) (fun i σ H' _ h => by obtain ⟨_, _, _, _, e, _⟩ := (hU _ _ _).mp h; exact SqL.of e) (fun i x σ H10 H11 hi hpu y => ?_) (fun σ H10 hpu => by obtain ⟨m, o8, rfl, h1, h2, h3, h4, h5⟩ := (hU _ _ _).mp hpu; exact up _ _ m H10 h1 h2 h3 h4 h5)
      clear up dk6 hn6 hs6 ha6 bag
      obtain ⟨m, o8, rfl, dk6, hn6, hs6, ha6, bag⟩ := (hU _ _ _).mp hpu
      obtain ⟨rfl, hx3⟩ := y
      obtain ⟨s3, hs3, rfl⟩ := List.mem_map.mp (List.mem_of_getElem? hx3)
      have up : ∀ (o8 : Option V) (m : List (Arc × Int)) (H' : Hp), Dk d H H' → H' pn = some (.lst (nm.map V.str)) → H' ps = some (.lst (sg.map V.str)) → H' pa = some (.dT (encA m)) → Bag nm m → Pu () [some (.ref d), some (.int (k : Int)), some (.int (n : Int)), some (.ref pn), some (.ref ps), some (.ref pa), some (.str s1), some (.str s2), o8] H' := fun o8 m H' h1 h2 h3 h4 h5 => (hU _ _ _).mpr ⟨m, o8, rfl, h1, h2, h3, h4, h5⟩
      clear hU hpu
      obtain ⟨x4, y4, z4, hd4⟩ := dk6.2
      walk_at "rd"
      refine later ?_
      walk_at "rd"
      have hb : 0 < (2 + (if decide (2 < (nm.length : Int)) = true then 1 else 0) : Int) ∧ (2 + (if decide (2 < (nm.length : Int)) = true then 1 else 0) : Int) ≤ 3 := by split <;> exact ⟨by decide, by decide⟩
      generalize (2 + (if decide (2 < (nm.length : Int)) = true then 1 else 0) : Int) = rr at hb ⊢
      refine ⟨d, x4, y4, z4, _, rfl, hd4, hb.1, Nat.lt_of_lt_of_le (log2_of (k := 10) (by omega) (by decide)) (by decide), fun r3 x5 y5 z5 r30 r31 => ⟨rfl, ?_⟩⟩
      have dk7 := dk6.trans (Dk.roll x5 y5 z5)
      have hn7 : upd H11 d (HO.lst [.int x5, .int y5, .int z5]) pn = some (.lst (nm.map V.str)) := by rw [upd_ne npd]; exact hn6
      have hs7 : upd H11 d (HO.lst [.int x5, .int y5, .int z5]) ps = some (.lst (sg.map V.str)) := by rw [upd_ne nps]; exact hs6
      have ha7 : upd H11 d (HO.lst [.int x5, .int y5, .int z5]) pa = some (.dT (encA m)) := by rw [upd_ne npa]; exact ha6
      have hd7 : upd H11 d (HO.lst [.int x5, .int y5, .int z5]) d = some (.lst [.int x5, .int y5, .int z5]) := upd_same
      generalize upd H11 d (HO.lst [.int x5, .int y5, .int z5]) = H12 at dk7 hn7 hs7 ha7 hd7 ⊢
      refine ite2 (fun h => ?_) (fun h => ?_)
      · refine later ?_
        walk_at "rd"
        refine ⟨by decide, fun pp hpp => ?_⟩
        have e8 := Same.new (o := HO.lst (PRC.map V.int)) hpp
        have dk8 := dk7.same e8
        have npp := Dk.ne hd7 hpp
        refine ⟨d, x5, y5, z5, _, PRC.map V.int, rfl, e8 _ _ hd7, .inl ⟨pp, rfl, npp, upd_same⟩, by decide, by decide, fun v hv x6 y6 z6 => ?_⟩
        obtain ⟨iv, hiv, rfl⟩ := List.mem_map.mp hv
        have dk9 := dk8.trans (Dk.roll x6 y6 z6)
        have hn9 : upd (upd H12 pp (HO.lst (PRC.map V.int))) d (HO.lst [.int x6, .int y6, .int z6]) pn = some (.lst (nm.map V.str)) := by rw [upd_ne npd]; exact e8 _ _ hn7
        have hs9 : upd (upd H12 pp (HO.lst (PRC.map V.int))) d (HO.lst [.int x6, .int y6, .int z6]) ps = some (.lst (sg.map V.str)) := by rw [upd_ne nps]; exact e8 _ _ hs7
        have ha9 : upd (upd H12 pp (HO.lst (PRC.map V.int))) d (HO.lst [.int x6, .int y6, .int z6]) pa = some (.dT (encA m)) := by rw [upd_ne npa]; exact e8 _ _ ha7
        walk_at "rd"
        refine ⟨by decide, fun pt hpt => ?_⟩
        have eA := Same.new (o := HO.tup [.str s1, .str s2, .str s3]) hpt
        have ml := bag.len nl10
        refine ⟨_, DPut.t (k := key3 (s1, s2, s3)) (eA _ _ ha9) upd_same ?_, up _ (putA m (s1, s2, s3) iv) _ ((dk9.same eA).lay hpa0 npa) ?_ ?_ ?_ (bag.put hs1 (sgl _ hs2) hs3 hiv)⟩
        · unfold encA
          rw [List.length_map]
          exact Nat.lt_of_le_of_lt ml (by decide)
        · rw [upd_ne nap.symm]
          exact eA _ _ hn9
        · rw [upd_ne nas.symm]
          exact eA _ _ hs9
        · rw [upd_same, put_enc]
      · refine later ?_
        exact up _ m _ dk7 hn7 hs7 ha7 bag
    · obtain ⟨m, o6, o7, o8, rfl, dk6, hn6, hs6, ha6, bag⟩ := (hP _ _ _).mp hpv
      clear hP sqn sqs hpv dk5 hn5 hs5 ha5
      obtain ⟨x4, y4, z4, hd4⟩ := dk6.2
      have okn : ∀ x ∈ nm, PyData.strOk x = true := fun x hx => name_ok (ten_name x (ten x hx))
      walk_at "gg"
      intro p hp
      have npp := Dk.ne hd4 hp
      have hp0 := dk6.none npp hp
      have e7 := Same.new (o := HO.dK []) hp
      have dk7 := dk6.same e7
      have hp7 := upd_same (H := H6) (a := p) (o := HO.dK [])
      refine ⟨d, pn, x4, y4, z4, nm, rfl, e7 _ _ hd4, npd, e7 _ _ hn6, by omega, by omega, okn, fun pf fs H8 dk8 npf hpf sf f0 hf => ?_⟩
      obtain ⟨x5, y5, z5, hd8⟩ := dk8.2
      refine ⟨d, pn, x5, y5, z5, nm, rfl, hd8, npd, dk8.1 _ _ npd (e7 _ _ hn6), by omega, by omega, okn, fun pl ls H9 dk9 npl hpl sl l0 hl => ?_⟩
      have hp9 := dk9.1 _ _ npp (dk8.1 _ _ npp hp7)
      have ha9 := dk9.1 _ _ npa (dk8.1 _ _ npa (e7 _ _ ha6))
      have hf9 := dk9.1 _ _ npf hf
      refine ⟨hp9, [(.inr kF, .ref pf), (.inr kL, .ref pl), (.inr kA, .ref pa)], rfl, Nat.le_of_ble_eq_true rfl, ?_⟩
      rw [merge3]
      refine q p fs ls m _ (((dk7.trans dk8).trans dk9).lay hp0 npp) hp0 npp ⟨pf, pl, pa, upd_same, ?_, ?_, ?_⟩ (bag.dm nlk k10 ten asc sf sl f0 l0)
      · rw [upd_ne (fun e => by rw [e, hp9] at hf9; cases hf9)]
        exact hf9
      · rw [upd_ne (fun e => by rw [e, hp9] at hl; cases hl)]
        exact hl
      · rw [upd_ne (fun e => by rw [e, hp9] at ha9; cases ha9)]
        exact ha9
def spAny : Sp := fun vs H Q _ => ∃ (d : Addr) (x y z : Int) (k n : Nat), vs = [.ref d, .int (k : Int), .int (n : Int)] ∧ H d = some (.lst [.int x, .int y, .int z]) ∧ 1 ≤ k ∧ k ≤ 10 ∧ 1 ≤ n ∧ n ≤ 3 ∧
  ∀ p fs ls m H', Dk d H H' → H p = none → p ≠ d → PlO H' p fs ls m → Dm k fs ls m → Q (.ref p) H'
theorem ok_any_machine (D : Ds K mg Z) (B : Bt mg) (C0 : Cs mg) : FnOk P w K mg base CX0 5 Z.a_any_machine Z.d_any_machine P_any_machine spAny := by
  have G_roll := ok_roll (P := P) (w := w) (base := base) D B
  have G_written := ok_written (P := P) (w := w) (base := base) D B C0
  have G_drawn_machine := ok_drawn_machine (P := P) (w := w) (base := base) D B C0
  obtain ⟨⟨t_LIMIT, c_LIMIT⟩, ⟨t_ALPHABET, c_ALPHABET⟩, ⟨t_MAX_LETTERS, c_MAX_LETTERS⟩, ⟨t_MAX_STATES, c_MAX_STATES⟩, ⟨t_MAX_PRICE, c_MAX_PRICE⟩, ⟨t_FIRST, c_FIRST⟩, ⟨t_LAST, c_LAST⟩, ⟨t_ARC, c_ARC⟩⟩ := C0
  refine D.any_machine.F.ok sc_any_machine (fun vs H Q E h => ?_) (fun cdv A outer s H vs Q E hr h => ?_)
  · obtain ⟨d, x, y, z, k, n, rfl, _⟩ := h
    rfl
  · obtain ⟨d, x, y, z, k, n, rfl, hd, k1, k10, n1, n3, q⟩ := h
    refine ⟨_, (pss_cons (ps_if (pt_cmpR op_eq (pe_df D.roll G_roll (hr.mono (by decide)) (by rfl) (pa_cons (pv 0) (pa_cons pe_int pa_nil))) pe_int (nomark _)) (pss_one (ps_ret (pe_df D.written G_written (hr.mono (by decide)) (by rfl) (pa_cons (pe_df D.roll G_roll (hr.mono (by decide)) (by rfl) (pa_cons (pv 0) (pa_cons pe_int pa_nil))) pa_nil)))) pss_nil)
    (pss_one (ps_ret (pe_df D.drawn_machine G_drawn_machine (hr.mono (by decide)) (by rfl) (pa_cons (pv 0) (pa_cons (pv 1) (pa_cons (pv 2) pa_nil))))))), ?_⟩
    walk_at "rd"
    refine ⟨d, x, y, z, _, rfl, hd, by decide, by decide, fun r x1 y1 z1 r0 r1 => ⟨rfl, ?_⟩⟩
    have dk1 := Dk.roll (d := d) (A := H) x1 y1 z1
    have hd1 : upd H d (HO.lst [.int x1, .int y1, .int z1]) d = some (.lst [.int x1, .int y1, .int z1]) := upd_same
    generalize upd H d (HO.lst [.int x1, .int y1, .int z1]) = H1 at dk1 hd1 ⊢
    refine ite2 (fun h => ?_) (fun h => ?_)
    · refine later ?_
      walk_at "rd"
      refine ⟨d, x1, y1, z1, _, rfl, hd1, by decide, by decide, fun r2 x2 y2 z2 r20 r21 => ⟨r2, rfl, r20, by omega, fun p fs ls m H' e hp pl dm => ?_⟩⟩
      have dk2 := dk1.trans (Dk.roll x2 y2 z2)
      have np : p ≠ d := Dk.ne upd_same hp
      exact q p fs ls m H' (dk2.same e) (dk2.none np hp) np pl (dm.mono (Nat.zero_le _))
    · walk_at "gg"
      exact ⟨d, x1, y1, z1, k, n, rfl, hd1, k1, k10, n1, n3, fun p fs ls m H' dk hp np pl dm => q p fs ls m H' (dk1.trans dk) (dk1.none np hp) np pl dm⟩
end
section
/-! ### what is left of a text -/
theorem tw_lt {f : Nat → Bool} : ∀ {l : List Nat}, (∃ c ∈ l, f c = false) → (l.takeWhile f).length < l.length
  | [], h => by obtain ⟨_, h, _⟩ := h; cases h
  | c :: l, h => by
    rw [List.takeWhile_cons]
    cases hc : f c with
    | false => simp
    | true =>
      obtain ⟨d, hd, e⟩ := h
      have ih := tw_lt (l := l) ⟨d, by
        rcases List.mem_cons.mp hd with rfl | hd
        · rw [hc] at e
          cases e
        · exact hd, e⟩
      simp only [if_true, List.length_cons]
      omega
theorem tw_drop {f : Nat → Bool} : ∀ {l : List Nat}, (∃ c ∈ l, f c = false) → ∃ c ∈ l.drop (l.takeWhile f).length, f c = false
  | [], h => by obtain ⟨_, h, _⟩ := h; cases h
  | c :: l, h => by
    rw [List.takeWhile_cons]
    cases hc : f c with
    | false => exact ⟨c, by simp, hc⟩
    | true =>
      obtain ⟨d, hd, e⟩ := h
      have ih := tw_drop (l := l) ⟨d, by
        rcases List.mem_cons.mp hd with rfl | hd
        · rw [hc] at e
          cases e
        · exact hd, e⟩
      simpa using ih
theorem tw_all {f : Nat → Bool} : ∀ {l : List Nat}, (∀ c ∈ l, f c = true) → l.takeWhile f = l
  | [], _ => rfl
  | c :: l, h => by
    rw [List.takeWhile_cons, if_pos (h c List.mem_cons_self), tw_all fun d hd => h d (List.mem_cons_of_mem _ hd)]
theorem str_empty {x : Str} (h : x.cps.size = 0) : x = Str.empty := by
  obtain ⟨a⟩ := x
  have : a = #[] := Array.eq_empty_of_size_eq_zero h
  rw [this]
  rfl
theorem strip_all {x y : Str} (h : ∀ c ∈ x.cps.toList, y.cps.contains c = true) : Txt.stripChars x y = Str.empty := by
  have e1 : PySem.stripLo y.cps.contains true x = x.cps.size := by
    show (x.cps.toList.takeWhile y.cps.contains).length = _
    rw [tw_all h, Array.length_toList]
  have e2 : PySem.stripHi y.cps.contains true x x.cps.size = x.cps.size := by
    show x.length - ((x.cps.toList.drop x.cps.size).reverse.takeWhile y.cps.contains).length = _
    rw [List.drop_of_length_le (by rw [Array.length_toList]; exact Nat.le_refl _)]
    rfl
  unfold Txt.stripChars Txt.stripBy
  by_cases z : x.cps.size = 0
  · rw [if_pos (by unfold PySem.stripSame; rw [e1, e2, z]; simp; exact z.symm)]
    exact str_empty z
  · rw [if_neg (by unfold PySem.stripSame; rw [e1, e2]; simp only [Bool.and_eq_true, beq_iff_eq]; exact fun h => z h.1)]
    unfold PySem.stripped
    rw [e1, e2]
    refine str_empty ?_
    show (x.cps.extract x.cps.size x.cps.size).size = 0
    simp
theorem strip_some {x y : Str} (h : ∃ c ∈ x.cps.toList, y.cps.contains c = false) : Txt.stripChars x y ≠ Str.empty := by
  have l1 := tw_lt h
  have l2 := tw_lt (f := y.cps.contains) (l := (x.cps.toList.drop (x.cps.toList.takeWhile y.cps.contains).length).reverse) (by
    obtain ⟨c, h1, h2⟩ := tw_drop h
    exact ⟨c, List.mem_reverse.mpr h1, h2⟩)
  have hn : x.cps.toList.length = x.cps.size := Array.length_toList
  rw [List.length_reverse, List.length_drop, hn] at l2
  rw [hn] at l1
  have key : ∀ z : Str, 0 < z.cps.size → z ≠ Str.empty := fun z hz e => by
    rw [e] at hz
    exact Nat.lt_irrefl _ hz
  unfold Txt.stripChars Txt.stripBy
  refine key _ ?_
  by_cases g : PySem.stripSame y.cps.contains true true x = true
  · rw [if_pos g]
    omega
  · rw [if_neg g]
    unfold PySem.stripped
    show 0 < (x.cps.extract (x.cps.toList.takeWhile y.cps.contains).length (x.cps.size - ((x.cps.toList.drop (x.cps.toList.takeWhile y.cps.contains).length).reverse.takeWhile y.cps.contains).length)).size
    rw [Array.size_extract]
    omega
theorem strip_spelt (x : Str) : decide (Txt.stripChars x alpha = Str.empty) = spelt (.str x) := by
  have e : spelt (.str x) = x.cps.toList.all fun c => alpha.cps.contains c := by
    show (x.cps.toList.all fun c => decide (c ∈ alpha.cps.toList)) = _
    congr 1
    funext c
    rw [← Array.contains_toList, List.contains_eq_mem]
  rw [e]
  cases h : x.cps.toList.all fun c => alpha.cps.contains c with
  | true =>
    rw [List.all_eq_true] at h
    exact decide_eq_true (strip_all h)
  | false =>
    rw [List.all_eq_false] at h
    obtain ⟨c, h1, h2⟩ := h
    exact decide_eq_false (strip_some ⟨c, h1, by simpa using h2⟩)
end
section
variable {P : Program} {w : World} {K : PySem.W.Frag} {mg : Str → Option Value} {base : Heap} {Z : Ad}
/-! ### what the law says of names and ends -/
theorem ok_is_nameL (D : Ds K mg Z) (B : Bt mg) (C0 : Cs mg) : FnOk P w K mg base CX0 1 Z.a_is_nameL Z.d_is_nameL P_is_nameL (sp1 K isName) := by
  obtain ⟨⟨t_LIMIT, c_LIMIT⟩, ⟨t_ALPHABET, c_ALPHABET⟩, ⟨t_MAX_LETTERS, c_MAX_LETTERS⟩, ⟨t_MAX_STATES, c_MAX_STATES⟩, ⟨t_MAX_PRICE, c_MAX_PRICE⟩, ⟨t_FIRST, c_FIRST⟩, ⟨t_LAST, c_LAST⟩, ⟨t_ARC, c_ARC⟩⟩ := C0
  refine D.is_nameL.F.ok sc_is_nameL (fun vs H Q E h => ?_) (fun cdv A outer s H vs Q E hr h => ?_)
  · obtain ⟨v, rfl, _⟩ := h
    rfl
  · obtain ⟨v, rfl, ⟨⟨t, p⟩, hl⟩, q⟩ := h
    refine ⟨_, (pss_one (ps_ret (pe_and (pe_callB (call_isiK' (K := K) rfl) (by rfl) B.isinstance (by decide +kernel) (pa_cons (pv 0) (pa_cons (pe_bltn (v := .ty "str") (by rfl) B.str (by decide +kernel) rfl) pa_nil))) (pe_and (pe_cmpR op_eq (pe_sm PySem.F.plainAttrs_str PySem.F.slot_str_strip PySem.F.type_str_strip mt_stripChars (pv 0) (pa_cons pe_str pa_nil)) pe_str (nomark _)) (pe_one (pe_chain op_le op_le pe_int (pe_callB call_len_str (by rfl) B.len (by decide +kernel) (pa_cons (pv 0) pa_nil)) pe_int)))))), ?_⟩
    have q2 := q H (Same.refl _)
    clear q
    walk_at "rd"
    refine rd_isi p (isi_str p) ?_
    cases p with
    | str x =>
      rw [show isiB "str" "str" = true from rfl]
      have q3 : Q (.bl (spelt (.str x) && (decide (1 ≤ x.length) && decide (x.length ≤ 8)))) H := q2
      rw [← strip_spelt] at q3
      clear q2
      have hz : x.length ≤ sizeLine := Nat.le_trans hl (by decide)
      walk_at "rd"
      have ee : Str.ofString "" = Str.empty := by rfl
      rw [ee, show Str.ofString "abcdefghijklmnopqrstuvwxyz" = alpha from rfl]
      by_cases hs : Txt.stripChars x alpha = Str.empty
      · rw [decide_eq_true hs, Bool.true_and] at q3
        rw [if_pos (decide_eq_true hs)]
        by_cases h1 : 1 ≤ x.length
        · rw [decide_eq_true h1, Bool.true_and] at q3
          rw [if_pos (decide_eq_true (by omega)), decide_eq_decide.mpr (show ((x.length : Int) ≤ 8 ↔ x.length ≤ 8) by omega)]
          exact q3
        · rw [decide_eq_false h1, Bool.false_and] at q3
          rw [if_neg (by rw [decide_eq_true_eq]; omega)]
          exact q3
      · rw [decide_eq_false hs, Bool.false_and] at q3
        rw [if_neg (by rw [decide_eq_true_eq]; exact hs)]
        exact q3
    | _ =>
      walk_at "rd"
      rw [if_neg (by decide)]
      exact q2
theorem asc_eq {zs ys : List Str} (so : Sorted ys zs) : ascB zs = decide (zs = ys) := by
  cases h : ascB zs with
  | true =>
    refine (decide_eq_true (pw_unique zs ys ((pw_asc h).imp fun {a b} e => ?_) (sorted_pw so.up) (asc_nd h) so.nd fun k => (so.mem k).symm)).symm
    unfold ltS at e
    rw [decide_eq_true_eq] at e
    exact List.lt_asymm e
  | false =>
    refine (decide_eq_false fun e => ?_).symm
    rw [e] at h
    have ha : ascB ys = true := asc_pw ((List.Pairwise.and (sorted_pw so.up) so.nd).imp fun {a b} z => lt_of_le_ne (by
      unfold leS
      rw [decide_eq_true_eq]
      exact List.not_lt.mp z.1) z.2)
    rw [ha] at h
    cases h
theorem eqvAll_strs : ∀ xs ys : List Str, PyData.eqvAll (xs.map .str) (ys.map .str) = decide (xs = ys)
  | [], [] => rfl
  | [], y :: ys => rfl
  | x :: xs, [] => rfl
  | x :: xs, y :: ys => by
    rw [List.map_cons, List.map_cons, PyData.eqvAll, eqvAll_strs xs ys, PyData.eqv]
    by_cases h : x = y
    · subst h
      by_cases h2 : xs = ys
      · subst h2
        simp
      · simp [h2]
    · rw [beq_false_of_ne h]
      simp [h]
theorem eq_strs {xs ys : List Str} : PyData.eqv (.list (xs.map .str)) (.list (ys.map .str)) = decide (xs = ys) := by
  rw [PyData.eqv, eqvAll_strs]
theorem shaped_lst {xs : List Str} (h : ∀ x ∈ xs, PyData.strOk x = true) : SeqAt.shaped (.list (xs.map .str)) = true := by
  unfold SeqAt.shaped
  simp only [PyData.canLay0, PyData.canLayAll0, PyData.depth, PyData.depthAll, lays xs h, deps, Bool.and_true, Bool.true_and, Bool.and_self]
  try decide
theorem ok_are_endsL (D : Ds K mg Z) (B : Bt mg) (C0 : Cs mg) : FnOk P w K mg base CX0 2 Z.a_are_endsL Z.d_are_endsL P_are_endsL (spEndsO K) := by
  have G_is_nameL := ok_is_nameL (P := P) (w := w) (base := base) D B C0
  obtain ⟨⟨t_LIMIT, c_LIMIT⟩, ⟨t_ALPHABET, c_ALPHABET⟩, ⟨t_MAX_LETTERS, c_MAX_LETTERS⟩, ⟨t_MAX_STATES, c_MAX_STATES⟩, ⟨t_MAX_PRICE, c_MAX_PRICE⟩, ⟨t_FIRST, c_FIRST⟩, ⟨t_LAST, c_LAST⟩, ⟨t_ARC, c_ARC⟩⟩ := C0
  refine D.are_endsL.F.ok sc_are_endsL (fun vs H Q E h => ?_) (fun cdv A outer s H vs Q E hr h => ?_)
  · obtain ⟨v, o, rfl, _⟩ := h
    rfl
  · obtain ⟨v, o, rfl, hv, q⟩ := h
    refine ⟨_, (pss_cons (ps_if (PW.pt (pw_or (pt_not (pt_val (pe_callB (call_isiK' (K := K) rfl) (by rfl) B.isinstance (by decide +kernel) (pa_cons (pv 0) (pa_cons (pe_bltn (v := .ty "tuple") (by rfl) B.tuple (by decide +kernel) rfl) pa_nil))))) (pw_or (pt_cmpR (op_eqE0 (K := K) rfl hr.units) (pv 0) (pe_tup pa_nil) (nomark _)) (pw_or1 (pt_cmpR (op_neE0 (K := K) rfl hr.units) (pe_lc (own := [("_law_name", 1)]) (g := gName 1) rfl sc_are_endsL.nd (pi_tupK (K := K) rfl (pv 0)) (blkOk_by (N := N_are_endsL) (sc := defScope s_are_endsL) (by decide +kernel)) (fun _ _ _ _ _ => (pg_name (i := 1) sc_are_endsL.nd rfl (Or.inl rfl))) (fun _ _ _ _ _ => (pts_one (pt_not (pt_val (pe_df D.is_nameL G_is_nameL (hr.mono (by decide)) (by rfl) (pa_cons (pv 1) pa_nil)))))) (fun _ _ _ _ _ => (pv 1))) (pe_lst pa_nil) (nomark _)))))) (pss_one (ps_ret pe_bl)) pss_nil)
    (pss_one (ps_ret (pe_cmpR (op_eqK (K := K) rfl hr.units) (pe_callTy call_list_of (by rfl) B.list (by decide +kernel) (pa_cons (pv 0) pa_nil)) (pe_callB (cr_sortT rfl) (by rfl) B.sorted (by decide +kernel) (pa_cons (pe_callTy (LP.cr_setTx (K := K) (w := w) rfl rfl rfl) (by rfl) B.set (by decide +kernel) (pa_cons (pv 0) pa_nil)) pa_nil)) (nomark _))))), ?_⟩
    walk_at "rd"
    cases hv with
    | @no v t p ht =>
      refine rd_isi p (isi_tuple p) ?_
      have e : isiB t "tuple" = false := by
        unfold isiB
        rw [beq_eq_false_iff_ne.mpr ht]
        simp
      rw [e]
      have q2 := q H (Same.refl _)
      clear e q
      walk_at "rd"
      exact q2
    | @tup a xs hp hl pl hx =>
      refine rd_isi (.tup hp) (isi_tuple (K := K) (H := H) (.tup hp)) ?_
      rw [show isiB "tuple" "tuple" = true from rfl]
      walk_at "rd"
      have qq : ∀ H', Same H H' → Q (.bl (xs.all isName && ascB (strsV xs) && !xs.isEmpty)) H' := q
      clear q
      refine ⟨Nat.zero_le _, fun p1 hp1 => ?_⟩
      have s1 := Same.new (o := HO.tup []) hp1
      have hp2 := s1 _ _ hp
      refine ⟨a, p1, xs, rfl, rfl, .inr ⟨SqT.of hp2, SqT.of upd_same⟩, ?_⟩
      replace pl := pl.same s1
      generalize upd H p1 (HO.tup []) = H1 at s1 hp2 pl ⊢
      clear hp1
      refine ⟨_, rfl, ?_⟩
      cases xs with
      | nil =>
        have q2 := qq H1 s1
        clear qq
        rw [if_pos (show ([] : List V).isEmpty = true from rfl)]
        walk_at "gg"
        exact q2
      | cons x0 r0 =>
      rw [if_neg (fun z => by cases z)]
      have he : (!(x0 :: r0).isEmpty) = true := rfl
      rw [he, Bool.and_true] at qq
      generalize x0 :: r0 = xs at *
      refine ⟨⟨_, SqT.of hp2⟩, ?_⟩
      refine lc_pureW (walk_tup (xs := xs)) (fun H2 e2 => SqT.of (e2 _ _ hp2)) (by omega) (fun x => !isName x) (fun x => x) (fun _ => rfl) ?_ ?_ ?_
      · intro x hx1 H2 e2 R hR
        obtain ⟨t, px⟩ := pl x hx1
        have lx := hx x hx1
        have ok : OkV K H2 x := ⟨⟨t, px.same e2⟩, lx⟩
        walk_at "rd"
        exact ⟨_, rfl, ok, fun H3 e3 => ⟨_, rfl, hR H3 e3⟩⟩
      · intro x hx1 hf H2 e2 R hR
        have hR2 := hR H2 (Same.refl _)
        walk_at "rd"
        done
      · intro l H2 hl1 e2 hl2
        refine ⟨Nat.zero_le _, fun p2 hp3 => ?_⟩
        have e3 := Same.new (o := HO.lst []) hp3
        have hl3 := e3 _ _ hl2
        have hq3 := e3 _ _ (e2 _ _ hp2)
        refine ⟨l, p2, _, rfl, rfl, .inl ⟨SqL.of hl3, SqL.of upd_same⟩, ?_⟩
        replace e2 := (s1.trans e2).trans e3
        generalize upd H2 p2 (HO.lst []) = H3 at hl3 hq3 e2 ⊢
        clear e3 hp3 hl2 hl1
        refine ⟨_, rfl, ?_⟩
        rw [List.map_id']
        cases hA : xs.all isName with
        | false =>
          have q2 := qq H3 e2
          rw [hA, Bool.false_and] at q2
          have hf : (!(xs.filter fun x => !isName x).isEmpty) = true := by
            rw [List.all_eq_false] at hA
            obtain ⟨x, h1, h2⟩ := hA
            have hm : x ∈ xs.filter fun x => !isName x := List.mem_filter.mpr ⟨h1, by simpa using h2⟩
            cases hfl : xs.filter fun x => !isName x with
            | nil => rw [hfl] at hm; cases hm
            | cons y ys => rfl
          rw [if_pos hf]
          clear qq hf hA
          walk_at "gg"
          done
        | true =>
          have hf : (xs.filter fun x => !isName x) = [] := List.filter_eq_nil_iff.mpr fun x hx => by
            rw [List.all_eq_true.mp hA x hx]
            decide
          rw [hf, if_neg (by decide)]
          have es := names_strs hA
          have q2 := fun H' e => qq H' (e2.trans e)
          rw [hA, Bool.true_and] at q2
          have ok : ∀ x ∈ strsV xs, PyData.strOk x = true := fun x hx => by
            have hm : V.str x ∈ xs := by
              rw [es]
              exact List.mem_map.mpr ⟨x, hx, rfl⟩
            exact name_ok (List.all_eq_true.mp hA _ hm)
          clear qq hf e2 pl hx hA hl3
          revert hp hl hp2 hq3 q2 ok
          rw [es]
          have eI : strsV ((strsV xs).map V.str) = strsV xs := by rw [← es]
          rw [eI]
          generalize strsV xs = zs
          clear es eI
          intro hp hl hp2 hq3 q2 ok
          walk_at "gg"
          refine ⟨zs.map V.str, .inr (SqT.of hq3), fun l1 h1 => ?_⟩
          have e4 := Same.new (o := HO.lst (zs.map V.str)) h1
          have hq4 := e4 _ _ hq3
          have hl1 : upd H3 l1 (HO.lst (zs.map V.str)) l1 = some (.lst (zs.map V.str)) := upd_same
          generalize upd H3 l1 (HO.lst (zs.map V.str)) = H4 at e4 hq4 hl1 ⊢
          clear h1
          have lz : (zs.map V.str).length = zs.length := List.length_map ..
          refine ⟨zs, .inr (SqT.of hq4), Nat.lt_of_le_of_lt (show zs.length + 1 ≤ 1001 by omega) (by decide), fun p3 h3 => ?_⟩
          have e5 := Same.new (o := TxS w p3 zs) h3
          have hl2 := e5 _ _ hl1
          refine ⟨p3, zs, rfl, upd_same, fun ys p4 so h4 => ?_⟩
          have e6 := Same.new (o := HO.lst (ys.map V.str)) h4
          have hl3 := e6 _ _ hl2
          have q3 := q2 _ ((e4.trans e5).trans e6)
          rw [asc_eq so, ← eq_strs] at q3
          exact ⟨.list (zs.map .str), .list (ys.map .str), .lst (SqL.of (e6 _ _ hl2)) (dps zs), .lst (SqL.of upd_same) (dps ys), shaped_lst ok, shaped_lst fun x hx => ok x ((so.mem x).mp hx), q3⟩
end
section
variable {P : Program} {w : World} {K : PySem.W.Frag} {mg : Str → Option Value} {base : Heap} {Z : Ad}
open LPMX
/-! ### what the law says of arcs -/
theorem price_int (i : Int) : priceB (.int i) = (decide (0 ≤ i) && decide (i ≤ 9)) := by
  unfold priceB
  by_cases h : 0 ≤ i ∧ i ≤ 9
  · have e : isInt (.int i) = true := by
      unfold isInt
      rw [Bool.and_eq_true, decide_eq_true_eq, decide_eq_true_eq]
      have : (9 : Int) < 10 ^ 60 := by decide
      omega
    rw [e]
    rfl
  · have e : (decide (0 ≤ i) && decide (i ≤ 9)) = false := by
      rw [Bool.and_eq_false_iff, decide_eq_false_iff_not, decide_eq_false_iff_not]
      omega
    rw [show withinB (.int i) 0 9 = (decide (0 ≤ i) && decide (i ≤ 9)) from rfl, e, Bool.and_false]
theorem letter_of {v : V} (h : isName v = true) : isLetter v = decide (lenV v = 1) := by
  unfold isName at h
  unfold isLetter
  rw [(Bool.and_eq_true_iff.mp h).1, Bool.true_and]
def spArc (K : PySem.W.Frag) : Sp := fun vs H Q _ => ∃ (v pr : V) (o : Option (List V)) (t : String), vs = [v, pr] ∧ Vl K H v o ∧ Pl K H pr t ∧ ∀ H', Same H H' → Q (.bl (placeO o && priceB pr)) H'
theorem ok_is_arc (D : Ds K mg Z) (B : Bt mg) (C0 : Cs mg) : FnOk P w K mg base CX0 2 Z.a_is_arc Z.d_is_arc P_is_arc (spArc K) := by
  have G_is_nameL := ok_is_nameL (P := P) (w := w) (base := base) D B C0
  obtain ⟨⟨t_LIMIT, c_LIMIT⟩, ⟨t_ALPHABET, c_ALPHABET⟩, ⟨t_MAX_LETTERS, c_MAX_LETTERS⟩, ⟨t_MAX_STATES, c_MAX_STATES⟩, ⟨t_MAX_PRICE, c_MAX_PRICE⟩, ⟨t_FIRST, c_FIRST⟩, ⟨t_LAST, c_LAST⟩, ⟨t_ARC, c_ARC⟩⟩ := C0
  refine D.is_arc.F.ok sc_is_arc (fun vs H Q E h => ?_) (fun cdv A outer s H vs Q E hr h => ?_)
  · obtain ⟨v, pr, o, t, rfl, _⟩ := h
    rfl
  · obtain ⟨v, pr, o, tp, rfl, hv, hpr, q⟩ := h
    refine ⟨_, (pss_cons (ps_if (PW.pt (pw_or (pt_not (pt_val (pe_callB (call_isiK' (K := K) rfl) (by rfl) B.isinstance (by decide +kernel) (pa_cons (pv 0) (pa_cons (pe_bltn (v := .ty "tuple") (by rfl) B.tuple (by decide +kernel) rfl) pa_nil))))) (pw_or (pt_cmpR op_ne (pe_callB call_lenT (by rfl) B.len (by decide +kernel) (pa_cons (pv 0) pa_nil)) pe_int (nomark _)) (pw_or1 (pt_cmpR (op_neE0 (K := K) rfl hr.units) (pe_lc (own := [("_law_one", 2)]) (g := gName 2) rfl sc_is_arc.nd (pi_tupK (K := K) rfl (pv 0)) (blkOk_by (N := N_is_arc) (sc := defScope s_is_arc) (by decide +kernel)) (fun _ _ _ _ _ => (pg_name (i := 2) sc_is_arc.nd rfl (Or.inl rfl))) (fun _ _ _ _ _ => (pts_one (pt_not (pt_val (pe_df D.is_nameL G_is_nameL (hr.mono (by decide)) (by rfl) (pa_cons (pv 2) pa_nil)))))) (fun _ _ _ _ _ => (pv 2))) (pe_lst pa_nil) (nomark _)))))) (pss_one (ps_ret pe_bl)) pss_nil)
    (pss_one (ps_ret (pe_and (pe_cmpR op_eq (pe_callB call_len_str (by rfl) B.len (by decide +kernel) (pa_cons (pe_ix ix_TM (pv 0) pe_int (fun _ _ => rfl)) pa_nil)) pe_int (nomark _)) (pe_and (pe_callB (call_isiK' (K := K) rfl) (by rfl) B.isinstance (by decide +kernel) (pa_cons (pv 1) (pa_cons (pe_bltn (v := .ty "int") (by rfl) B.int (by decide +kernel) rfl) pa_nil))) (pe_and (pe_not (pe_callB (call_isiK' (K := K) rfl) (by rfl) B.isinstance (by decide +kernel) (pa_cons (pv 1) (pa_cons (pe_bltn (v := .ty "bool") (by rfl) B.bool (by decide +kernel) rfl) pa_nil)))) (pe_one (pe_chain op_le op_le pe_int (pv 1) pe_int)))))))), ?_⟩
    walk_at "rd"
    cases hv with
    | @no v t p ht =>
      refine rd_isi p (isi_tuple p) ?_
      have e : isiB t "tuple" = false := by
        unfold isiB
        rw [beq_eq_false_iff_ne.mpr ht]
        simp
      rw [e]
      have q2 := q H (Same.refl _)
      clear e q
      walk_at "rd"
      exact q2
    | @tup a xs hp hl pl hx =>
      refine rd_isi (.tup hp) (isi_tuple (K := K) (H := H) (.tup hp)) ?_
      rw [show isiB "tuple" "tuple" = true from rfl]
      walk_at "rd"
      by_cases h3 : xs.length = 3
      · match xs, h3 with
        | [x, y, z], _ =>
          have qq : ∀ H', Same H H' → Q (.bl ((isName x && (isLetter y && isName z)) && priceB pr)) H' := q
          clear q
          walk_at "rd"
          walk_at "gg"
          rw [if_neg (by simp)]
          refine ⟨⟨_, SqT.of hp⟩, ?_⟩
          refine lc_pureW (walk_tup (xs := [x, y, z])) (fun H2 e2 => SqT.of (e2 _ _ hp)) (by show 3 ≤ 1000000; decide) (fun x => !isName x) (fun x => x) (fun _ => rfl) ?_ ?_ ?_
          · intro x1 hx1 H2 e2 R hR
            obtain ⟨t, px⟩ := pl x1 hx1
            have lx := hx x1 hx1
            have ok : OkV K H2 x1 := ⟨⟨t, px.same e2⟩, lx⟩
            clear pl hx qq
            walk_at "rd"
            exact ⟨_, rfl, ok, fun H3 e3 => ⟨_, rfl, hR H3 e3⟩⟩
          · intro x1 hx1 hf H2 e2 R hR
            have hR2 := hR H2 (Same.refl _)
            clear pl hx qq
            walk_at "rd"
          · intro l H2 hl1 e2 hl2
            refine ⟨Nat.zero_le _, fun p2 hp3 => ?_⟩
            have e3 := Same.new (o := HO.lst []) hp3
            have hl3 := e3 _ _ hl2
            have hq3 := e3 _ _ (e2 _ _ hp)
            refine ⟨l, p2, _, rfl, rfl, .inl ⟨SqL.of hl3, SqL.of upd_same⟩, ?_⟩
            replace e2 := e2.trans e3
            generalize upd H2 p2 (HO.lst []) = H3 at hl3 hq3 e2 ⊢
            clear e3 hp3 hl2 hl1
            refine ⟨_, rfl, ?_⟩
            rw [List.map_id']
            have hpr3 := hpr.same e2
            have q2 := qq H3 e2
            clear qq
            cases hA : [x, y, z].all isName with
            | false =>
              have hf : (!([x, y, z].filter fun x => !isName x).isEmpty) = true := by
                rw [List.all_eq_false] at hA
                obtain ⟨v, h1, h2⟩ := hA
                have hm : v ∈ [x, y, z].filter fun x => !isName x := List.mem_filter.mpr ⟨h1, by simpa using h2⟩
                cases hfl : [x, y, z].filter fun x => !isName x with
                | nil => rw [hfl] at hm; cases hm
                | cons y ys => rfl
              have hz : ((isName x && (isLetter y && isName z)) && priceB pr) = false := by
                have h1 : (isName x && (isName y && (isName z && true))) = false := hA
                have h2 : isLetter y = true → isName y = true := fun h => by
                  unfold isLetter at h
                  obtain ⟨h1, h2⟩ := Bool.and_eq_true_iff.mp h
                  unfold isName
                  rw [h1, of_decide_eq_true h2]
                  decide
                cases hx : isName x with
                | false => rfl
                | true =>
                  cases hy : isLetter y with
                  | false => rfl
                  | true =>
                    cases hz : isName z with
                    | false => rfl
                    | true =>
                      rw [hx, h2 hy, hz] at h1
                      cases h1
              rw [hz] at q2
              rw [if_pos hf]
              clear hf hA
              walk_at "gg"
              done
            | true =>
              have hf : ([x, y, z].filter fun x => !isName x) = [] := List.filter_eq_nil_iff.mpr fun v hv => by
                rw [List.all_eq_true.mp hA v hv]
                decide
              rw [hf, if_neg (by decide)]
              have hN := List.all_eq_true.mp hA
              have n1 := hN x (by simp)
              have n2 := hN y (by simp)
              have n3 := hN z (by simp)
              rw [n1, letter_of n2, n3, Bool.true_and, Bool.and_true] at q2
              obtain ⟨yy, rfl⟩ : ∃ yy, y = .str yy := by
                cases y with
                | str x => exact ⟨x, rfl⟩
                | _ => exact Bool.noConfusion (show false = true from n2)
              have ly := hx (.str yy) (by simp)
              clear hf hA hN n1 n2 n3 pl hx hl3
              walk_at "gg"
              have q3 : Q (.bl (decide (yy.length = 1) && priceB pr)) H3 := q2
              refine ⟨Nat.le_trans (show yy.length ≤ 1000000 from ly) (by decide), ?_⟩
              by_cases h1 : yy.length = 1
              · rw [decide_eq_true h1, Bool.true_and] at q3
                rw [if_pos (decide_eq_true (by omega))]
                refine rd_isi hpr3 (isi_int hpr3) ?_
                refine ⟨_, rfl, ?_⟩
                cases hpr3 with
                | int i =>
                  rw [if_pos (by decide)]
                  refine rd_isi (K := K) (.int i) (isi_bool (K := K) (H := H3) (.int i)) ?_
                  refine ⟨_, rfl, ?_⟩
                  rw [if_pos (by decide)]
                  refine ⟨i, rfl, ?_⟩
                  rw [price_int] at q3
                  by_cases h0 : 0 ≤ i
                  · rw [decide_eq_true h0, Bool.true_and] at q3
                    rw [if_pos (decide_eq_true h0)]
                    exact ⟨i, rfl, q3⟩
                  · rw [decide_eq_false h0, Bool.false_and] at q3
                    rw [if_neg (by rw [decide_eq_true_eq]; exact h0)]
                    exact q3
                | bl b =>
                  rw [if_pos (by decide)]
                  refine rd_isi (K := K) (.bl b) (isi_bool (K := K) (H := H3) (.bl b)) ?_
                  refine ⟨_, rfl, ?_⟩
                  rw [if_neg (by decide)]
                  exact q3
                | _ =>
                  rw [if_neg (by decide)]
                  exact q3
              · rw [decide_eq_false h1, Bool.false_and] at q3
                rw [if_neg (by rw [decide_eq_true_eq]; omega)]
                exact q3
      · rw [placeO_len h3, Bool.false_and] at q
        have q2 := q H (Same.refl _)
        clear q
        walk_at "rd"
        walk_at "gg"
        rw [if_pos (by rw [Bool.not_eq_true', decide_eq_false_iff_not]; omega)]
        walk_at "gg"
theorem arcs_rangeN (ks : List (NestedKey × V)) : ((List.range ks.length).all fun i => !(!arcAt ks i)) = ks.all arcB := by
  have e : (List.range ks.length).map (arcAt ks) = ks.map arcB := by
    refine List.ext_getElem? fun i => ?_
    rw [List.getElem?_map, List.getElem?_map]
    by_cases hi : i < ks.length
    · rw [List.getElem?_range hi]
      have e := List.getElem?_eq_getElem hi
      simp only [arcAt, e, Option.map_some]
    · rw [List.getElem?_eq_none (by rw [List.length_range]; omega), List.getElem?_eq_none (by omega)]
      rfl
  have e2 : ((List.range ks.length).map (arcAt ks)).all id = (ks.map arcB).all id := by rw [e]
  rw [List.all_map, List.all_map] at e2
  rw [show (fun i => !(!arcAt ks i)) = (id ∘ arcAt ks) from by funext i; exact Bool.not_not _]
  exact e2
theorem catA_any {H : Hp} {a b : Addr} {xs ys : List V} {Q : VK} (ha : H a = some (.tup xs)) (hb : H b = some (.tup ys)) (l : xs.length + ys.length ≤ 4000) (q : ∀ c H', Same H H' → H' c = some (.tup (xs ++ ys)) → Q (.ref c) H') : rCatA K (.ref a) (.ref b) H Q := by
  refine ⟨a, b, xs, ys, rfl, rfl, SqT.of ha, SqT.of hb, Nat.le_trans l (by decide), fun e => ?_, fun _ e => ?_, fun _ _ p hp => q p _ (Same.new hp) upd_same⟩
  · exact q b H (Same.refl _) (by rw [e]; exact hb)
  · exact q a H (Same.refl _) (by rw [e, List.append_nil]; exact ha)
def spLet (w : World) (K : PySem.W.Frag) : Sp := fun vs H Q _ => ∃ (f l d : V) (fo lo : Option (List V)) (ao : Option (List (NestedKey × V))), vs = [f, l, d] ∧ Vl K H f fo ∧ Vl K H l lo ∧ Ar w K H d ao ∧ ∀ H', Same H H' → Q (.bl (partsB fo lo ao)) H'
theorem ok_is_let (D : Ds K mg Z) (B : Bt mg) (C0 : Cs mg) : FnOk P w K mg base CX0 3 Z.a_is_let Z.d_is_let P_is_let (spLet w K) := by
  have G_are_endsL := ok_are_endsL (P := P) (w := w) (base := base) D B C0
  have G_is_arc := ok_is_arc (P := P) (w := w) (base := base) D B C0
  obtain ⟨⟨t_LIMIT, c_LIMIT⟩, ⟨t_ALPHABET, c_ALPHABET⟩, ⟨t_MAX_LETTERS, c_MAX_LETTERS⟩, ⟨t_MAX_STATES, c_MAX_STATES⟩, ⟨t_MAX_PRICE, c_MAX_PRICE⟩, ⟨t_FIRST, c_FIRST⟩, ⟨t_LAST, c_LAST⟩, ⟨t_ARC, c_ARC⟩⟩ := C0
  refine D.is_let.F.ok sc_is_let (fun vs H Q E h => ?_) (fun cdv A outer s H vs Q E hr h => ?_)
  · obtain ⟨f, l, d, fo, lo, ao, rfl, _⟩ := h
    rfl
  · obtain ⟨f, l, d, fo, lo, ao, rfl, hf, hl, hd, q⟩ := h
    refine ⟨_, (pss_cons (ps_if (PW.pt (pw_or (pt_not (pt_val (pe_df D.are_endsL G_are_endsL (hr.mono (by decide)) (by rfl) (pa_cons (pv 0) pa_nil)))) (pw_or (pt_not (pt_val (pe_df D.are_endsL G_are_endsL (hr.mono (by decide)) (by rfl) (pa_cons (pv 1) pa_nil)))) (pw_or1 (pt_not (pt_val (pe_callB (LPMX.call_isiN (w := w) (K := K) rfl rfl) (by rfl) B.isinstance (by decide +kernel) (pa_cons (pv 2) (pa_cons (pe_bltn (v := .ty "dict") (by rfl) B.dict (by decide +kernel) rfl) pa_nil))))))))) (pss_one (ps_ret pe_bl)) pss_nil)
    (pss_cons (ps_if (pt_cmpR (op_neE0 (K := K) rfl hr.units) (pe_lock (pe_lc (own := [("_law_place", 3)]) (g := gName 3) rfl sc_is_let.nd (LPMX.pi_keysN (w := w) rfl (pv 2)) (blkOk_by (N := N_is_let) (sc := defScope s_is_let) (by decide +kernel)) (fun _ _ _ _ _ => (pg_name (i := 3) sc_is_let.nd rfl (Or.inl rfl))) (fun _ _ _ _ _ => (pts_one (pt_not (pt_val (pe_df D.is_arc G_is_arc (hr.mono (by decide)) (by rfl) (pa_cons (pv 3) (pa_cons (LPMX.pe_dgetN (w := w) rfl hr.units (pv 2) (pv 3) (fun _ _ => rfl)) pa_nil))))))) (fun _ _ _ _ _ => (pv 3)))) (pe_lst pa_nil) (nomark _)) (pss_one (ps_ret pe_bl)) pss_nil)
    (pss_cons (ps_set (i := 4) sc_is_let.nd rfl (Or.inl rfl) (pe_callTy call_list_of (by rfl) B.list (by decide +kernel) (pa_cons (pe_op (op_catAK (K := K) rfl) (pv 0) (pv 1)) pa_nil)))
    (pss_cons (ps_lock (ps_for PassesOwn.never rfl (pi_keys (pv 2)) (pg_tupK (K := K) (n := 3) rfl rfl (pgs_cons (pg_name (i := 5) sc_is_let.nd rfl (Or.inl rfl)) (pgs_cons (pg_name (i := 6) sc_is_let.nd rfl (Or.inl rfl)) (pgs_cons (pg_name (i := 7) sc_is_let.nd rfl (Or.inl rfl)) pgs_nil))))
      (pss_one (ps_set (i := 4) sc_is_let.nd rfl (Or.inl rfl) (pe_op op_cat (pv 4) (pe_lst (pa_cons (pv 5) (pa_cons (pv 7) pa_nil))))))))
    (pss_one (ps_ret (pe_cmpR op_le (pe_callB (cr_lenTx rfl) (by rfl) B.len (by decide +kernel) (pa_cons (pe_callTy (cr_setT rfl) (by rfl) B.set (by decide +kernel) (pa_cons (pv 4) pa_nil)) pa_nil)) pe_int (nomark _)))))))), ?_⟩
    walk_at "rd"
    refine ⟨f, fo, rfl, hf, fun H1 e1 => ?_⟩
    cases hef : endsB fo with
    | false =>
      rw [partsB_f hef] at q
      have q2 := q H1 e1
      walk_at "rd"
      walk_at "gg"
    | true =>
    walk_at "rd"
    refine ⟨l, lo, rfl, hl.same e1, fun H2 e2 => ?_⟩
    replace e2 := e1.trans e2
    cases hel : endsB lo with
    | false =>
      rw [partsB_l hel] at q
      have q2 := q H2 e2
      walk_at "rd"
      walk_at "gg"
    | true =>
    replace hf := hf.same e2
    replace hl := hl.same e2
    replace hd := hd.same e2
    walk_at "rd"
    cases hd with
    | @no v t p ht =>
      refine .inl (rd_isi p (isi_dict p) ?_)
      have e : isiB t "dict" = false := by
        unfold isiB
        rw [beq_eq_false_iff_ne.mpr ht]
        simp
      rw [e]
      have q2 := q H2 e2
      clear e q
      walk_at "rd"
      walk_at "gg"
      exact q2
    | @dct d u ks hd hx hz nd ko pl dt =>
      refine .inr ⟨d, rfl, ks, u, "dict", rfl, .inl hd, hx, true, kit_ty (by decide +kernel), ?_⟩
      walk_at "rd"
      walk_at "gg"
      refine ⟨d, u, hd, hx.mut, fun od => ?_⟩
      have hd1 : upd H2 d (HO.frz od u) d = some (.frz od u) := upd_same
      have hx1 : DctO w (upd H2 d (HO.frz od u)) d ks u := hx.keeps (tk_lock hd hx)
      have pl1 : ∀ p ∈ ks, ∃ t, Pl K (upd H2 d (HO.frz od u)) p.2 t := fun p hp => let ⟨t, q⟩ := pl p hp; ⟨t, pl_lock hd hx q⟩
      walk_at "rd"
      refine ⟨od, u, rfl, ks, hx1, ?_⟩
      refine lc_fil (walk_keysN (w := w) (d := d) (o := od) (ks := ks)) (fun i => !arcAt ks i) (fun H1 e1 => ⟨u, e1 _ _ hd1, hx1.keeps fun b ys hb => e1 _ _ hb⟩) (by omega) ?_ ?_
      · intro i x H3 H4 hi e3 y N R hN hR
        obtain ⟨rfl, k, v, hkv, nk⟩ := y
        have hmem : (k, v) ∈ ks := List.mem_of_getElem? hkv
        have ha : arcAt ks i = (placeO (keyO k) && priceB v) := by
          unfold arcAt
          rw [hkv]
          rfl
        have va : valV ks k = some v := val_nd nd hmem
        have vl := key_vl (K := K) nk (ko _ hmem)
        obtain ⟨t, pv⟩ := pl1 _ hmem
        replace pv := pv.same e3
        have hd3 := e3 _ _ hd1
        have hx3 : DctO w H4 d ks u := hx1.keeps fun b ys hb => e3 _ _ hb
        clear hkv
        walk_at "rd"
        refine ⟨u, .inr ⟨od, hd3⟩, ks, hx3, k, nk, v, va, x, v, _, t, rfl, vl, pv, fun H5 e5 => ⟨_, rfl, ?_⟩⟩
        cases hb : (placeO (keyO k) && priceB v) with
        | false =>
          rw [if_pos (by decide)]
          exact hR x H5 e5 (by rw [ha, hb]; rfl)
        | true =>
          rw [if_neg (by decide)]
          exact hN H5 e5 (by rw [ha, hb]; rfl)
      · intro p ys H3 hp e3 hp2 hys
        rw [arcs_rangeN] at hys
        refine ⟨e3 _ _ hd1, Nat.zero_le _, fun p1 hp1 => ?_⟩
        have npd : p ≠ d := fun e => by rw [e, upd_same] at hp; cases hp
        have sm2 := lock_same hd e3
        have hp3 : upd H3 d u p = some (.lst ys) := by rw [upd_ne npd]; exact hp2
        have e4 := Same.new (o := HO.lst []) hp1
        replace sm2 := sm2.trans e4
        replace hp3 := e4 _ _ hp3
        refine ⟨p, p1, ys, rfl, rfl, .inl ⟨SqL.of hp3, SqL.of upd_same⟩, _, rfl, ?_⟩
        replace hf := hf.same sm2
        replace hl := hl.same sm2
        have hd4 := sm2 _ _ hd
        replace e2 := e2.trans sm2
        generalize upd (upd H3 d u) p1 (HO.lst []) = H4 at sm2 hp3 hf hl hd4 e2 ⊢
        clear hp2 hp hd1 e3 sm2 hx1 pl1 e4 hp1 hp3
        rw [hys]
        have qq : ∀ H', Same H H' → Q (.bl (endsB fo && (endsB lo && (ks.all arcB && decide ((uniq (stsOf fo lo ks)).length ≤ 24))))) H' := q
        rw [hef, hel, Bool.true_and, Bool.true_and] at qq
        cases hA : ks.all arcB with
        | false =>
          rw [hA, Bool.false_and] at qq
          have q2 := qq H4 e2
          clear q qq
          rw [if_pos (by decide)]
          walk_at "gg"
        | true =>
          rw [hA, Bool.true_and] at qq
          rw [if_neg (by decide)]
          obtain ⟨eks, an⟩ := arcs_all hA
          obtain ⟨kvs, eu⟩ := dt fun p hp => (Bool.and_eq_true_iff.mp (show (placeO (keyO p.1) && priceB p.2) = true from List.all_eq_true.mp hA p hp)).1
          subst eu
          have ekv : kvs = encA (arcsOf ks) := by
            rcases hx with ⟨kvs', e1, e2⟩ | ⟨ms, e1, _⟩
            · cases e1
              exact enc_kvs (e2.symm.trans eks)
            · cases e1
          subst ekv
          have lm : (arcsOf ks).length = ks.length := by
            have := congrArg List.length eks
            rw [List.length_map] at this
            exact this.symm
          cases fo with
          | none => cases hef
          | some xs =>
          cases lo with
          | none => cases hel
          | some zs =>
          obtain ⟨ef, f0, fn⟩ := ends_strs hef
          obtain ⟨el, l0, ln⟩ := ends_strs hel
          have qq2 : ∀ H', Same H H' → Q (.bl (decide ((uniq (strsV xs ++ strsV zs ++ innA (arcsOf ks))).length ≤ 24))) H' := qq
          clear q qq hA
          cases hf with
          | @tup f xs' hf hfl _ _ =>
          cases hl with
          | @tup l ys' hl hll _ _ =>
          rw [ef] at hf
          rw [el] at hl
          have lxs := congrArg List.length ef
          have lys := congrArg List.length el
          rw [List.length_map] at lxs lys
          replace hfl : (strsV xs).length ≤ 1000 := by omega
          replace hll : (strsV zs).length ≤ 1000 := by omega
          replace lm : (arcsOf ks).length ≤ 1000 := by omega
          clear ef el eks lxs lys hd hx hz nd ko pl dt an hef hel hys f0 l0 fn ln ys
          generalize strsV xs = fs at *
          generalize strsV zs = ls at *
          generalize arcsOf ks = m at *
          walk_at "gg"
          have lf : (fs.map V.str).length = fs.length := List.length_map ..
          have ll : (ls.map V.str).length = ls.length := List.length_map ..
          refine catA_any hf hl (by omega) fun c H5 e5 h5 => ?_
          rw [← List.map_append] at h5
          refine ⟨c, rfl, (fs ++ ls).map V.str, .inr (SqT.of h5), fun q0 hq0 => ?_⟩
          have e6 := Same.new (o := HO.lst ((fs ++ ls).map V.str)) hq0
          have h6 : upd H5 q0 (HO.lst ((fs ++ ls).map V.str)) q0 = some (.lst ((fs ++ ls).map V.str)) := upd_same
          have hd6 := (e5.trans e6) _ _ hd4
          have qq3 : ∀ H', Same (upd H5 q0 (HO.lst ((fs ++ ls).map V.str))) H' → Q (.bl (decide ((uniq (fs ++ ls ++ innA m)).length ≤ 24))) H' := fun H' e => qq2 H' ((e2.trans (e5.trans e6)).trans e)
          have nqd : q0 ≠ d := fun e => by rw [e, e5 _ _ hd4] at hq0; cases hq0
          generalize upd H5 q0 (HO.lst ((fs ++ ls).map V.str)) = H6 at h6 hd6 qq3 ⊢
          clear e2 e5 e6 h5 hq0 hd4 qq2 hf hl
          have lfs : ((fs ++ ls).map V.str).length = fs.length + ls.length := by rw [List.length_map, List.length_append]
          walk_at "go"
          refine ⟨d, _, hd6, trivial, fun od2 => ?_⟩
          walk_at "rd"
          refine ⟨od2, .inr ⟨_, rfl, ?_⟩⟩
          have hd7 : upd H6 d (HO.frz od2 (HO.dT (encA m))) d = some (.frz od2 (.dT (encA m))) := upd_same
          have h7 : upd H6 d (HO.frz od2 (HO.dT (encA m))) q0 = some (.lst ((fs ++ ls).map V.str)) := by rw [upd_ne nqd]; exact h6
          have le : (encA m).length = m.length := List.length_map ..
          obtain ⟨Pv, hP⟩ := inv_bi (fun (i : Nat) (σ : St) (H' : Hp) => ∃ (q1 : Addr) (o5 o6 o7 : Option V), σ = [some (.ref f), some (.ref l), some (.ref d), none, some (.ref q1), o5, o6, o7] ∧ Same (upd H6 d (HO.frz od2 (HO.dT (encA m)))) H' ∧ H' q1 = some (.lst ((fs ++ ls ++ innA (m.take i)).map V.str)))
          refine loop_it (walk_keysT (d := d) (o := od2) (kvs := encA m)) Pv ((hP _ _ _).mpr ⟨q0, _, _, _, rfl, Same.refl _, by rw [List.take_zero, show innA ([] : List (Arc × Int)) = [] from rfl, List.append_nil]; exact h7⟩) (fun i σ H' _ h => by obtain ⟨_, _, _, _, _, h, _⟩ := (hP _ _ _).mp h; exact h _ _ hd7) (fun i x σ H3 H4 hi hpv y => ?_) (fun σ H3 hpv => ?_)
          · obtain ⟨q1, o5, o6, o7, rfl, s3, h3⟩ := (hP _ _ _).mp hpv
            obtain ⟨rfl, k, v, p, hkv, rfl, hp⟩ := y
            have hm : i < m.length := by omega
            have ek : (encA m)[i]? = some (key3 m[i].1, .int m[i].2) := by
              unfold encA
              rw [List.getElem?_map, List.getElem?_eq_getElem hm]
              rfl
            rw [ek] at hkv
            cases hkv
            have et : m.take (i + 1) = m.take i ++ [m[i]] := by rw [List.take_add_one, List.getElem?_eq_getElem hm]; rfl
            have ei : innA (m.take (i + 1)) = innA (m.take i) ++ [m[i].1.1, m[i].1.2.2] := by
              rw [et]
              unfold innA
              rw [List.flatMap_append]
              rfl
            have fin : ∀ q2 o5 o6 o7 H', Same H4 H' → H' q2 = some (.lst ((fs ++ ls ++ innA (m.take i)).map V.str ++ [.str m[i].1.1, .str m[i].1.2.2])) → Pv (i + 1) [some (.ref f), some (.ref l), some (.ref d), none, some (.ref q2), o5, o6, o7] H' := fun q2 o5 o6 o7 H' s h => (hP _ _ _).mpr ⟨q2, o5, o6, o7, rfl, s3.trans s, by rw [h, ei]; simp only [List.map_append, List.append_assoc, List.map_cons, List.map_nil]⟩
            have lin : ((fs ++ ls ++ innA (m.take i)).map V.str).length ≤ 4000 := by
              rw [List.length_map, List.length_append, List.length_append, inn_len, List.length_take]
              omega
            clear hP hpv et ei ek
            generalize (fs ++ ls ++ innA (m.take i)).map V.str = acc at *
            generalize m[i] = a at *
            clear lfs
            walk_at "rd"
            refine ⟨_, SqT.of hp, rfl, _, _, rfl, _, _, rfl, _, _, rfl, rfl, ?_⟩
            walk_at "go"
            exact ⟨by decide, fun p1 hp1 => ⟨acc, Same.new hp1 _ _ h3, Nat.le_trans (show acc.length + 2 ≤ 4002 by omega) (by decide), fun p2 hp2 => fin p2 _ _ _ _ ((Same.new hp1).trans (Same.new hp2)) upd_same⟩⟩
          · obtain ⟨q1, o5, o6, o7, rfl, s3, h3⟩ := (hP _ _ _).mp hpv
            rw [le, List.take_length] at h3
            have sm := lock_same hd6 s3
            refine ⟨s3 _ _ hd7, ?_⟩
            have nq : q1 ≠ d := fun e => by rw [e, s3 _ _ hd7] at h3; cases h3
            have h8 : upd H3 d (HO.dT (encA m)) q1 = some (.lst ((fs ++ ls ++ innA m).map V.str)) := by rw [upd_ne nq]; exact h3
            have q8 := fun H' e => qq3 H' (sm.trans e)
            have l8 : (fs ++ ls ++ innA m).length ≤ 4000 := by rw [List.length_append, List.length_append, inn_len]; omega
            generalize upd H3 d (HO.dT (encA m)) = H8 at h8 q8 ⊢
            generalize fs ++ ls ++ innA m = zs at *
            walk_at "gg"
            refine ⟨q1, zs, rfl, h8, Nat.lt_of_le_of_lt (show zs.length + 1 ≤ 4001 by omega) (by decide), fun p hp => ⟨p, zs, rfl, upd_same, fun ks nd mem => ⟨_, rfl, ?_⟩⟩⟩
            have q9 := q8 _ (Same.new (o := TxS w p zs) hp)
            rw [← nd_len nd mem] at q9
            rw [decide_eq_decide.mpr (show ((ks.length : Int) ≤ 24 ↔ ks.length ≤ 24) by omega)]
            exact q9
def spAgr (w : World) (K : PySem.W.Frag) : Sp := fun vs H Q _ => ∃ (f l d : V) (fo lo : Option (List V)) (ao : Option (List (NestedKey × V))), vs = [f, l, d] ∧ Vl K H f fo ∧ Vl K H l lo ∧ Ar w K H d ao ∧ ∀ H', Same H H' → Q (.bl true) H'
theorem ok_agrees (D : Ds K mg Z) (B : Bt mg) (C0 : Cs mg) (T : Tx K Z) : FnOk P w K mg base CX0 10 Z.a_agrees Z.d_agrees P_agrees (spAgr w K) := by
  have G_is_made := ok_is_made (P := P) (w := w) (base := base) D B C0 T
  have G_is_let := ok_is_let (P := P) (w := w) (base := base) D B C0
  obtain ⟨⟨t_LIMIT, c_LIMIT⟩, ⟨t_ALPHABET, c_ALPHABET⟩, ⟨t_MAX_LETTERS, c_MAX_LETTERS⟩, ⟨t_MAX_STATES, c_MAX_STATES⟩, ⟨t_MAX_PRICE, c_MAX_PRICE⟩, ⟨t_FIRST, c_FIRST⟩, ⟨t_LAST, c_LAST⟩, ⟨t_ARC, c_ARC⟩⟩ := C0
  refine D.agrees.F.ok sc_agrees (fun vs H Q E h => ?_) (fun cdv A outer s H vs Q E hr h => ?_)
  · obtain ⟨f, l, d, fo, lo, ao, rfl, _⟩ := h
    rfl
  · obtain ⟨f, l, d, fo, lo, ao, rfl, hf, hl, hd, q⟩ := h
    refine ⟨_, (pss_one (ps_ret (pe_cmpR op_eq (pe_df D.is_made G_is_made (hr.mono (by decide)) (by rfl) (pa_cons (pv 0) (pa_cons (pv 1) (pa_cons (pv 2) pa_nil)))) (pe_df D.is_let G_is_let (hr.mono (by decide)) (by rfl) (pa_cons (pv 0) (pa_cons (pv 1) (pa_cons (pv 2) pa_nil)))) (nomark _)))), ?_⟩
    walk_at "rd"
    refine ⟨f, l, d, fo, lo, ao, rfl, hf, hl, hd, fun H1 e1 => ?_⟩
    walk_at "rd"
    refine ⟨f, l, d, fo, lo, ao, rfl, hf.same e1, hl.same e1, hd.same e1, fun H2 e2 => ?_⟩
    have q2 := q H2 (e1.trans e2)
    clear q hf hl hd e1 e2
    walk_at "rd"
    done
end
section
variable {P : Program} {w : World} {K : PySem.W.Frag} {mg : Str → Option Value} {base : Heap} {Z : Ad}
open LPMX
/-! ### bent parts -/
/-- objects laid one behind the other -/
structure Lay (H0 : Hp) (es : List HO) (rs : List Addr) (H : Hp) : Prop where
  sm : Same H0 H
  len : rs.length = es.length
  obj : ∀ (j : Nat) r e, rs[j]? = some r → es[j]? = some e → H r = some e
theorem Lay.nil (H : Hp) : Lay H [] [] H := ⟨Same.refl _, rfl, fun j r e h => by simp at h⟩
theorem Lay.same {H0 H H' : Hp} {es : List HO} {rs : List Addr} (h : Lay H0 es rs H) (e : Same H H') : Lay H0 es rs H' := ⟨h.sm.trans e, h.len, fun j r o h1 h2 => e _ _ (h.obj j r o h1 h2)⟩
theorem Lay.new {H0 H : Hp} {es : List HO} {rs : List Addr} {a : Addr} {o : HO} (h : Lay H0 es rs H) (ha : H a = none) : Lay H0 (es ++ [o]) (rs ++ [a]) (upd H a o) := by
  have e := Same.new (o := o) ha
  refine ⟨h.sm.trans e, by rw [List.length_append, List.length_append, h.len]; rfl, fun j r x h1 h2 => ?_⟩
  rw [List.getElem?_append] at h1 h2
  by_cases hj : j < rs.length
  · rw [if_pos hj] at h1
    rw [if_pos (by rw [← h.len]; exact hj)] at h2
    exact e _ _ (h.obj j r x h1 h2)
  · rw [if_neg hj] at h1
    rw [if_neg (by rw [← h.len]; exact hj), ← h.len] at h2
    have h0 : j - rs.length = 0 := by
      have := (List.getElem?_eq_some_iff.mp h1).1
      rw [List.length_singleton] at this
      omega
    rw [h0] at h1 h2
    cases h1
    cases h2
    exact upd_same
theorem pl_dk {H H' : Hp} {d : Addr} (k : Dk d H H') {v : V} {t : String} {x y z : Int} (hd : H d = some (.lst [.int x, .int y, .int z])) (p : Pl K H v t) : Pl K H' v t := by
  cases p with
  | non => exact .non
  | bl b => exact .bl b
  | int i => exact .int i
  | str x => exact .str x
  | @lst a xs h =>
    by_cases e : a = d
    · subst e
      obtain ⟨_, _, _, h2⟩ := k.2
      exact .lst h2
    · exact .lst (k.1 _ _ e h)
  | tup h => exact .tup (k.1 _ _ (fun e => by rw [e, hd] at h; cases h) h)
  | dct h => exact .dct (k.1 _ _ (fun e => by rw [e, hd] at h; cases h) h)
theorem vl_dk {H H' : Hp} {d : Addr} (k : Dk d H H') {v : V} {o : Option (List V)} {x y z : Int} (hd : H d = some (.lst [.int x, .int y, .int z])) (p : Vl K H v o) : Vl K H' v o := by
  cases p with
  | tup h hl p l => exact .tup (k.1 _ _ (fun e => by rw [e, hd] at h; cases h) h) hl (fun x hx => let ⟨t, q⟩ := p x hx; ⟨t, pl_dk k hd q⟩) l
  | no p ht => exact .no (pl_dk k hd p) ht
theorem dct_ne {H : Hp} {d e : Addr} {ks : List (NestedKey × V)} {u : HO} {xs : List V} (x : DctO w H d ks u) (h : H d = some u) (hd : H e = some (.lst xs)) : d ≠ e := fun z => by
  rw [z, hd] at h
  rcases x with ⟨_, e1, _⟩ | ⟨_, e1, _⟩
  · rw [e1] at h
    cases h
  · rw [e1] at h
    cases h
theorem ar_dk {H H' : Hp} {d : Addr} (k : Dk d H H') {v : V} {o : Option (List (NestedKey × V))} {x y z : Int} (hd : H d = some (.lst [.int x, .int y, .int z])) (p : Ar w K H v o) : Ar w K H' v o := by
  cases p with
  | dct h x hz nd ko pl dt => exact .dct (k.1 _ _ (dct_ne x h hd) h) (x.keeps fun b ys hb => k.1 _ _ (fun e => by rw [e, hd] at hb; cases hb) hb) hz nd ko (fun p hp => let ⟨t, q⟩ := pl p hp; ⟨t, pl_dk k hd q⟩) dt
  | no p ht => exact .no (pl_dk k hd p) ht
theorem ends_vl {H : Hp} {f : Addr} {fs : List Str} (h : H f = some (.tup (fs.map V.str))) (hl : fs.length ≤ 1000) (l : ∀ x ∈ fs, x.length ≤ 1000000) : Vl K H (.ref f) (some (fs.map V.str)) :=
  .tup h (by rw [List.length_map]; exact hl) (fun v hv => by obtain ⟨x, _, rfl⟩ := List.mem_map.mp hv; exact ⟨_, .str x⟩) fun v hv => by obtain ⟨x, hx, rfl⟩ := List.mem_map.mp hv; exact l x hx
/-- what may stand in a dict of tuple keys -/
structure KvOk (K : PySem.W.Frag) (H : Hp) (n : Nat) (kvs : List (List Key × V)) : Prop where
  len : kvs.length ≤ n
  nd : (kvs.map (·.1)).Nodup
  ko : ∀ p ∈ kvs, KOk (nkT p.1)
  pl : ∀ p ∈ kvs, ∃ t, Pl K H p.2 t
theorem ko_strs (ks : List Key) (h1 : ks.length ≤ 1000) (h2 : ∀ k ∈ ks, ∀ x, k = .inr x → x.length ≤ 1000000) : KOk (nkT ks) := fun xs e => by
  rw [keyO_nkT] at e
  cases e
  refine ⟨by rw [List.length_map]; exact h1, fun v hv => ?_⟩
  obtain ⟨k, hk, rfl⟩ := List.mem_map.mp hv
  cases k with
  | inl i => exact Nat.zero_le _
  | inr x => exact h2 _ hk x rfl
theorem mem_putK {kvs : List (List Key × V)} {k : List Key} {v : V} {p : List Key × V} (h : p ∈ putK kvs k v) : p ∈ kvs ∨ p = (k, v) := by
  unfold putK at h
  split at h
  · obtain ⟨q, hq, rfl⟩ := List.mem_map.mp h
    by_cases e : q.1 = k
    · rw [if_pos e, e]
      exact .inr rfl
    · rw [if_neg e]
      exact .inl hq
  · rcases List.mem_append.mp h with h | h
    · exact .inl h
    · exact .inr (List.mem_singleton.mp h)
theorem nd_putK {kvs : List (List Key × V)} (h : (kvs.map (·.1)).Nodup) (k : List Key) (v : V) : ((putK kvs k v).map (·.1)).Nodup := by
  unfold putK
  split
  · rw [List.map_map]
    have e : kvs.map ((fun p => p.1) ∘ fun kv : List Key × V => if kv.1 = k then (kv.1, v) else kv) = kvs.map (·.1) := List.map_congr_left fun q _ => by
      show (if q.1 = k then (q.1, v) else q).1 = q.1
      split <;> rfl
    rw [e]
    exact h
  · rename_i hn
    rw [List.map_append, List.nodup_append]
    refine ⟨h, by simp, fun a ha b hb => ?_⟩
    simp only [List.map_cons, List.map_nil, List.mem_singleton] at hb
    subst hb
    intro e
    subst e
    obtain ⟨q, hq, e⟩ := List.mem_map.mp ha
    exact hn (List.any_eq_true.mpr ⟨q, hq, decide_eq_true e⟩)
theorem KvOk.put {H : Hp} {n : Nat} {kvs : List (List Key × V)} (h : KvOk K H n kvs) {k : List Key} {v : V} {t : String} (hk : KOk (nkT k)) (hv : Pl K H v t) : KvOk K H (n + 1) (putK kvs k v) :=
  ⟨Nat.le_trans (length_putK kvs k v) (Nat.succ_le_succ h.len), nd_putK h.nd k v, fun p hp => (mem_putK hp).elim (h.ko p) fun e => by rw [e]; exact hk, fun p hp => (mem_putK hp).elim (h.pl p) fun e => by rw [e]; exact ⟨t, hv⟩⟩
theorem KvOk.le {H : Hp} {n k : Nat} {kvs : List (List Key × V)} (h : KvOk K H n kvs) (e : n ≤ k) : KvOk K H k kvs := ⟨Nat.le_trans h.len e, h.nd, h.ko, h.pl⟩
def litB : Key → Bool
  | .inl _ => true
  | .inr x => decide (x.length ≤ 1000000)
theorem ko_lit {ks : List Key} (h1 : ks.length ≤ 1000) (h2 : ks.all litB = true) : KOk (nkT ks) := ko_strs ks h1 fun k hk x e => by
  have := List.all_eq_true.mp h2 k hk
  rw [e] at this
  exact of_decide_eq_true this
theorem pl_put {H : Hp} {d : Addr} {kvs : List (List Key × V)} {o : HO} {v : V} {t : String} (h : H d = some (.dT kvs)) (p : Pl K H v t) : Pl K (upd H d o) v t := by
  cases p with
  | non => exact .non
  | bl b => exact .bl b
  | int i => exact .int i
  | str x => exact .str x
  | lst h1 => exact .lst (by rw [upd_ne (fun e => by rw [e, h] at h1; cases h1)]; exact h1)
  | tup h1 => exact .tup (by rw [upd_ne (fun e => by rw [e, h] at h1; cases h1)]; exact h1)
  | dct h1 => exact .dct (by rw [upd_ne (fun e => by rw [e, h] at h1; cases h1)]; exact h1)
theorem nd_g {kvs : List (List Key × V)} (h : (kvs.map (·.1)).Nodup) : ((kvs.map fun p => (nkT p.1, p.2)).map (·.1)).Nodup := by
  have e : (kvs.map fun p => (nkT p.1, p.2)).map (·.1) = (kvs.map (·.1)).map nkT := by
    rw [List.map_map, List.map_map]
    rfl
  rw [e]
  exact List.Pairwise.map nkT (fun a b z y => z (nkT_inj y)) h
theorem KvOk.ar {H : Hp} {d : Addr} {kvs : List (List Key × V)} (h : KvOk K H 1000 kvs) (hd : H d = some (.dT kvs)) : Ar w K H (.ref d) (some (kvs.map fun p => (nkT p.1, p.2))) :=
  .dct hd (.inl ⟨kvs, rfl, rfl⟩) (by rw [List.length_map]; exact h.len) (nd_g h.nd) (fun p hp => by obtain ⟨q, hq, rfl⟩ := List.mem_map.mp hp; exact h.ko q hq) (fun p hp => by obtain ⟨q, hq, rfl⟩ := List.mem_map.mp hp; exact h.pl q hq) fun _ => ⟨kvs, rfl⟩
theorem skey_o {k : NestedKey} {v : V} (s : SKey k v) : keyO k = none := by cases s <;> rfl
theorem KvOk.mix {H : Hp} {d : Addr} {kvs : List (List Key × V)} {k : NestedKey} {y v : V} {t : String} {ms : List MEn} (h : KvOk K H 999 kvs) (hd : H d = some (MixO w d ms)) (s : SKey k y) (hv : Pl K H v t) (nk : ∀ m ∈ ms, NKey H m.1 m.2.1)
    (e : ms.map (fun m => (m.1, m.2.2)) = (kvs.map fun p => (nkT p.1, p.2)) ++ [(k, v)]) : Ar w K H (.ref d) (some ((kvs.map fun p => (nkT p.1, p.2)) ++ [(k, v)])) := by
  refine .dct hd (.inr ⟨ms, rfl, e.symm, nk⟩) (by rw [List.length_append, List.length_map, List.length_singleton]; have := h.len; omega) ?_ (fun p hp => ?_) (fun p hp => ?_) fun z => ?_
  · rw [List.map_append, List.nodup_append]
    refine ⟨nd_g h.nd, by simp, fun a ha b hb => ?_⟩
    simp only [List.map_cons, List.map_nil, List.mem_singleton] at hb
    subst hb
    obtain ⟨q, hq, rfl⟩ := List.mem_map.mp ha
    obtain ⟨q', _, rfl⟩ := List.mem_map.mp hq
    exact s.ne _
  · rcases List.mem_append.mp hp with hp | hp
    · obtain ⟨q, hq, rfl⟩ := List.mem_map.mp hp
      exact h.ko q hq
    · rw [List.mem_singleton.mp hp]
      intro xs ex
      rw [show keyO k = none from skey_o s] at ex
      cases ex
  · rcases List.mem_append.mp hp with hp | hp
    · obtain ⟨q, hq, rfl⟩ := List.mem_map.mp hp
      exact h.pl q hq
    · rw [List.mem_singleton.mp hp]
      exact ⟨t, hv⟩
  · have := z (k, v) (List.mem_append_right _ List.mem_cons_self)
    rw [show keyO (k, v).1 = none from skey_o s] at this
    cases this
theorem kv_enc {H : Hp} {k : Nat} {fs ls : List Str} {m : List (Arc × Int)} (dm : Dm k fs ls m) : KvOk K H 300 (encA m) := by
  refine ⟨by unfold encA; rw [List.length_map]; exact dm.ml, ?_, fun p hp => ?_, fun p hp => ?_⟩
  · have e : (encA m).map (·.1) = (m.map (·.1)).map key3 := by
      unfold encA
      rw [List.map_map, List.map_map]
      rfl
    rw [e]
    exact List.Pairwise.map key3 (fun a b z y => z (key3_inj y)) dm.nd
  · obtain ⟨a, ha, rfl⟩ := List.mem_map.mp hp
    obtain ⟨p1, p2, p3⟩ := place_of (dm.an a ha).1
    have l1 := name_len p1
    have l2 := letter_len p2
    have l3 := name_len p3
    refine ko_strs _ (by show 3 ≤ 1000; decide) fun k hk x e => ?_
    simp only [key3, List.mem_cons, List.not_mem_nil, or_false] at hk
    rcases hk with rfl | rfl | rfl <;> cases e <;> omega
  · obtain ⟨a, ha, rfl⟩ := List.mem_map.mp hp
    exact ⟨_, .int a.2⟩
theorem pls0 {H : Hp} : PlS K H [] := fun x hx => by cases hx
theorem pls1 {H : Hp} {v : V} {t : String} (p : Pl K H v t) : ∃ t, Pl K H v t := ⟨t, p⟩
theorem pl2 {H : Hp} {v : V} {xs : List V} (p : ∃ t, Pl K H v t) (q : PlS K H xs) : PlS K H (v :: xs) := fun x hx => by
  rcases List.mem_cons.mp hx with rfl | hx
  · exact p
  · exact q x hx
theorem Dm.fl {fs ls : List Str} {m : List (Arc × Int)} (h : Dm 10 fs ls m) : fs.length ≤ 10 := by
  obtain ⟨nm, n1, n2, n3⟩ := h.nm
  have := nd_sub_len (asc_nd (names_asc h.fn)) fun y hy => n3 y (List.mem_append_left _ (List.mem_append_left _ hy))
  omega
theorem Dm.ll {fs ls : List Str} {m : List (Arc × Int)} (h : Dm 10 fs ls m) : ls.length ≤ 10 := by
  obtain ⟨nm, n1, n2, n3⟩ := h.nm
  have := nd_sub_len (asc_nd (names_asc h.ln)) fun y hy => n3 y (List.mem_append_left _ (List.mem_append_right _ hy))
  omega
def spBent (w : World) (K : PySem.W.Frag) : Sp := fun vs H Q _ => ∃ (dd f l a : Addr) (x y z : Int) (fs ls : List Str) (m : List (Arc × Int)), vs = [.ref dd, .ref f, .ref l, .ref a] ∧ H dd = some (.lst [.int x, .int y, .int z]) ∧ H f = some (.tup (fs.map V.str)) ∧ H l = some (.tup (ls.map V.str)) ∧ H a = some (.dT (encA m)) ∧ Dm 10 fs ls m ∧
  ∀ p v1 v2 v3 fo lo ao H', Dk dd H H' → H' p = some (.lst [v1, v2, v3]) → Vl K H' v1 fo → Vl K H' v2 lo → Ar w K H' v3 ao → Q (.ref p) H'
theorem ok_bent (D : Ds K mg Z) (B : Bt mg) (C0 : Cs mg) : FnOk P w K mg base CX0 6 Z.a_bent Z.d_bent P_bent (spBent w K) := by
  have G_roll := ok_roll (P := P) (w := w) (base := base) D B
  have G_pick := ok_pick (P := P) (w := w) (base := base) D B
  obtain ⟨⟨t_LIMIT, c_LIMIT⟩, ⟨t_ALPHABET, c_ALPHABET⟩, ⟨t_MAX_LETTERS, c_MAX_LETTERS⟩, ⟨t_MAX_STATES, c_MAX_STATES⟩, ⟨t_MAX_PRICE, c_MAX_PRICE⟩, ⟨t_FIRST, c_FIRST⟩, ⟨t_LAST, c_LAST⟩, ⟨t_ARC, c_ARC⟩⟩ := C0
  refine D.bent.F.ok sc_bent (fun vs H Q E h => ?_) (fun cdv A outer s H vs Q E hr h => ?_)
  · obtain ⟨dd, f, l, a, x, y, z, fs, ls, m, rfl, _⟩ := h
    rfl
  · obtain ⟨dd, f, l, a, x, y, z, fs, ls, m, rfl, hd, hf, hl, ha, dm, q⟩ := h
    refine ⟨_, (pss_cons (ps_par (i := 4) (j := 5) (by rfl) sc_bent.nd rfl rfl (by decide) rfl rfl (pa_cons (pe_df D.roll G_roll (hr.mono (by decide)) (by rfl) (pa_cons (pv 0) (pa_cons pe_int pa_nil))) (pa_cons (LPMX.pe_dictItemsT rfl hr.units (pv 3) (by rfl) B.dict (by decide +kernel)) pa_nil)) (by rfl))
    (pss_cons (ps_set (i := 6) sc_bent.nd rfl (Or.inl rfl) (pe_df D.pick G_pick (hr.mono (by decide)) (by rfl) (pa_cons (pv 0) (pa_cons (pe_lst (pa_cons pe_non (pa_cons pe_int (pa_cons pe_str (pa_cons (pe_lst (pa_cons pe_str pa_nil)) (pa_cons (pe_tup (pa_cons pe_str pa_nil)) (pa_cons (pe_tup (pa_cons pe_str (pa_cons pe_int pa_nil))) (pa_cons (pe_tup (pa_cons pe_str pa_nil)) (pa_cons (pe_tup (pa_cons pe_str pa_nil)) (pa_cons (pe_disp (pps_cons pe_str pe_int pps_nil) (by rfl) (by rfl) (fun z => by cases z) (by decide)) (pa_cons (pe_tup (pa_cons pe_str (pa_cons (pe_tup (pa_cons pe_str pa_nil)) pa_nil))) (pa_cons (pe_tup pa_nil) pa_nil)))))))))))) pa_nil))))
    (pss_cons (ps_if (pt_cmpR op_eq (pv 4) pe_int (nomark _)) (pss_one (ps_ret (pe_lst (pa_cons (pv 6) (pa_cons (pv 2) (pa_cons (pv 3) pa_nil)))))) pss_nil)
    (pss_cons (ps_if (pt_cmpR op_eq (pv 4) pe_int (nomark _)) (pss_one (ps_ret (pe_lst (pa_cons (pv 1) (pa_cons (pv 6) (pa_cons (pv 3) pa_nil)))))) pss_nil)
    (pss_cons (ps_if (pt_cmpR op_eq (pv 4) pe_int (nomark _)) (pss_one (ps_ret (pe_lst (pa_cons (pv 1) (pa_cons (pv 2) (pa_cons (pe_df D.pick G_pick (hr.mono (by decide)) (by rfl) (pa_cons (pv 0) (pa_cons (pe_lst (pa_cons pe_non (pa_cons (pe_tup pa_nil) (pa_cons (pe_lst pa_nil) (pa_cons (LPMX.pe_listItemsT rfl (pv 3) (by rfl) B.list (by decide +kernel)) (pa_cons (pv 1) (pa_cons pe_int (pa_cons pe_str pa_nil)))))))) pa_nil))) pa_nil)))))) pss_nil)
    (pss_cons (ps_if (pt_cmpR op_eq (pv 4) pe_int (nomark _)) (pss_one (LPMX.ps_dputN (w := w) rfl hr.units (pv 5) (pe_df D.pick G_pick (hr.mono (by decide)) (by rfl) (pa_cons (pv 0) (pa_cons (pe_lst (pa_cons (pe_tup (pa_cons pe_str (pa_cons pe_str pa_nil))) (pa_cons (pe_tup (pa_cons pe_str (pa_cons pe_str (pa_cons pe_str pa_nil)))) (pa_cons (pe_tup (pa_cons pe_str (pa_cons pe_str (pa_cons pe_str pa_nil)))) (pa_cons (pe_tup (pa_cons pe_str (pa_cons pe_str (pa_cons pe_str pa_nil)))) (pa_cons pe_str (pa_cons pe_int (pa_cons pe_non pa_nil)))))))) pa_nil))) pe_int rfl)) (pss_one (ps_if (pt_cmpR op_eq (pv 4) pe_int (nomark _)) (pss_one (ps_dput (hu_of hr) (pv 5) (pe_tup (pa_cons pe_str (pa_cons pe_str (pa_cons pe_str pa_nil)))) (pe_df D.pick G_pick (hr.mono (by decide)) (by rfl) (pa_cons (pv 0) (pa_cons (pe_lst (pa_cons pe_int (pa_cons (pe_un un_neg pe_int) (pa_cons pe_bl (pa_cons pe_bl (pa_cons pe_non (pa_cons pe_str (pa_cons pe_int (pa_cons pe_int (pa_cons (pe_op op_pow pe_int pe_int) (pa_cons (pe_tup (pa_cons pe_int pa_nil)) (pa_cons (pe_lst (pa_cons pe_int pa_nil)) pa_nil)))))))))))) pa_nil))) rfl)) (pss_one (ps_if (pt_cmpR op_eq (pv 4) pe_int (nomark _)) (pss_one (ps_dput (hu_of hr) (pv 5) (pe_tup (pa_cons pe_str (pa_cons (pe_df D.pick G_pick (hr.mono (by decide)) (by rfl) (pa_cons (pv 0) (pa_cons pe_str pa_nil))) (pa_cons (pe_df D.pick G_pick (hr.mono (by decide)) (by rfl) (pa_cons (pv 0) (pa_cons (pe_lst (pa_cons pe_str (pa_cons pe_str (pa_cons pe_str (pa_cons pe_str (pa_cons pe_str pa_nil)))))) pa_nil))) pa_nil)))) pe_int rfl)) pss_nil)))))
    (pss_one (ps_ret (pe_ifExp (pt_cmpR op_eq (pv 4) pe_int (nomark _)) (pe_lst (pa_cons (pe_revT (K := K) rfl (pv 1)) (pa_cons (pv 2) (pa_cons (pv 5) pa_nil)))) (pe_lst (pa_cons (pv 1) (pa_cons (pv 2) (pa_cons (pv 5) pa_nil))))))))))))), ?_⟩
    walk_at "rd"
    refine ⟨dd, x, y, z, _, rfl, hd, by decide, by decide, fun way x1 y1 z1 w0 w1 => ?_⟩
    have dk1 := Dk.roll (d := dd) (A := H) x1 y1 z1
    have nad : a ≠ dd := fun e => by rw [e, hd] at ha; cases ha
    have nfd : f ≠ dd := fun e => by rw [e, hd] at hf; cases hf
    have nld : l ≠ dd := fun e => by rw [e, hd] at hl; cases hl
    have hd1 : upd H dd (HO.lst [.int x1, .int y1, .int z1]) dd = some (.lst [.int x1, .int y1, .int z1]) := upd_same
    replace ha : upd H dd (HO.lst [.int x1, .int y1, .int z1]) a = _ := (upd_ne nad).trans ha
    replace hf : upd H dd (HO.lst [.int x1, .int y1, .int z1]) f = _ := (upd_ne nfd).trans hf
    replace hl : upd H dd (HO.lst [.int x1, .int y1, .int z1]) l = _ := (upd_ne nld).trans hl
    generalize upd H dd (HO.lst [.int x1, .int y1, .int z1]) = H1 at dk1 hd1 ha hf hl ⊢
    refine ⟨encA m, ha, fun r hr1 => ?_⟩
    have nrd : r ≠ dd := Dk.ne hd1 hr1
    have frr : H r = none := dk1.none nrd hr1
    have e1 := Same.new (o := HO.dT (encA m)) hr1
    have hr2 : upd H1 r (HO.dT (encA m)) r = some (.dT (encA m)) := upd_same
    replace dk1 := dk1.same e1
    replace hd1 := e1 _ _ hd1
    replace ha := e1 _ _ ha
    replace hf := e1 _ _ hf
    replace hl := e1 _ _ hl
    generalize upd H1 r (HO.dT (encA m)) = H2 at dk1 hd1 ha hf hl hr2 ⊢
    clear e1 hr1
    walk_at "go"
    have L0 := Lay.nil H2
    refine ⟨by decide, fun p1 h1 => ?_⟩
    have L1 := L0.new (o := HO.lst [V.str (Str.ofString "p")]) h1
    refine ⟨by decide, fun p2 h2 => ?_⟩
    have L2 := L1.new (o := HO.tup [V.str (Str.ofString "P")]) h2
    refine ⟨by decide, fun p3 h3 => ?_⟩
    have L3 := L2.new (o := HO.tup [V.str (Str.ofString "p"), V.int 7]) h3
    refine ⟨by decide, fun p4 h4 => ?_⟩
    have L4 := L3.new (o := HO.tup [V.str (Str.ofString "ninelette")]) h4
    refine ⟨by decide, fun p5 h5 => ?_⟩
    have L5 := L4.new (o := HO.tup [V.str (Str.ofString "")]) h5
    refine fun p6 h6 => ⟨[(.inr (Str.ofString "p"), .int 1)], rfl, by decide, by decide, fun p7 h7 => ?_⟩
    have L6 := L5.new (o := HO.dK (mergeK [] [(Sum.inr (Str.ofString "p"), V.int 1)])) h6
    have L7 := L6.new (o := HO.tup [V.str (Str.ofString "q")]) h7
    refine ⟨by decide, fun p8 h8 => ?_⟩
    have L8 := L7.new (o := HO.tup [V.str (Str.ofString "p"), V.ref p7]) h8
    refine ⟨by decide, fun p9 h9 => ?_⟩
    have L9 := L8.new (o := HO.tup []) h9
    clear L0 L1 L2 L3 L4 L5 L6 L7 L8 h1 h2 h3 h4 h5 h6 h7 h8 h9
    refine ⟨by decide, fun pA hA => ?_⟩
    generalize upd (upd (upd (upd (upd (upd (upd (upd (upd H2 p1 (HO.lst [V.str (Str.ofString "p")])) p2 (HO.tup [V.str (Str.ofString "P")])) p3 (HO.tup [V.str (Str.ofString "p"), V.int 7])) p4 (HO.tup [V.str (Str.ofString "ninelette")])) p5 (HO.tup [V.str (Str.ofString "")])) p6 (HO.dK (mergeK [] [(Sum.inr (Str.ofString "p"), V.int 1)]))) p7 (HO.tup [V.str (Str.ofString "q")])) p8 (HO.tup [V.str (Str.ofString "p"), V.ref p7])) p9 (HO.tup []) = H3 at L9 hA ⊢
    have e3 := L9.sm
    have o1 : H3 p1 = _ := L9.obj 0 p1 _ rfl rfl
    have o2 : H3 p2 = _ := L9.obj 1 p2 _ rfl rfl
    have o3 : H3 p3 = _ := L9.obj 2 p3 _ rfl rfl
    have o4 : H3 p4 = _ := L9.obj 3 p4 _ rfl rfl
    have o5 : H3 p5 = _ := L9.obj 4 p5 _ rfl rfl
    have o6 : H3 p6 = _ := L9.obj 5 p6 _ rfl rfl
    have o7 : H3 p7 = _ := L9.obj 6 p7 _ rfl rfl
    have o8 : H3 p8 = _ := L9.obj 7 p8 _ rfl rfl
    have o9 : H3 p9 = _ := L9.obj 8 p9 _ rfl rfl
    clear L9
    have vls : ∀ v ∈ [V.non, .int 7, .str (Str.ofString "p"), .ref p1, .ref p2, .ref p3, .ref p4, .ref p5, .ref p6, .ref p8, .ref p9], ∃ o, Vl K H3 v o := by
      intro v hv
      simp only [List.mem_cons, List.not_mem_nil, or_false] at hv
      rcases hv with rfl | rfl | rfl | rfl | rfl | rfl | rfl | rfl | rfl | rfl | rfl
      · exact ⟨_, .no .non (by decide)⟩
      · exact ⟨_, .no (.int 7) (by decide)⟩
      · exact ⟨_, .no (.str _) (by decide)⟩
      · exact ⟨_, .no (.lst o1) (by decide)⟩
      · exact ⟨_, .tup o2 (by decide) (pl2 (pls1 (.str _)) pls0) (by decide +kernel)⟩
      · exact ⟨_, .tup o3 (show 2 ≤ 1000 by decide) (pl2 (pls1 (.str _)) (pl2 (pls1 (.int _)) pls0)) (by decide +kernel)⟩
      · exact ⟨_, .tup o4 (by decide) (pl2 (pls1 (.str _)) pls0) (by decide +kernel)⟩
      · exact ⟨_, .tup o5 (by decide) (pl2 (pls1 (.str _)) pls0) (by decide +kernel)⟩
      · exact ⟨_, .no (.dct o6) (by decide)⟩
      · refine ⟨_, .tup o8 (show 2 ≤ 1000 by decide) (pl2 (pls1 (.str _)) (pl2 (pls1 (.tup o7)) pls0)) fun x hx => ?_⟩
        simp only [List.mem_cons, List.not_mem_nil, or_false] at hx
        rcases hx with rfl | rfl
        · show (Str.ofString "p").length ≤ 1000000
          decide +kernel
        · exact Nat.zero_le _
      · exact ⟨_, .tup o9 (by decide) pls0 (by decide)⟩
    clear o1 o2 o3 o4 o5 o6 o7 o8 o9
    have e4 := Same.new (o := HO.lst [V.non, .int 7, .str (Str.ofString "p"), .ref p1, .ref p2, .ref p3, .ref p4, .ref p5, .ref p6, .ref p8, .ref p9]) hA
    have nAd : pA ≠ dd := Dk.ne (e3 _ _ hd1) hA
    refine ⟨dd, x1, y1, z1, .ref pA, _, rfl, e4 _ _ (e3 _ _ hd1), .inl ⟨pA, rfl, nAd, upd_same⟩, by show 0 < 11; decide, by show 11 ≤ 1000; decide, fun v hv x2 y2 z2 => ?_⟩
    obtain ⟨oo, vo⟩ := vls v hv
    have e5 := e3.trans e4
    replace vo := vo.same e4
    replace dk1 := dk1.same e5
    replace hd1 := e5 _ _ hd1
    replace ha := e5 _ _ ha
    replace hf := e5 _ _ hf
    replace hl := e5 _ _ hl
    replace hr2 := e5 _ _ hr2
    generalize upd H3 pA (HO.lst [V.non, V.int 7, V.str (Str.ofString "p"), V.ref p1, V.ref p2, V.ref p3, V.ref p4, V.ref p5, V.ref p6, V.ref p8, V.ref p9]) = H4 at vo dk1 hd1 ha hf hl hr2 ⊢
    clear e3 e4 e5 hA vls hv
    have kr : Dk dd H4 (upd H4 dd (HO.lst [.int x2, .int y2, .int z2])) := Dk.roll x2 y2 z2
    replace vo := vl_dk kr hd1 vo
    replace ha := kr.1 _ _ nad ha
    replace hf := kr.1 _ _ nfd hf
    replace hl := kr.1 _ _ nld hl
    replace hr2 := kr.1 _ _ nrd hr2
    replace dk1 := dk1.trans kr
    have hd5 : upd H4 dd (HO.lst [.int x2, .int y2, .int z2]) dd = some (.lst [.int x2, .int y2, .int z2]) := upd_same
    generalize upd H4 dd (HO.lst [.int x2, .int y2, .int z2]) = H5 at vo ha hf hl hr2 dk1 hd5 ⊢
    clear kr hd1
    have fl : fs.length ≤ 10 := Dm.fl dm
    have ll : ls.length ≤ 10 := Dm.ll dm
    have vf : ∀ H', H' f = some (.tup (fs.map V.str)) → Vl K H' (.ref f) (some (fs.map V.str)) := fun H' h => ends_vl h (by omega) (names_len dm.fn)
    have vl : ∀ H', H' l = some (.tup (ls.map V.str)) → Vl K H' (.ref l) (some (ls.map V.str)) := fun H' h => ends_vl h (by omega) (names_len dm.ln)
    have ar : ∀ b H', H' b = some (.dT (encA m)) → Ar w K H' (.ref b) (some ((encA m).map fun p => (nkT p.1, p.2))) := fun b H' h => KvOk.ar ⟨Nat.le_trans (kv_enc (K := K) (H := H') dm).len (by decide), (kv_enc (K := K) (H := H') dm).nd, (kv_enc (K := K) (H := H') dm).ko, (kv_enc (K := K) (H := H') dm).pl⟩ h
    walk_at "go"
    refine ite2 (fun h => ?_) (fun h => ?_)
    · refine later ?_
      walk_at "rd"
      refine ⟨by decide, fun p hp => ?_⟩
      have e6 := Same.new (o := HO.lst [v, .ref l, .ref a]) hp
      exact q p v (.ref l) (.ref a) _ _ _ _ (dk1.same e6) upd_same (vo.same e6) (vl _ (e6 _ _ hl)) (ar _ _ (e6 _ _ ha))
    walk_at "gg"
    refine ite2 (fun h => ?_) (fun h => ?_)
    · refine later ?_
      walk_at "rd"
      refine ⟨by decide, fun p hp => ?_⟩
      have e6 := Same.new (o := HO.lst [.ref f, v, .ref a]) hp
      exact q p (.ref f) v (.ref a) _ _ _ _ (dk1.same e6) upd_same (vf _ (e6 _ _ hf)) (vo.same e6) (ar _ _ (e6 _ _ ha))
    walk_at "gg"
    refine ite2 (fun h => ?_) (fun h => ?_)
    · refine later ?_
      walk_at "rd"
      refine ⟨Nat.zero_le _, fun q1 g1 => ⟨Nat.zero_le _, fun q2 g2 => ⟨encA m, (Same.new g2) _ _ ((Same.new g1) _ _ ha), fun q3 rs g3 _ => ⟨by decide, fun q4 g4 => ?_⟩⟩⟩⟩
      have s1 := Same.new (o := HO.tup []) g1
      have s2 := Same.new (o := HO.lst []) g2
      have s3 := Same.new (o := HO.lst (rs.map V.ref)) g3
      have s4 := Same.new (o := HO.lst [V.non, V.ref q1, V.ref q2, V.ref q3, V.ref f, V.int 7, V.str (Str.ofString "arcs")]) g4
      have o1 := (s2.trans (s3.trans s4)) q1 (HO.tup []) upd_same
      have o2 := (s3.trans s4) q2 (HO.lst []) upd_same
      have o3 := s4 q3 (HO.lst (rs.map V.ref)) upd_same
      have o4 : upd (upd (upd (upd H5 q1 (HO.tup [])) q2 (HO.lst [])) q3 (HO.lst (rs.map V.ref))) q4 (HO.lst [V.non, V.ref q1, V.ref q2, V.ref q3, V.ref f, V.int 7, V.str (Str.ofString "arcs")]) q4 = some (HO.lst [V.non, V.ref q1, V.ref q2, V.ref q3, V.ref f, V.int 7, V.str (Str.ofString "arcs")]) := upd_same
      have sa := s1.trans (s2.trans (s3.trans s4))
      generalize upd (upd (upd (upd H5 q1 (HO.tup [])) q2 (HO.lst [])) q3 (HO.lst (rs.map V.ref))) q4 (HO.lst [V.non, V.ref q1, V.ref q2, V.ref q3, V.ref f, V.int 7, V.str (Str.ofString "arcs")]) = H6 at o1 o2 o3 o4 sa ⊢
      clear s1 s2 s3 s4 g1 g2 g3 g4
      have n4 : q4 ≠ dd := fun e => by rw [e, sa _ _ hd5] at o4; cases o4
      refine ⟨dd, x2, y2, z2, .ref q4, _, rfl, sa _ _ hd5, .inl ⟨q4, rfl, n4, o4⟩, by show 0 < 7; decide, by show 7 ≤ 1000; decide, fun u hu x3 y3 z3 => ?_⟩
      have hf6 := sa _ _ hf
      have hl6 := sa _ _ hl
      have au : Ar w K H6 u none := by
        simp only [List.mem_cons, List.not_mem_nil, or_false] at hu
        rcases hu with rfl | rfl | rfl | rfl | rfl | rfl | rfl
        · exact .no .non (by decide)
        · exact .no (.tup o1) (by decide)
        · exact .no (.lst o2) (by decide)
        · exact .no (.lst o3) (by decide)
        · exact .no (.tup hf6) (by decide)
        · exact .no (.int 7) (by decide)
        · exact .no (.str _) (by decide)
      have kr : Dk dd H6 (upd H6 dd (HO.lst [.int x3, .int y3, .int z3])) := Dk.roll x3 y3 z3
      replace au := ar_dk kr (sa _ _ hd5) au
      replace hf6 := kr.1 _ _ nfd hf6
      replace hl6 := kr.1 _ _ nld hl6
      have dk7 := (dk1.same sa).trans kr
      refine ⟨by decide, fun p hp => ?_⟩
      have e6 := Same.new (o := HO.lst [.ref f, .ref l, u]) hp
      exact q p (.ref f) (.ref l) u _ _ _ _ (dk7.same e6) upd_same (vf _ (e6 _ _ hf6)) (vl _ (e6 _ _ hl6)) (au.same e6)
    have fin : ∀ H' ao, Dk dd H H' → Ar w K H' (.ref r) ao → H' f = some (.tup (fs.map V.str)) → H' l = some (.tup (ls.map V.str)) → LP.Later
            (tRet
              (tIf (tTest (tOp rEq (tVar 4) (tC (V.int 6))))
                (tLst (tCons (tRevT K (tVar 1)) (tCons (tVar 2) (tCons (tVar 5) tNil))))
                (tLst (tCons (tVar 1) (tCons (tVar 2) (tCons (tVar 5) tNil))))))
            { nx := fun x H' => Q V.non H', rt := Q } [some (V.ref dd), some (V.ref f), some (V.ref l), some (V.ref a), some (V.int way), some (V.ref r), some v] H' := by
      intro H' ao k' a' f' l'
      walk_at "go"
      refine ite2 (fun h => ?_) (fun h => ?_)
      · refine ⟨_, SqT.of f', fun p hp => ⟨by decide, fun p2 hp2 => ?_⟩⟩
        have s1 := Same.new (o := HO.tup (fs.map V.str).reverse) hp
        have s2 := Same.new (o := HO.lst [V.ref p, V.ref l, V.ref r]) hp2
        have hp3 := s2 p (HO.tup (fs.map V.str).reverse) upd_same
        have vr := vf H' f'
        cases vr with
        | tup h5 hl5 pl5 lx5 =>
        exact q p2 (.ref p) (.ref l) (.ref r) _ _ _ _ (k'.same (s1.trans s2)) upd_same (.tup hp3 (by rw [List.length_reverse]; exact hl5) (fun x hx => let ⟨t, z⟩ := pl5 x (List.mem_reverse.mp hx); ⟨t, z.same (s1.trans s2)⟩) fun x hx => lx5 x (List.mem_reverse.mp hx)) (vl _ ((s1.trans s2) _ _ l')) (a'.same (s1.trans s2))
      · refine ⟨by decide, fun p2 hp2 => ?_⟩
        have s2 := Same.new (o := HO.lst [V.ref f, V.ref l, V.ref r]) hp2
        exact q p2 (.ref f) (.ref l) (.ref r) _ _ _ _ (k'.same s2) upd_same (vf _ (s2 _ _ f')) (vl _ (s2 _ _ l')) (a'.same s2)
    clear q
    have putT : ∀ (u : V) (tu : String) (q4 : Addr) (H7 : Hp) (s1 s2 : Str), H7 q4 = none → Dk dd H H7 → H7 f = some (.tup (fs.map V.str)) → H7 l = some (.tup (ls.map V.str)) → H7 r = some (.dT (encA m)) → Pl K H7 u tu → KOk (nkT [.inr (Str.ofString "p"), .inr s1, .inr s2]) →
        ∃ x, DPut (upd H7 q4 (HO.tup [V.str (Str.ofString "p"), V.str s1, V.str s2])) r (V.ref q4) u x ∧ LP.Later
            (tRet
              (tIf (tTest (tOp rEq (tVar 4) (tC (V.int 6))))
                (tLst (tCons (tRevT K (tVar 1)) (tCons (tVar 2) (tCons (tVar 5) tNil))))
                (tLst (tCons (tVar 1) (tCons (tVar 2) (tCons (tVar 5) tNil))))))
            { nx := fun x H' => Q V.non H', rt := Q } [some (V.ref dd), some (V.ref f), some (V.ref l), some (V.ref a), some (V.int way), some (V.ref r), some v] x := by
      intro u tu q4 H7 s1 s2 g4 dk7 hf hl hr2 pu ko
      have e4 := Same.new (o := HO.tup [V.str (Str.ofString "p"), V.str s1, V.str s2]) g4
      have o4 : upd H7 q4 (HO.tup [V.str (Str.ofString "p"), V.str s1, V.str s2]) q4 = some (.tup ([.inr (Str.ofString "p"), .inr s1, .inr s2].map kV)) := upd_same
      replace dk7 := dk7.same e4
      replace hf := e4 _ _ hf
      replace hl := e4 _ _ hl
      replace hr2 := e4 _ _ hr2
      replace pu := pu.same e4
      generalize upd H7 q4 (HO.tup [V.str (Str.ofString "p"), V.str s1, V.str s2]) = H8 at dk7 hf hl hr2 pu o4 ⊢
      have nfr : f ≠ r := fun e => by rw [e, hr2] at hf; cases hf
      have nlr : l ≠ r := fun e => by rw [e, hr2] at hl; cases hl
      have le : (encA m).length < sizeLine := Nat.lt_of_le_of_lt (kv_enc (K := K) (H := H8) dm).len (by decide)
      refine ⟨_, DPut.t hr2 o4 le, fin _ _ (Dk.lay dk7 frr nrd) (KvOk.ar (((kv_enc dm).put ko (pl_put hr2 pu)).le (by decide)) upd_same) (by rw [upd_ne nfr]; exact hf) (by rw [upd_ne nlr]; exact hl)⟩
    walk_at "gg"
    refine ite2 (fun h => ?_) (fun h => ?_)
    · refine later ?_
      walk_at "rd"
      refine ⟨by decide, fun q1 g1 => ⟨by decide, fun q2 g2 => ⟨by decide, fun q3 g3 => ⟨by decide, fun q4 g4 => ⟨by decide, fun q5 g5 => ?_⟩⟩⟩⟩⟩
      have s1 := Same.new (o := HO.tup [V.str (Str.ofString "p"), V.str (Str.ofString "a")]) g1
      have s2 := Same.new (o := HO.tup [V.str (Str.ofString "p"), V.str (Str.ofString "ab"), V.str (Str.ofString "q")]) g2
      have s3 := Same.new (o := HO.tup [V.str (Str.ofString "p"), V.str (Str.ofString "A"), V.str (Str.ofString "q")]) g3
      have s4 := Same.new (o := HO.tup [V.str (Str.ofString "p"), V.str (Str.ofString ""), V.str (Str.ofString "q")]) g4
      have s5 := Same.new (o := HO.lst [V.ref q1, V.ref q2, V.ref q3, V.ref q4, V.str (Str.ofString "pap"), V.int 7, V.non]) g5
      have o1 := (s2.trans (s3.trans (s4.trans s5))) q1 (HO.tup [V.str (Str.ofString "p"), V.str (Str.ofString "a")]) upd_same
      have o2 := (s3.trans (s4.trans s5)) q2 (HO.tup [V.str (Str.ofString "p"), V.str (Str.ofString "ab"), V.str (Str.ofString "q")]) upd_same
      have o3 := (s4.trans s5) q3 (HO.tup [V.str (Str.ofString "p"), V.str (Str.ofString "A"), V.str (Str.ofString "q")]) upd_same
      have o4 := s5 q4 (HO.tup [V.str (Str.ofString "p"), V.str (Str.ofString ""), V.str (Str.ofString "q")]) upd_same
      have o5 : (upd (upd (upd (upd (upd H5 q1 (HO.tup [V.str (Str.ofString "p"), V.str (Str.ofString "a")])) q2 (HO.tup [V.str (Str.ofString "p"), V.str (Str.ofString "ab"), V.str (Str.ofString "q")])) q3 (HO.tup [V.str (Str.ofString "p"), V.str (Str.ofString "A"), V.str (Str.ofString "q")])) q4 (HO.tup [V.str (Str.ofString "p"), V.str (Str.ofString ""), V.str (Str.ofString "q")])) q5 (HO.lst [V.ref q1, V.ref q2, V.ref q3, V.ref q4, V.str (Str.ofString "pap"), V.int 7, V.non])) q5 = some (HO.lst [V.ref q1, V.ref q2, V.ref q3, V.ref q4, V.str (Str.ofString "pap"), V.int 7, V.non]) := upd_same
      have sa := s1.trans (s2.trans (s3.trans (s4.trans s5)))
      generalize upd (upd (upd (upd (upd H5 q1 (HO.tup [V.str (Str.ofString "p"), V.str (Str.ofString "a")])) q2 (HO.tup [V.str (Str.ofString "p"), V.str (Str.ofString "ab"), V.str (Str.ofString "q")])) q3 (HO.tup [V.str (Str.ofString "p"), V.str (Str.ofString "A"), V.str (Str.ofString "q")])) q4 (HO.tup [V.str (Str.ofString "p"), V.str (Str.ofString ""), V.str (Str.ofString "q")])) q5 (HO.lst [V.ref q1, V.ref q2, V.ref q3, V.ref q4, V.str (Str.ofString "pap"), V.int 7, V.non]) = H6 at o1 o2 o3 o4 o5 sa ⊢
      clear s1 s2 s3 s4 s5 g1 g2 g3 g4 g5
      have n5 : q5 ≠ dd := fun e => by rw [e, sa _ _ hd5] at o5; cases o5
      refine ⟨dd, x2, y2, z2, .ref q5, _, rfl, sa _ _ hd5, .inl ⟨q5, rfl, n5, o5⟩, by show 0 < 7; decide, by show 7 ≤ 1000; decide, fun u hu x3 y3 z3 => ?_⟩
      have kr : Dk dd H6 (upd H6 dd (HO.lst [.int x3, .int y3, .int z3])) := Dk.roll x3 y3 z3
      have nd : ∀ (q : Addr) (xs : List V), H6 q = some (.tup xs) → q ≠ dd := fun q xs h e => by rw [e, sa _ _ hd5] at h; cases h
      have dk7 := (dk1.same sa).trans kr
      replace hf := kr.1 _ _ nfd (sa _ _ hf)
      replace hl := kr.1 _ _ nld (sa _ _ hl)
      replace hr2 := kr.1 _ _ nrd (sa _ _ hr2)
      replace o1 := kr.1 _ _ (nd _ _ o1) o1
      replace o2 := kr.1 _ _ (nd _ _ o2) o2
      replace o3 := kr.1 _ _ (nd _ _ o3) o3
      replace o4 := kr.1 _ _ (nd _ _ o4) o4
      generalize upd H6 dd (HO.lst [.int x3, .int y3, .int z3]) = H7 at dk7 hf hl hr2 o1 o2 o3 o4 ⊢
      clear kr nd sa o5 hd5 dk1 vo
      have nfr : f ≠ r := fun e => by rw [e, hr2] at hf; cases hf
      have nlr : l ≠ r := fun e => by rw [e, hr2] at hl; cases hl
      have le : (encA m).length < sizeLine := Nat.lt_of_le_of_lt (kv_enc (K := K) (H := H7) dm).len (by decide)
      have tc : ∀ (qq : Addr) (ks : List Key), H7 qq = some (.tup (ks.map kV)) → KOk (nkT ks) → ∃ H4, DPut H7 r (.ref qq) (V.int 0) H4 ∧ LP.Later
            (tRet
              (tIf (tTest (tOp rEq (tVar 4) (tC (V.int 6))))
                (tLst (tCons (tRevT K (tVar 1)) (tCons (tVar 2) (tCons (tVar 5) tNil))))
                (tLst (tCons (tVar 1) (tCons (tVar 2) (tCons (tVar 5) tNil))))))
            { nx := fun x H' => Q V.non H', rt := Q } [some (V.ref dd), some (V.ref f), some (V.ref l), some (V.ref a), some (V.int way), some (V.ref r), some v] H4 := fun qq ks hq ko =>
        ⟨_, DPut.t hr2 hq le, fin _ _ (Dk.lay dk7 frr nrd) (KvOk.ar (((kv_enc dm).put ko (.int 0)).le (by decide)) upd_same) (by rw [upd_ne nfr]; exact hf) (by rw [upd_ne nlr]; exact hl)⟩
      have sc : ∀ (k : NestedKey) (y : V), SKey k y → ∃ k, SKey k y ∧ (encA m).length < sizeLine ∧ ∀ (ms : List MEn), (∀ m ∈ ms, NKey (upd H7 r (MixO w r ms)) m.fst m.snd.fst) → List.map (fun m => (m.fst, m.snd.snd)) ms = List.map (fun p => (nkT p.fst, p.snd)) (encA m) ++ [(k, V.int 0)] → LP.Later
            (tRet
              (tIf (tTest (tOp rEq (tVar 4) (tC (V.int 6))))
                (tLst (tCons (tRevT K (tVar 1)) (tCons (tVar 2) (tCons (tVar 5) tNil))))
                (tLst (tCons (tVar 1) (tCons (tVar 2) (tCons (tVar 5) tNil))))))
            { nx := fun x H' => Q V.non H', rt := Q } [some (V.ref dd), some (V.ref f), some (V.ref l), some (V.ref a), some (V.int way), some (V.ref r), some v] (upd H7 r (MixO w r ms)) := fun k y sk =>
        ⟨k, sk, le, fun ms nk e => fin _ _ (Dk.lay dk7 frr nrd) (KvOk.mix ((kv_enc dm).le (by decide)) upd_same sk (.int 0) nk e) (by rw [upd_ne nfr]; exact hf) (by rw [upd_ne nlr]; exact hl)⟩
      clear fin
      simp only [List.mem_cons, List.not_mem_nil, or_false] at hu
      rcases hu with rfl | rfl | rfl | rfl | rfl | rfl | rfl
      · exact .inl (tc q1 [.inr (Str.ofString "p"), .inr (Str.ofString "a")] o1 (ko_lit (by decide) (by decide +kernel)))
      · exact .inl (tc q2 [.inr (Str.ofString "p"), .inr (Str.ofString "ab"), .inr (Str.ofString "q")] o2 (ko_lit (by decide) (by decide +kernel)))
      · exact .inl (tc q3 [.inr (Str.ofString "p"), .inr (Str.ofString "A"), .inr (Str.ofString "q")] o3 (ko_lit (by decide) (by decide +kernel)))
      · exact .inl (tc q4 [.inr (Str.ofString "p"), .inr (Str.ofString ""), .inr (Str.ofString "q")] o4 (ko_lit (by decide) (by decide +kernel)))
      · exact .inr ⟨encA m, hr2, sc _ _ (.str (Str.ofString "pap"))⟩
      · exact .inr ⟨encA m, hr2, sc _ _ (.int 7)⟩
      · exact .inr ⟨encA m, hr2, sc _ _ .non⟩
    walk_at "gg"
    refine ite2 (fun h => ?_) (fun h => ?_)
    · refine later ?_
      walk_at "rd"
      refine ⟨⟨by decide, by decide, by decide⟩, by decide, fun q1 g1 => ⟨by decide, fun q2 g2 => ⟨by decide, fun q3 g3 => ?_⟩⟩⟩
      have s1 := Same.new (o := HO.tup [V.int 1]) g1
      have s2 := Same.new (o := HO.lst [V.int 1]) g2
      have s3 := Same.new (o := HO.lst [V.int 10, V.int (-1), V.bl true, V.bl false, V.non, V.str (Str.ofString "3"), V.int 9, V.int 0, V.int (10 ^ Int.toNat 60), V.ref q1, V.ref q2]) g3
      have o1 := (s2.trans s3) q1 (HO.tup [V.int 1]) upd_same
      have o2 := s3 q2 (HO.lst [V.int 1]) upd_same
      have o3 : (upd (upd (upd H5 q1 (HO.tup [V.int 1])) q2 (HO.lst [V.int 1])) q3 (HO.lst [V.int 10, V.int (-1), V.bl true, V.bl false, V.non, V.str (Str.ofString "3"), V.int 9, V.int 0, V.int (10 ^ Int.toNat 60), V.ref q1, V.ref q2])) q3 = some (HO.lst [V.int 10, V.int (-1), V.bl true, V.bl false, V.non, V.str (Str.ofString "3"), V.int 9, V.int 0, V.int (10 ^ Int.toNat 60), V.ref q1, V.ref q2]) := upd_same
      have sa := s1.trans (s2.trans s3)
      generalize upd (upd (upd H5 q1 (HO.tup [V.int 1])) q2 (HO.lst [V.int 1])) q3 (HO.lst [V.int 10, V.int (-1), V.bl true, V.bl false, V.non, V.str (Str.ofString "3"), V.int 9, V.int 0, V.int (10 ^ Int.toNat 60), V.ref q1, V.ref q2]) = H6 at o1 o2 o3 sa ⊢
      clear s1 s2 s3 g1 g2 g3
      have n3 : q3 ≠ dd := fun e => by rw [e, sa _ _ hd5] at o3; cases o3
      refine ⟨dd, x2, y2, z2, .ref q3, _, rfl, sa _ _ hd5, .inl ⟨q3, rfl, n3, o3⟩, by show 0 < 11; decide, by show 11 ≤ 1000; decide, fun u hu x3 y3 z3 => ?_⟩
      have pu : ∃ t, Pl K H6 u t := by
        simp only [List.mem_cons, List.not_mem_nil, or_false] at hu
        rcases hu with rfl | rfl | rfl | rfl | rfl | rfl | rfl | rfl | rfl | rfl | rfl
        · exact ⟨_, .int _⟩
        · exact ⟨_, .int _⟩
        · exact ⟨_, .bl _⟩
        · exact ⟨_, .bl _⟩
        · exact ⟨_, .non⟩
        · exact ⟨_, .str _⟩
        · exact ⟨_, .int _⟩
        · exact ⟨_, .int _⟩
        · exact ⟨_, .int _⟩
        · exact ⟨_, .tup o1⟩
        · exact ⟨_, .lst o2⟩
      have kr : Dk dd H6 (upd H6 dd (HO.lst [.int x3, .int y3, .int z3])) := Dk.roll x3 y3 z3
      obtain ⟨tu, pu⟩ := pu
      replace pu := pl_dk kr (sa _ _ hd5) pu
      have dk7 := (dk1.same sa).trans kr
      replace hf := kr.1 _ _ nfd (sa _ _ hf)
      replace hl := kr.1 _ _ nld (sa _ _ hl)
      replace hr2 := kr.1 _ _ nrd (sa _ _ hr2)
      generalize upd H6 dd (HO.lst [.int x3, .int y3, .int z3]) = H7 at dk7 hf hl hr2 pu ⊢
      clear kr sa o1 o2 o3 hd5 dk1 vo
      exact ⟨by decide, fun q4 g4 => putT u tu q4 H7 (Str.ofString "a") (Str.ofString "q") g4 dk7 hf hl hr2 pu (ko_lit (by decide) (by decide +kernel))⟩
    walk_at "gg"
    refine ite2 (fun h => ?_) (fun h => ?_)
    · refine later ?_
      walk_at "rd"
      refine ⟨dd, x2, y2, z2, .str (Str.ofString "az"), _, rfl, hd5, .inr ⟨_, rfl, rfl⟩, by decide +kernel, by decide +kernel, fun u hu x3 y3 z3 => ?_⟩
      obtain ⟨c, hc, rfl⟩ := List.mem_map.mp hu
      have kr : Dk dd H5 (upd H5 dd (HO.lst [.int x3, .int y3, .int z3])) := Dk.roll x3 y3 z3
      have hd6 : upd H5 dd (HO.lst [.int x3, .int y3, .int z3]) dd = some (HO.lst [.int x3, .int y3, .int z3]) := upd_same
      replace dk1 := dk1.trans kr
      replace hf := kr.1 _ _ nfd hf
      replace hl := kr.1 _ _ nld hl
      replace hr2 := kr.1 _ _ nrd hr2
      generalize upd H5 dd (HO.lst [.int x3, .int y3, .int z3]) = H6 at dk1 hf hl hr2 hd6 ⊢
      clear kr hd5 vo
      refine ⟨by decide, fun q1 g1 => ?_⟩
      have s1 := Same.new (o := HO.lst [V.str (Str.ofString "Q"), V.str (Str.ofString "ninelette"), V.str (Str.ofString "q"), V.str (Str.ofString "eightlet"), V.str (Str.ofString "")]) g1
      have o1 : upd H6 q1 (HO.lst [V.str (Str.ofString "Q"), V.str (Str.ofString "ninelette"), V.str (Str.ofString "q"), V.str (Str.ofString "eightlet"), V.str (Str.ofString "")]) q1 = some (HO.lst [V.str (Str.ofString "Q"), V.str (Str.ofString "ninelette"), V.str (Str.ofString "q"), V.str (Str.ofString "eightlet"), V.str (Str.ofString "")]) := upd_same
      replace dk1 := dk1.same s1
      replace hf := s1 _ _ hf
      replace hl := s1 _ _ hl
      replace hr2 := s1 _ _ hr2
      have n1 : q1 ≠ dd := Dk.ne hd6 g1
      replace hd6 := s1 _ _ hd6
      generalize upd H6 q1 (HO.lst [V.str (Str.ofString "Q"), V.str (Str.ofString "ninelette"), V.str (Str.ofString "q"), V.str (Str.ofString "eightlet"), V.str (Str.ofString "")]) = H7 at dk1 hf hl hr2 hd6 o1 ⊢
      clear s1 g1
      refine ⟨dd, x3, y3, z3, .ref q1, _, rfl, hd6, .inl ⟨q1, rfl, n1, o1⟩, by show 0 < 5; decide, by show 5 ≤ 1000; decide, fun u2 hu2 x4 y4 z4 => ?_⟩
      obtain ⟨s, rfl, hs⟩ : ∃ s : Str, u2 = .str s ∧ s.length ≤ 1000 := by
        simp only [List.mem_cons, List.not_mem_nil, or_false] at hu2
        rcases hu2 with rfl | rfl | rfl | rfl | rfl
        all_goals exact ⟨_, rfl, by decide +kernel⟩
      have kr : Dk dd H7 (upd H7 dd (HO.lst [.int x4, .int y4, .int z4])) := Dk.roll x4 y4 z4
      replace dk1 := dk1.trans kr
      replace hf := kr.1 _ _ nfd hf
      replace hl := kr.1 _ _ nld hl
      replace hr2 := kr.1 _ _ nrd hr2
      generalize upd H7 dd (HO.lst [.int x4, .int y4, .int z4]) = H8 at dk1 hf hl hr2 ⊢
      exact ⟨by decide, fun q4 g4 => putT (.int 9) _ q4 H8 ⟨#[c]⟩ s g4 dk1 hf hl hr2 (.int 9) (ko_strs _ (by show 3 ≤ 1000; decide) fun k hk x e => by
        simp only [List.mem_cons, List.not_mem_nil, or_false] at hk
        rcases hk with rfl | rfl | rfl
        · cases e
          decide +kernel
        · cases e
          show 1 ≤ 1000000
          decide
        · cases e
          omega)⟩
    refine later ?_
    exact fin H5 _ dk1 (ar r H5 hr2) hf hl
end
section
variable {P : Program} {w : World} {K : PySem.W.Frag} {mg : Str → Option Value} {base : Heap} {Z : Ad}
open LPMX
/-! ### all small parts -/
theorem KvOk.upd {H : Hp} {n : Nat} {d : Addr} {kvs ks : List (List Key × V)} {o : HO} (h : H d = some (.dT ks)) (k : KvOk K H n kvs) : KvOk K (upd H d o) n kvs := ⟨k.len, k.nd, k.ko, fun p hp => let ⟨t, q⟩ := k.pl p hp; ⟨t, pl_put h q⟩⟩
def spSmall : Sp := fun vs H Q _ => vs = [] ∧ ∀ H', Same H H' → Q (.bl true) H'
theorem ok_small_right (D : Ds K mg Z) (B : Bt mg) (C0 : Cs mg) (T : Tx K Z) : FnOk P w K mg base CX0 11 Z.a_small_right Z.d_small_right P_small_right spSmall := by
  have G_agrees := ok_agrees (P := P) (w := w) (base := base) D B C0 T
  obtain ⟨⟨t_LIMIT, c_LIMIT⟩, ⟨t_ALPHABET, c_ALPHABET⟩, ⟨t_MAX_LETTERS, c_MAX_LETTERS⟩, ⟨t_MAX_STATES, c_MAX_STATES⟩, ⟨t_MAX_PRICE, c_MAX_PRICE⟩, ⟨t_FIRST, c_FIRST⟩, ⟨t_LAST, c_LAST⟩, ⟨t_ARC, c_ARC⟩⟩ := C0
  refine D.small_right.F.ok sc_small_right (fun vs H Q E h => ?_) (fun cdv A outer s H vs Q E hr h => ?_)
  · obtain ⟨rfl, _⟩ := h
    rfl
  · obtain ⟨rfl, q⟩ := h
    refine ⟨_, (pss_cons (ps_set (i := 0) sc_small_right.nd rfl (Or.inr rfl) (pe_lst (pa_cons (pe_tup pa_nil) (pa_cons (pe_tup (pa_cons pe_str pa_nil)) (pa_cons (pe_tup (pa_cons pe_str pa_nil)) (pa_cons (pe_tup (pa_cons pe_str (pa_cons pe_str pa_nil))) (pa_cons (pe_tup (pa_cons pe_str (pa_cons pe_str pa_nil))) (pa_cons (pe_tup (pa_cons pe_str (pa_cons pe_str pa_nil))) pa_nil))))))))
    (pss_cons (ps_set (i := 1) sc_small_right.nd rfl (Or.inl rfl) (pe_lst (pa_cons (pe_tup (pa_cons pe_str (pa_cons pe_str (pa_cons pe_str pa_nil)))) (pa_cons (pe_tup (pa_cons pe_str (pa_cons pe_str (pa_cons pe_str pa_nil)))) (pa_cons (pe_tup (pa_cons pe_str (pa_cons pe_str (pa_cons pe_str pa_nil)))) (pa_cons (pe_tup (pa_cons pe_str (pa_cons pe_str (pa_cons pe_str pa_nil)))) pa_nil))))))
    (pss_cons (ps_for PassesOwn.never rfl (pi_range1 (by rfl) B.range (pa_cons pe_int pa_nil)) (pg_name (i := 2) sc_small_right.nd rfl (Or.inr rfl))
      (pss_cons (ps_asg (pe_tup (pa_cons pe_dnewT (pa_cons (pv 2) pa_nil))) (pg_tupK (K := K) (n := 2) rfl rfl (pgs_cons (pg_name (i := 3) sc_small_right.nd rfl (Or.inr rfl)) (pgs_cons (pg_name (i := 4) sc_small_right.nd rfl (Or.inl rfl)) pgs_nil))))
    (pss_cons (ps_for PassesOwn.never rfl (pi_listK (K := K) rfl (pv 1)) (pg_name (i := 5) sc_small_right.nd rfl (Or.inl rfl))
      (pss_cons (ps_if (pt_cmpR op_ne (pe_op op_mul (pe_op op_fdivW (pv 4) pe_int) pe_int) (pv 4) (nomark _)) (pss_one (ps_dput (hu_of hr) (pv 3) (pv 5) (pe_op op_sub (pe_op op_sub (pv 4) (pe_op op_mul (pe_op op_fdivW (pv 4) pe_int) pe_int)) pe_int) rfl)) pss_nil)
    (pss_one (ps_set (i := 4) sc_small_right.nd rfl (Or.inl rfl) (pe_op op_fdivW (pv 4) pe_int)))))
    (pss_one (ps_if (pt_cmpR (op_neE0 (K := K) rfl hr.units) (pe_lc (own := [("_law_one", 6)]) (g := gName 6) rfl sc_small_right.nd (pi_listK (K := K) rfl (pv 0)) (blkOk_by (N := N_small_right) (sc := defScope s_small_right) (by decide +kernel)) (fun _ _ _ _ _ => (pg_name (i := 6) sc_small_right.nd rfl (Or.inl rfl))) (fun _ _ _ _ _ => (pts_one (pt_not (pt_val (pe_df D.agrees G_agrees (hr.mono (by decide)) (by rfl) (pa_cons (pv 6) (pa_cons (pe_ix ix_M (pv 0) (pe_op op_sub (pv 2) (pe_op op_mul (pe_op op_fdivW (pv 2) pe_int) pe_int)) (fun _ _ => rfl)) (pa_cons (pv 3) pa_nil)))))))) (fun _ _ _ _ _ => (pv 6))) (pe_lst pa_nil) (nomark _)) (pss_one (ps_ret pe_bl)) pss_nil)))))
    (pss_one (ps_ret pe_bl))))), ?_⟩
    walk_at "rd"
    have L0 := Lay.nil H
    refine ⟨by decide, fun p1 h1 => ?_⟩
    have L1 := L0.new (o := HO.tup []) h1
    refine ⟨by decide, fun p2 h2 => ?_⟩
    have L2 := L1.new (o := HO.tup [V.str (Str.ofString "p")]) h2
    refine ⟨by decide, fun p3 h3 => ?_⟩
    have L3 := L2.new (o := HO.tup [V.str (Str.ofString "q")]) h3
    refine ⟨by decide, fun p4 h4 => ?_⟩
    have L4 := L3.new (o := HO.tup [V.str (Str.ofString "p"), V.str (Str.ofString "q")]) h4
    refine ⟨by decide, fun p5 h5 => ?_⟩
    have L5 := L4.new (o := HO.tup [V.str (Str.ofString "q"), V.str (Str.ofString "p")]) h5
    refine ⟨by decide, fun p6 h6 => ?_⟩
    have L6 := L5.new (o := HO.tup [V.str (Str.ofString "p"), V.str (Str.ofString "p")]) h6
    clear L0 L1 L2 L3 L4 L5 h1 h2 h3 h4 h5 h6
    refine ⟨by decide, fun pE hE => ?_⟩
    generalize upd (upd (upd (upd (upd (upd H p1 (HO.tup [])) p2 (HO.tup [V.str (Str.ofString "p")])) p3 (HO.tup [V.str (Str.ofString "q")])) p4 (HO.tup [V.str (Str.ofString "p"), V.str (Str.ofString "q")])) p5 (HO.tup [V.str (Str.ofString "q"), V.str (Str.ofString "p")])) p6 (HO.tup [V.str (Str.ofString "p"), V.str (Str.ofString "p")]) = H1 at L6 hE ⊢
    have e1 := L6.sm
    have o1 : H1 p1 = some (HO.tup []) := L6.obj 0 p1 _ rfl rfl
    have o2 : H1 p2 = some (HO.tup [V.str (Str.ofString "p")]) := L6.obj 1 p2 _ rfl rfl
    have o3 : H1 p3 = some (HO.tup [V.str (Str.ofString "q")]) := L6.obj 2 p3 _ rfl rfl
    have o4 : H1 p4 = some (HO.tup [V.str (Str.ofString "p"), V.str (Str.ofString "q")]) := L6.obj 3 p4 _ rfl rfl
    have o5 : H1 p5 = some (HO.tup [V.str (Str.ofString "q"), V.str (Str.ofString "p")]) := L6.obj 4 p5 _ rfl rfl
    have o6 : H1 p6 = some (HO.tup [V.str (Str.ofString "p"), V.str (Str.ofString "p")]) := L6.obj 5 p6 _ rfl rfl
    clear L6
    have s1 := Same.new (o := HO.lst [V.ref p1, V.ref p2, V.ref p3, V.ref p4, V.ref p5, V.ref p6]) hE
    have oE : upd H1 pE (HO.lst [V.ref p1, V.ref p2, V.ref p3, V.ref p4, V.ref p5, V.ref p6]) pE = some (HO.lst [V.ref p1, V.ref p2, V.ref p3, V.ref p4, V.ref p5, V.ref p6]) := upd_same
    replace o1 := s1 _ _ o1
    replace o2 := s1 _ _ o2
    replace o3 := s1 _ _ o3
    replace o4 := s1 _ _ o4
    replace o5 := s1 _ _ o5
    replace o6 := s1 _ _ o6
    replace e1 := e1.trans s1
    generalize upd H1 pE (HO.lst [V.ref p1, V.ref p2, V.ref p3, V.ref p4, V.ref p5, V.ref p6]) = H2 at e1 oE o1 o2 o3 o4 o5 o6 ⊢
    clear s1 hE
    have vls : ∀ v ∈ [V.ref p1, V.ref p2, V.ref p3, V.ref p4, V.ref p5, V.ref p6], ∃ o, Vl K H2 v o := by
      intro v hv
      simp only [List.mem_cons, List.not_mem_nil, or_false] at hv
      rcases hv with rfl | rfl | rfl | rfl | rfl | rfl
      · exact ⟨_, .tup o1 (by decide) pls0 (by decide +kernel)⟩
      · exact ⟨_, .tup o2 (by decide) (pl2 (pls1 (.str _)) pls0) (by decide +kernel)⟩
      · exact ⟨_, .tup o3 (by decide) (pl2 (pls1 (.str _)) pls0) (by decide +kernel)⟩
      · exact ⟨_, .tup o4 (by decide) (pl2 (pls1 (.str _)) (pl2 (pls1 (.str _)) pls0)) (by decide +kernel)⟩
      · exact ⟨_, .tup o5 (by decide) (pl2 (pls1 (.str _)) (pl2 (pls1 (.str _)) pls0)) (by decide +kernel)⟩
      · exact ⟨_, .tup o6 (by decide) (pl2 (pls1 (.str _)) (pl2 (pls1 (.str _)) pls0)) (by decide +kernel)⟩
    clear o1 o2 o3 o4 o5 o6
    walk_at "go"
    have M0 := Lay.nil H2
    refine ⟨by decide, fun q1 g1 => ?_⟩
    have M1 := M0.new (o := HO.tup [V.str (Str.ofString "p"), V.str (Str.ofString "a"), V.str (Str.ofString "p")]) g1
    refine ⟨by decide, fun q2 g2 => ?_⟩
    have M2 := M1.new (o := HO.tup [V.str (Str.ofString "p"), V.str (Str.ofString "a"), V.str (Str.ofString "q")]) g2
    refine ⟨by decide, fun q3 g3 => ?_⟩
    have M3 := M2.new (o := HO.tup [V.str (Str.ofString "q"), V.str (Str.ofString "a"), V.str (Str.ofString "p")]) g3
    refine ⟨by decide, fun q4 g4 => ?_⟩
    have M4 := M3.new (o := HO.tup [V.str (Str.ofString "q"), V.str (Str.ofString "a"), V.str (Str.ofString "q")]) g4
    clear M0 M1 M2 M3 g1 g2 g3 g4
    refine ⟨by decide, fun qE gE => ?_⟩
    generalize upd (upd (upd (upd H2 q1 (HO.tup [V.str (Str.ofString "p"), V.str (Str.ofString "a"), V.str (Str.ofString "p")])) q2 (HO.tup [V.str (Str.ofString "p"), V.str (Str.ofString "a"), V.str (Str.ofString "q")])) q3 (HO.tup [V.str (Str.ofString "q"), V.str (Str.ofString "a"), V.str (Str.ofString "p")])) q4 (HO.tup [V.str (Str.ofString "q"), V.str (Str.ofString "a"), V.str (Str.ofString "q")]) = H3 at M4 gE ⊢
    have e2 := M4.sm
    have u1 : H3 q1 = some (HO.tup [V.str (Str.ofString "p"), V.str (Str.ofString "a"), V.str (Str.ofString "p")]) := M4.obj 0 q1 _ rfl rfl
    have u2 : H3 q2 = some (HO.tup [V.str (Str.ofString "p"), V.str (Str.ofString "a"), V.str (Str.ofString "q")]) := M4.obj 1 q2 _ rfl rfl
    have u3 : H3 q3 = some (HO.tup [V.str (Str.ofString "q"), V.str (Str.ofString "a"), V.str (Str.ofString "p")]) := M4.obj 2 q3 _ rfl rfl
    have u4 : H3 q4 = some (HO.tup [V.str (Str.ofString "q"), V.str (Str.ofString "a"), V.str (Str.ofString "q")]) := M4.obj 3 q4 _ rfl rfl
    clear M4
    have s2 := Same.new (o := HO.lst [V.ref q1, V.ref q2, V.ref q3, V.ref q4]) gE
    have uE : upd H3 qE (HO.lst [V.ref q1, V.ref q2, V.ref q3, V.ref q4]) qE = some (HO.lst [V.ref q1, V.ref q2, V.ref q3, V.ref q4]) := upd_same
    replace u1 := s2 _ _ u1
    replace u2 := s2 _ _ u2
    replace u3 := s2 _ _ u3
    replace u4 := s2 _ _ u4
    replace e2 := e2.trans s2
    replace oE := e2 _ _ oE
    replace vls : ∀ v ∈ [V.ref p1, V.ref p2, V.ref p3, V.ref p4, V.ref p5, V.ref p6], ∃ o, Vl K (upd H3 qE (HO.lst [V.ref q1, V.ref q2, V.ref q3, V.ref q4])) v o := fun v hv => let ⟨o, h⟩ := vls v hv; ⟨o, h.same e2⟩
    replace e1 := e1.trans e2
    generalize upd H3 qE (HO.lst [V.ref q1, V.ref q2, V.ref q3, V.ref q4]) = H4 at e1 oE uE vls u1 u2 u3 u4 ⊢
    clear s2 gE e2
    have pls : ∀ v ∈ [V.ref q1, V.ref q2, V.ref q3, V.ref q4], ∃ (b : Addr) (ks : List Key), v = .ref b ∧ H4 b = some (.tup (ks.map kV)) ∧ KOk (nkT ks) := by
      intro v hv
      simp only [List.mem_cons, List.not_mem_nil, or_false] at hv
      rcases hv with rfl | rfl | rfl | rfl
      · exact ⟨q1, [.inr (Str.ofString "p"), .inr (Str.ofString "a"), .inr (Str.ofString "p")], rfl, u1, ko_lit (by decide) (by decide +kernel)⟩
      · exact ⟨q2, [.inr (Str.ofString "p"), .inr (Str.ofString "a"), .inr (Str.ofString "q")], rfl, u2, ko_lit (by decide) (by decide +kernel)⟩
      · exact ⟨q3, [.inr (Str.ofString "q"), .inr (Str.ofString "a"), .inr (Str.ofString "p")], rfl, u3, ko_lit (by decide) (by decide +kernel)⟩
      · exact ⟨q4, [.inr (Str.ofString "q"), .inr (Str.ofString "a"), .inr (Str.ofString "q")], rfl, u4, ko_lit (by decide) (by decide +kernel)⟩
    clear u1 u2 u3 u4
    have lE : ([V.ref p1, V.ref p2, V.ref p3, V.ref p4, V.ref p5, V.ref p6] : List V).length = 6 := rfl
    have lP : ([V.ref q1, V.ref q2, V.ref q3, V.ref q4] : List V).length = 4 := rfl
    generalize ([V.ref p1, V.ref p2, V.ref p3, V.ref p4, V.ref p5, V.ref p6] : List V) = es at oE vls lE
    generalize ([V.ref q1, V.ref q2, V.ref q3, V.ref q4] : List V) = ps at uE pls lP
    walk_at "go"
    refine ⟨by decide, by decide, ?_⟩
    have qq : ∀ H', Same H4 H' → Q (.bl true) H' := fun H' e => q H' (e1.trans e)
    clear q e1
    obtain ⟨Pv, hP⟩ := inv_bi (fun (i : Nat) (σ : St) (H' : Hp) => ∃ (o2 o3 o4 o5 : Option V), σ = [some (.ref pE), some (.ref qE), o2, o3, o4, o5, none] ∧ Same H4 H')
    refine loop_range (n := 81) Pv ((hP _ _ _).mpr ⟨_, _, _, _, rfl, Same.refl _⟩) ?_ ?_
    · intro i σ H5 hi hp
      obtain ⟨o2, o3, o4, o5, rfl, s5⟩ := (hP _ _ _).mp hp
      clear hp
      walk_at "rd"
      walk_at "gg"
      intro r hr5
      have e6 := Same.new (o := HO.dT []) hr5
      have h6 : upd H5 r (HO.dT []) r = some (.dT []) := upd_same
      have frr : H4 r = none := by
        cases h : H4 r with
        | none => rfl
        | some o => rw [s5 _ _ h] at hr5; cases hr5
      have s6 := s5.trans e6
      generalize upd H5 r (HO.dT []) = H6 at h6 s6 ⊢
      clear e6 hr5 s5
      walk_at "gg"
      refine ⟨by decide, fun t1 g1 => ⟨_, SqT.of upd_same, rfl, _, _, rfl, _, _, rfl, rfl, ?_⟩⟩
      have e7 := Same.new (o := HO.tup [V.ref r, V.int (i : Int)]) g1
      replace h6 := e7 _ _ h6
      replace s6 := s6.trans e7
      generalize upd H6 t1 (HO.tup [V.ref r, V.int (i : Int)]) = H7 at h6 s6 ⊢
      clear e7 g1
      walk_at "gg"
      refine ⟨⟨_, SqL.of (s6 _ _ uE)⟩, ?_⟩
      obtain ⟨Rv, hR⟩ := inv_bi (fun (j : Nat) (σ : St) (H' : Hp) => ∃ (L : Int) (kvs : List (List Key × V)) (o5 : Option V), σ = [some (.ref pE), some (.ref qE), some (.int (i : Int)), some (.ref r), some (.int L), o5, none] ∧ 0 ≤ L ∧ L ≤ 80 ∧ H' r = some (.dT kvs) ∧ KvOk K H' j kvs ∧ Same H4 H')
      refine loop_list (K := K) (a := qE) (xs := ps) Rv ((hR _ _ _).mpr ⟨(i : Int), [], _, rfl, by omega, by omega, h6, ⟨Nat.le_refl _, List.nodup_nil, (fun p hp => by cases hp), (fun p hp => by cases hp)⟩, s6⟩) (fun j σ H' _ h => by obtain ⟨_, _, _, _, _, _, _, _, h⟩ := (hR _ _ _).mp h; exact SqL.of (h _ _ uE)) (fun j x σ H8 hx hp => ?_) (fun σ H8 hp => ?_)
      · obtain ⟨L, kvs, o5, rfl, l0, l80, h8, kv, s8⟩ := (hR _ _ _).mp hp
        clear hp
        obtain ⟨b, ks, rfl, hb, ko⟩ := pls x (List.mem_of_getElem? hx)
        have hj : j < 4 := by
          have := (List.getElem?_eq_some_iff.mp hx).1
          omega
        have d0 : 0 ≤ L / 3 := by omega
        have d1 : L / 3 ≤ 80 := by omega
        have cm : CMul (L / 3) 3 := .inr ⟨by decide, by decide⟩
        have cd : CDivW L 3 := ⟨by decide, by decide⟩
        have fin : ∀ (L' : Int) (kvs : List (List Key × V)) (o5 : Option V) (H' : Hp), 0 ≤ L' → L' ≤ 80 → H' r = some (.dT kvs) → KvOk K H' (j + 1) kvs → Same H4 H' → Rv (j + 1) [some (.ref pE), some (.ref qE), some (.int (i : Int)), some (.ref r), some (.int L'), o5, none] H' := fun L' kvs o5 H' a b c d e => (hR _ _ _).mpr ⟨L', kvs, o5, rfl, a, b, c, d, e⟩
        clear hR hP
        walk_at "rd"
        walk_at "gg"
        refine ite2 (fun hh => ?_) (fun hh => ?_)
        · refine later ?_
          walk_at "rd"
          have e9 : Same H4 (upd H8 r (HO.dT (putK kvs ks (V.int (L - L / 3 * 3 - 1))))) := fun c o hc => by
            rw [upd_ne (ne_of_none hc frr)]
            exact s8 _ _ hc
          have h9 : upd H8 r (HO.dT (putK kvs ks (V.int (L - L / 3 * 3 - 1)))) r = some (.dT (putK kvs ks (V.int (L - L / 3 * 3 - 1)))) := upd_same
          have k9 := KvOk.upd (o := HO.dT (putK kvs ks (V.int (L - L / 3 * 3 - 1)))) h8 (kv.put ko (.int (L - L / 3 * 3 - 1)))
          refine ⟨_, DPut.t (k := ks) h8 (s8 _ _ hb) (Nat.lt_of_le_of_lt (show kvs.length ≤ 4 by have := kv.len; omega) (by decide)), ?_⟩
          generalize upd H8 r (HO.dT (putK kvs ks (V.int (L - L / 3 * 3 - 1)))) = H9 at e9 h9 k9 ⊢
          walk_at "gg"
          exact fin _ _ _ _ d0 d1 h9 k9 e9
        · walk_at "gg"
          exact fin _ _ _ _ d0 d1 h8 (kv.le (Nat.le_succ _)) s8
      · obtain ⟨L, kvs, o5, rfl, l0, l80, h8, kv, s8⟩ := (hR _ _ _).mp hp
        clear hp
        have fin : ∀ H', Same H4 H' → Pv (i + 1) [some (.ref pE), some (.ref qE), some (.int (i : Int)), some (.ref r), some (.int L), o5, none] H' := fun H' e => (hP _ _ _).mpr ⟨_, _, _, _, rfl, e⟩
        clear hR hP
        have ar := KvOk.ar (w := w) (kv.le (by omega)) h8
        walk_at "gg"
        refine ⟨⟨_, SqL.of (s8 _ _ oE)⟩, ?_⟩
        refine lc_pureW (walk_list (xs := es)) (fun H2 e2 => SqL.of ((s8.trans e2) _ _ oE)) (by omega) (fun _ => false) (fun x => x) (fun _ => rfl) ?_ (fun _ _ hf => by cases hf) ?_
        · intro x hx H9 e9 R hR
          obtain ⟨ox, vx⟩ := vls x hx
          walk_at "rd"
          have hk : i % 6 < es.length := by omega
          have ek : (i : Int) - (i : Int) / 6 * 6 = ((i % 6 : Nat) : Int) := by omega
          obtain ⟨oy, vy⟩ := vls es[i % 6] (List.getElem_mem hk)
          have s9 := s8.trans e9
          refine ⟨⟨by decide, by decide⟩, .inr ⟨by decide, by decide⟩, es, s9 _ _ oE, es[i % 6], by rw [ek]; exact L2.atI_nat (List.getElem?_eq_getElem hk), ?_⟩
          exact ⟨x, es[i % 6], .ref r, ox, oy, _, rfl, vx.same s9, vy.same s9, ar.same e9, fun H' e => ⟨true, rfl, hR H' e⟩⟩
        · intro p H9 hp e9 h9
          walk_at "gg"
          refine ⟨Nat.zero_le _, fun p1 hp1 => ?_⟩
          have e10 := Same.new (o := HO.lst []) hp1
          rw [show es.filter (fun _ => false) = [] from List.filter_eq_nil_iff.mpr (fun _ _ z => by cases z), List.map_nil] at h9
          refine ⟨p, p1, [], rfl, rfl, .inl ⟨SqL.of (e10 _ _ h9), SqL.of upd_same⟩, _, rfl, ?_⟩
          rw [if_neg (by decide)]
          have f2 := fin _ ((s8.trans e9).trans e10)
          clear fin
          walk_at "gg"
    · intro σ H5 hp
      obtain ⟨o2, o3, o4, o5, rfl, s5⟩ := (hP _ _ _).mp hp
      have q2 := qq H5 s5
      clear hp
      walk_at "gg"
      done
end
section
variable {P : Program} {w : World} {K : PySem.W.Frag} {mg : Str → Option Value} {base : Heap} {Z : Ad}
open LPMX
/-! ### machines of many states -/
def LET : Str := "abcdefghijklmnopqrstuvwxyz"
def nmAt (i : Nat) : Str := Str.ofString "n" ++ ⟨#[LET.cps.getD i 0]⟩
def NM : List Str := (List.range 26).map nmAt
def kAt (c k : Nat) : List Key := [.inr (nmAt (c + k)), .inr (Str.ofString "a"), .inr (nmAt (c + k + 1))]
/-- the arcs behind k turns, from the state c on -/
def kvAt (c : Nat) : Nat → List (List Key × V)
  | 0 => []
  | k + 1 => putK (kvAt c k) (kAt c k) (.int 1)
def manyB (m c : Nat) : Bool := partsB (some (((NM.take m).take c).map V.str)) (some [V.str (nmAt 0)]) (some ((kvAt (c - 1) (m - c)).map fun p => (nkT p.1, p.2)))
theorem many_all : ([23, 24, 25, 26].all fun m => (List.range m).all fun c => decide (c = 0) || (manyB m c == decide (m < 25))) = true := by decide +kernel
end
section
variable {P : Program} {w : World} {K : PySem.W.Frag} {mg : Str → Option Value} {base : Heap} {Z : Ad}
open LPMX
/-! ### the law -/
theorem nm_list : (List.range LET.cps.size).map (fun k => V.str (nmAt k)) = NM.map V.str := by
  have e : LET.cps.size = 26 := by decide +kernel
  rw [e]
  unfold NM
  rw [List.map_map]
  rfl
theorem cut_tail (xs : List V) (n : Nat) (h : n ≤ xs.length) : cutV xs (some (n : Int)) none = xs.drop n := by
  unfold cutV
  rw [HT.sIx_nat, HT.sIx_none, Nat.min_eq_left h, List.take_of_length_le (by rw [List.length_drop]; exact Nat.le_refl _)]
theorem nm_get {n k : Nat} (hk : k < n) (hn : n ≤ 26) : ((NM.take n).map V.str)[k]? = some (.str (nmAt k)) := by
  rw [List.getElem?_map, List.getElem?_take, if_pos hk]
  unfold NM
  rw [List.getElem?_map, List.getElem?_range (by omega)]
  rfl
theorem nm_len (k : Nat) : (nmAt k).length = 2 := by
  unfold nmAt
  rw [len_app]
  show (Str.ofString "n").length + 1 = 2
  decide +kernel
theorem nm_small : ∀ x ∈ NM, x.length ≤ 1000000 := fun x hx => by
  obtain ⟨k, _, rfl⟩ := List.mem_map.mp hx
  rw [nm_len]
  decide
theorem kv_at {H : Hp} (c : Nat) : ∀ k : Nat, KvOk K H k (kvAt c k)
  | 0 => ⟨Nat.le_refl _, List.nodup_nil, (fun p hp => by cases hp), (fun p hp => by cases hp)⟩
  | k + 1 => (kv_at c k).put (ko_strs _ (by show 3 ≤ 1000; decide) fun q hq x e => by
      simp only [kAt, List.mem_cons, List.not_mem_nil, or_false] at hq
      rcases hq with rfl | rfl | rfl
      · cases e
        rw [nm_len]
        decide
      · cases e
        decide +kernel
      · cases e
        rw [nm_len]
        decide) (.int 1)
theorem many_of {n c : Nat} (hn : n ∈ [23, 24, 25, 26]) (c1 : 1 ≤ c) (cn : c < n) : partsB (some (((NM.take n).take c).map V.str)) (some ([nmAt 0].map V.str)) (some ((kvAt (c - 1) (n - c)).map fun p => (nkT p.1, p.2))) = decide (n < 25) := by
  have h := List.all_eq_true.mp (List.all_eq_true.mp many_all n hn) c (List.mem_range.mpr cn)
  rw [decide_eq_false (by omega), Bool.false_or] at h
  exact eq_of_beq h
def spLaw (K : PySem.W.Frag) : Sp := fun vs H Q _ => ∃ (a : Addr) (ns : List Int), vs = [.ref a] ∧ SqL K H a (ns.map V.int) ∧ ns.length ≤ 63 ∧ ∀ H', Q (.bl true) H'
theorem ok_law (D : Ds K mg Z) (B : Bt mg) (C0 : Cs mg) (Y : Tx K Z) : FnG P w K mg base CX0 14 Z.a_law Z.d_law P_law (spLaw K) := by
  have G_dice := ok_dice (P := P) (w := w) (base := base) D B
  have G_roll := ok_roll (P := P) (w := w) (base := base) D B
  have G_any_machine := ok_any_machine (P := P) (w := w) (base := base) D B C0
  have G_bent := ok_bent (P := P) (w := w) (base := base) D B C0
  have G_agrees := ok_agrees (P := P) (w := w) (base := base) D B C0 Y
  have G_is_made := ok_is_made (P := P) (w := w) (base := base) D B C0 Y
  have G_small_right := ok_small_right (P := P) (w := w) (base := base) D B C0 Y
  obtain ⟨⟨t_LIMIT, c_LIMIT⟩, ⟨t_ALPHABET, c_ALPHABET⟩, ⟨t_MAX_LETTERS, c_MAX_LETTERS⟩, ⟨t_MAX_STATES, c_MAX_STATES⟩, ⟨t_MAX_PRICE, c_MAX_PRICE⟩, ⟨t_FIRST, c_FIRST⟩, ⟨t_LAST, c_LAST⟩, ⟨t_ARC, c_ARC⟩⟩ := C0
  refine okG D.law.F sc_law (fun vs H Q E h => ?_) (fun cdv A outer s H vs Q E gd hr h => ?_)
  · obtain ⟨a, ns, rfl, _⟩ := h
    rfl
  · obtain ⟨a, ns, rfl, hS, hlen, q⟩ := h
    refine ⟨_, (pss_cons (ps_for PassesOwn.never rfl (pi_range1 (by rfl) B.range (pa_cons (pe_callB (call_max2 rfl) (by rfl) B.max (by decide +kernel) (pa_cons pe_int (pa_cons (pe_callB (call_min2 rfl) (by rfl) B.min (by decide +kernel) (pa_cons pe_int (pa_cons (pe_callB (call_lenK (K := K) rfl) (by rfl) B.len (by decide +kernel) (pa_cons (pv 0) pa_nil)) pa_nil))) pa_nil))) pa_nil)) (pg_name (i := 1) sc_law.nd rfl (Or.inl rfl))
      (pss_cons (ps_set (i := 2) sc_law.nd rfl (Or.inl rfl) (pe_df D.dice G_dice (hr.mono (by decide)) (by rfl) (pa_cons (pv 0) (pa_cons (pv 1) pa_nil))))
    (pss_cons (ps_for PassesOwn.never rfl (pi_range1 (by rfl) B.range (pa_cons pe_int pa_nil)) (pg_name (i := 3) sc_law.nd rfl (Or.inl rfl))
      (pss_cons (ps_set (i := 4) sc_law.nd rfl (Or.inl rfl) (pe_df D.any_machine G_any_machine (hr.mono (by decide)) (by rfl) (pa_cons (pv 2) (pa_cons pe_int (pa_cons pe_int pa_nil)))))
    (pss_cons (ps_set (i := 5) sc_law.nd rfl (Or.inl rfl) (pe_df D.bent G_bent (hr.mono (by decide)) (by rfl) (pa_cons (pv 2) (pa_cons (pe_callTy call_tupM (by rfl) B.tuple (by decide +kernel) (pa_cons (pe_dget (hu_of hr) (pv 4) pe_str (fun _ _ => rfl)) pa_nil)) (pa_cons (pe_callTy call_tupM (by rfl) B.tuple (by decide +kernel) (pa_cons (pe_dget (hu_of hr) (pv 4) pe_str (fun _ _ => rfl)) pa_nil)) (pa_cons (pe_dget (hu_of hr) (pv 4) pe_str (fun _ _ => rfl)) pa_nil))))))
    (pss_one (ps_if (pt_not (pt_val (pe_df D.agrees G_agrees (hr.mono (by decide)) (by rfl) (pa_cons (pe_ix ix_M (pv 5) pe_int (fun _ _ => rfl)) (pa_cons (pe_ix ix_M (pv 5) pe_int (fun _ _ => rfl)) (pa_cons (pe_ix ix_M (pv 5) pe_int (fun _ _ => rfl)) pa_nil)))))) (pss_one (ps_ret pe_bl)) pss_nil)))))
    (pss_one (ps_for PassesOwn.never rfl (pi_tupK (K := K) rfl (pe_tup (pa_cons pe_int (pa_cons pe_int (pa_cons pe_int (pa_cons pe_int pa_nil)))))) (pg_name (i := 6) sc_law.nd rfl (Or.inl rfl))
      (pss_cons (ps_set (i := 7) sc_law.nd rfl (Or.inl rfl) (pe_slice (sl_listK (K := K) rfl) (pe_lc (own := [("_law_letter", 8)]) (g := gName 8) rfl sc_law.nd (pi_str pe_str) (blkOk_by (N := N_law) (sc := defScope s_law) (by decide +kernel)) (fun _ _ _ _ _ => (pg_name (i := 8) sc_law.nd rfl (Or.inl rfl))) (fun _ _ _ _ _ => pts_nil) (fun _ _ _ _ _ => (pe_op op_add_str pe_str (pv 8)))) po_none (po_some (pv 6))))
    (pss_cons (ps_par (i := 9) (j := 10) (by rfl) sc_law.nd rfl rfl (by decide) rfl rfl (pa_cons (pe_op op_add (pe_df D.roll G_roll (hr.mono (by decide)) (by rfl) (pa_cons (pv 2) (pa_cons (pe_op op_sub (pv 6) pe_int) pa_nil))) pe_int) (pa_cons pe_dnewT pa_nil)) (by rfl))
    (pss_cons (ps_for PassesOwn.never rfl (pi_zipNK (K := K) rfl (by rfl) B.zip (pa_cons (pe_slice (sl_listK (K := K) rfl) (pv 7) (po_some (pe_op op_sub (pv 9) pe_int)) po_none) (pa_cons (pe_slice (sl_listK (K := K) rfl) (pv 7) (po_some (pv 9)) po_none) pa_nil))) (pg_tupK (K := K) (n := 2) rfl rfl (pgs_cons (pg_name (i := 11) sc_law.nd rfl (Or.inl rfl)) (pgs_cons (pg_name (i := 12) sc_law.nd rfl (Or.inl rfl)) pgs_nil)))
      (pss_one (ps_dput (hu_of hr) (pv 10) (pe_tup (pa_cons (pv 11) (pa_cons pe_str (pa_cons (pv 12) pa_nil)))) pe_int rfl)))
    (pss_one (ps_if (pt_cmpR op_ne (pe_df D.is_made G_is_made (hr.mono (by decide)) (by rfl) (pa_cons (pe_callTy call_tupM (by rfl) B.tuple (by decide +kernel) (pa_cons (pe_slice (sl_listK (K := K) rfl) (pv 7) po_none (po_some (pv 9))) pa_nil)) (pa_cons (pe_tup (pa_cons (pe_ix ix_M (pv 7) pe_int (fun _ _ => rfl)) pa_nil)) (pa_cons (pv 10) pa_nil)))) (pe_cmpR op_lt (pv 6) pe_int (nomark _)) (nomark _)) (pss_one (ps_ret pe_bl)) pss_nil))))))))))
    (pss_one (ps_ret (pe_df0 D.small_right G_small_right (hr.mono (by decide)) (by rfl))))), ?_⟩
    walk_at "rd"
    refine ⟨_, .inl hS, ?_⟩
    have hm : ∀ k : Nat, (1 : Int) ≤ (if (if (k : Int) < 4 then (k : Int) else 4) > 1 then if (k : Int) < 4 then (k : Int) else 4 else 1) ∧ (if (if (k : Int) < 4 then (k : Int) else 4) > 1 then if (k : Int) < 4 then (k : Int) else 4 else 1) ≤ 4 := by
      intro k
      split <;> split <;> omega
    obtain ⟨m0, m1⟩ := hm (ns.map V.int).length
    generalize (if (if ((ns.map V.int).length : Int) < 4 then ((ns.map V.int).length : Int) else 4) > 1 then if ((ns.map V.int).length : Int) < 4 then ((ns.map V.int).length : Int) else 4 else 1) = m at m0 m1 ⊢
    refine ⟨by omega, by omega, ?_⟩
    obtain ⟨Pv, hP⟩ := inv_bi (fun (i : Nat) (σ : St) (H' : Hp) => ∃ (o1 o2 o3 o4 o5 o6 o7 o9 o10 o11 o12 : Option V), σ = [some (.ref a), o1, o2, o3, o4, o5, o6, o7, none, o9, o10, o11, o12] ∧ Same H H')
    refine loop_range Pv ((hP _ _ _).mpr ⟨_, _, _, _, _, _, _, _, _, _, _, rfl, Same.refl H⟩) ?_ ?_
    · intro i σ H1 hi hp
      obtain ⟨o1, o2, o3, o4, o5, o6, o7, o9, o10, o11, o12, rfl, e1⟩ := (hP _ _ _).mp hp
      clear hp
      walk_at "rd"
      walk_at "gg"
      refine ⟨a, ns, i, rfl, e1.seq hS, fun d x y hd => ?_⟩
      have hd0 : H d = none := e1.free hd
      have e2 := e1.trans (Same.new (o := HO.lst [.int x, .int y, .int 0]) hd)
      have hd2 : upd H1 d (HO.lst [.int x, .int y, .int 0]) d = some (.lst [.int x, .int y, .int 0]) := upd_same
      generalize upd H1 d (HO.lst [.int x, .int y, .int 0]) = H2 at e2 hd2 ⊢
      walk_at "gg"
      refine ⟨by decide, by decide, ?_⟩
      obtain ⟨Rv, hR⟩ := inv_bi (fun (j : Nat) (σ : St) (H' : Hp) => ∃ (o3 o4 o5 : Option V), σ = [some (.ref a), some (.int ((i : Nat) : Int)), some (.ref d), o3, o4, o5, o6, o7, none, o9, o10, o11, o12] ∧ Dk d H2 H')
      refine loop_range Rv ((hR _ _ _).mpr ⟨_, _, _, rfl, Dk.refl hd2⟩) ?_ ?_
      · intro j σ H3 hj hp
        obtain ⟨o3', o4', o5', rfl, dk⟩ := (hR _ _ _).mp hp
        clear hp
        obtain ⟨x3, y3, z3, hd3⟩ := dk.2
        walk_at "rd"
        walk_at "gg"
        refine ⟨d, x3, y3, z3, 4, 3, rfl, hd3, by decide, by decide, by decide, by decide, fun p fs ls mm H4 dk4 hp np pl dm => ?_⟩
        walk_at "gg"
        obtain ⟨f, l, aa, pl⟩ := pl
        obtain ⟨x4, y4, z4, hd4⟩ := dk4.2
        refine ⟨_, pl.gF, f, rfl, _, pl.2.1, fun t1 g1 => ?_⟩
        have s1 := Same.new (o := HO.tup (fs.map V.str)) g1
        have ht1 : upd H4 t1 (HO.tup (fs.map V.str)) t1 = some (.tup (fs.map V.str)) := upd_same
        have pl1 := pl.same s1
        generalize upd H4 t1 (HO.tup (fs.map V.str)) = H5 at s1 ht1 pl1 ⊢
        refine ⟨_, pl1.gL, l, rfl, _, pl1.2.2.1, fun t2 g2 => ?_⟩
        have s2 := Same.new (o := HO.tup (ls.map V.str)) g2
        have ht2 : upd H5 t2 (HO.tup (ls.map V.str)) t2 = some (.tup (ls.map V.str)) := upd_same
        have pl2 := pl1.same s2
        replace ht1 := s2 _ _ ht1
        have s3 := s1.trans s2
        generalize upd H5 t2 (HO.tup (ls.map V.str)) = H6 at s3 ht1 ht2 pl2 ⊢
        refine ⟨_, pl2.gA, d, t1, t2, aa, x4, y4, z4, fs, ls, mm, rfl, s3 _ _ hd4, ht1, ht2, pl2.2.2.2, dm.mono (by decide), fun pp v1 v2 v3 fo lo ao H7 dk7 hpp w1 w2 w3 => ?_⟩
        have fin : ∀ H8, Same H7 H8 → Rv (j + 1) [some (.ref a), some (.int ((i : Nat) : Int)), some (.ref d), some (.int ((j : Nat) : Int)), some (.ref p), some (.ref pp), o6, o7, none, o9, o10, o11, o12] H8 := fun H8 e8 => (hR _ _ _).mpr ⟨_, _, _, rfl, (((dk.trans dk4).same s3).trans dk7).same e8⟩
        clear hR hP dm pl pl1 pl2 ht1 ht2 s1 s2 s3 g1 g2 dk4 hd4 dk hd3
        walk_at "gg"
        refine ⟨v1, v2, v3, fo, lo, ao, rfl, w1, w2, w3, fun H8 e8 => ⟨true, rfl, ?_⟩⟩
        have f8 := fin H8 e8
        clear fin w1 w2 w3
        rw [if_neg (by decide)]
        walk_at "gg"
      · intro σ H3 hp
        obtain ⟨o3', o4', o5', rfl, dk⟩ := (hR _ _ _).mp hp
        clear hp
        walk_at "gg"
        refine ⟨by decide, fun pt gt => ⟨⟨_, SqT.of upd_same⟩, ?_⟩⟩
        have npd : pt ≠ d := by
          obtain ⟨x3, y3, z3, hd3⟩ := dk.2
          exact Dk.ne hd3 gt
        have fr2 : H2 pt = none := dk.none npd gt
        have hpt : upd H3 pt (HO.tup [V.int 23, V.int 24, V.int 25, V.int 26]) pt = some (.tup [V.int 23, V.int 24, V.int 25, V.int 26]) := upd_same
        replace dk := dk.same (Same.new (o := HO.tup [V.int 23, V.int 24, V.int 25, V.int 26]) gt)
        generalize upd H3 pt (HO.tup [V.int 23, V.int 24, V.int 25, V.int 26]) = H3 at hpt dk ⊢
        clear gt
        obtain ⟨Sv, hT⟩ := inv_bi (fun (j : Nat) (σ : St) (H' : Hp) => ∃ (o6 o7 o9 o10 o11 o12 : Option V), σ = [some (.ref a), some (.int ((i : Nat) : Int)), some (.ref d), o3', o4', o5', o6, o7, none, o9, o10, o11, o12] ∧ Dk d H3 H')
        refine loop_tup (K := K) (a := pt) (xs := [V.int 23, V.int 24, V.int 25, V.int 26]) Sv ((hT _ _ _).mpr ⟨_, _, _, _, _, _, rfl, (fun b o _ h => h), dk.2⟩) (fun j σ H' _ h => by obtain ⟨_, _, _, _, _, _, _, h⟩ := (hT _ _ _).mp h; exact SqT.of (h.1 _ _ npd hpt)) (fun j x σ H4 hx hp => ?_) (fun σ H4 hp => ?_)
        · obtain ⟨p6, p7, p9, p10, p11, p12, rfl, dk4⟩ := (hT _ _ _).mp hp
          clear hp
          obtain ⟨n, rfl, hn⟩ : ∃ n : Nat, x = .int (n : Int) ∧ n ∈ [23, 24, 25, 26] := by
            have hm := List.mem_of_getElem? hx
            simp only [List.mem_cons, List.not_mem_nil, or_false] at hm
            rcases hm with rfl | rfl | rfl | rfl
            · exact ⟨23, rfl, by decide⟩
            · exact ⟨24, rfl, by decide⟩
            · exact ⟨25, rfl, by decide⟩
            · exact ⟨26, rfl, by decide⟩
          have fin : ∀ (o6 o7 o9 o10 o11 o12 : Option V) H5, Dk d H4 H5 → Sv (j + 1) [some (.ref a), some (.int ((i : Nat) : Int)), some (.ref d), o3', o4', o5', o6, o7, none, o9, o10, o11, o12] H5 := fun o6 o7 o9 o10 o11 o12 H5 k => (hT _ _ _).mpr ⟨_, _, _, _, _, _, rfl, dk4.trans k⟩
          obtain ⟨x4, y4, z4, hd4⟩ := dk4.2
          clear hT hR hP dk4 hx
          walk_at "rd"
          walk_at "gg"
          refine lc_val (walk_str (z := LET)) (fun k => .str (nmAt k)) (fun _ _ => trivial) (by decide +kernel) ?_ ?_
          · intro k x1 H5 H6 hk e5 yy R hR
            obtain ⟨rfl, c, hc, rfl⟩ := yy
            have en : nmAt k = Str.ofString "n" ++ ⟨#[c]⟩ := by
              unfold nmAt
              rw [Array.getD_eq_getD_getElem?, hc]
              rfl
            rw [en] at hR
            have hR2 := hR H6 (Same.refl _)
            clear hR fin
            walk_at "rd"
            show (Str.ofString "n").length + 1 ≤ sizeLine
            decide +kernel
          · intro lp H5 hlp e5 h5
            rw [nm_list] at h5
            refine ⟨lp, _, rfl, SqL.of h5, fun l2 g2 => ?_⟩
            rw [cut_take, ← List.map_take]
            have s6 := Same.new (o := HO.lst ((NM.take n).map V.str)) g2
            have h6 : upd H5 l2 (HO.lst ((NM.take n).map V.str)) l2 = some (.lst ((NM.take n).map V.str)) := upd_same
            have hd6 := s6 _ _ (e5 _ _ hd4)
            have n2d : l2 ≠ d := Dk.ne (e5 _ _ hd4) g2
            have dk6 := Dk.of hd4 (e5.trans s6)
            generalize upd H5 l2 (HO.lst ((NM.take n).map V.str)) = H6 at h6 hd6 dk6 ⊢
            clear s6 e5 h5 g2 hlp
            have ln : (NM.take n).length = n := by
              rw [List.length_take]
              have : NM.length = 26 := by decide +kernel
              simp only [List.mem_cons, List.not_mem_nil, or_false] at hn
              omega
            have n23 : 23 ≤ n ∧ n ≤ 26 := by
              simp only [List.mem_cons, List.not_mem_nil, or_false] at hn
              omega
            walk_at "go"
            refine ⟨d, x4, y4, z4, (n : Int) - 1, rfl, hd6, by omega, Nat.lt_of_lt_of_le (log2_of (k := 10) (by omega) (by decide)) (by decide), fun rr x5 y5 z5 r0 r1 => ⟨rr, rfl, fun r gr => ?_⟩⟩
            obtain ⟨c, hc, c1, cn⟩ : ∃ c : Nat, rr + 1 = (c : Int) ∧ 1 ≤ c ∧ c < n := ⟨rr.toNat + 1, by omega, by omega, by omega⟩
            rw [hc]
            have hd7 : upd H6 d (HO.lst [.int x5, .int y5, .int z5]) d = some (HO.lst [.int x5, .int y5, .int z5]) := upd_same
            have h7 : upd H6 d (HO.lst [.int x5, .int y5, .int z5]) l2 = _ := (upd_ne n2d).trans h6
            replace dk6 := dk6.trans (Dk.roll x5 y5 z5)
            generalize upd H6 d (HO.lst [.int x5, .int y5, .int z5]) = H7 at hd7 h7 dk6 gr ⊢
            have nrd : r ≠ d := Dk.ne hd7 gr
            have frr : H4 r = none := dk6.none nrd gr
            have s8 := Same.new (o := HO.dT []) gr
            have hr8 : upd H7 r (HO.dT []) r = some (.dT []) := upd_same
            have h8 := s8 _ _ h7
            replace dk6 := dk6.same s8
            have hd8 := s8 _ _ hd7
            generalize upd H7 r (HO.dT []) = H8 at hr8 h8 dk6 hd8 ⊢
            clear hd4 hd6 hd7 h6 h7 gr s8 hc r0 r1 n2d
            walk_at "gg"
            have lenL : ((NM.take n).map V.str).length = n := by rw [List.length_map, ln]
            have getL : ∀ k, k < n → ((NM.take n).map V.str)[k]? = some (.str (nmAt k)) := fun k hk => nm_get hk n23.2
            refine ⟨l2, _, rfl, SqL.of h8, fun u1 g1 => ?_⟩
            rw [show (c : Int) - 1 = ((c - 1 : Nat) : Int) by omega, cut_tail _ (c - 1) (by omega)]
            have s1 := Same.new (o := HO.lst (((NM.take n).map V.str).drop (c - 1))) g1
            have k1 : upd H8 u1 (HO.lst (((NM.take n).map V.str).drop (c - 1))) u1 = some (.lst (((NM.take n).map V.str).drop (c - 1))) := upd_same
            replace h8 := s1 _ _ h8
            replace hr8 := s1 _ _ hr8
            replace hd8 := s1 _ _ hd8
            replace dk6 := dk6.same s1
            generalize upd H8 u1 (HO.lst (((NM.take n).map V.str).drop (c - 1))) = H8 at h8 hr8 hd8 dk6 k1 ⊢
            clear s1 g1
            refine ⟨l2, _, rfl, SqL.of h8, fun u2 g2 => ?_⟩
            rw [cut_tail _ c (by omega)]
            have s1 := Same.new (o := HO.lst (((NM.take n).map V.str).drop c)) g2
            have k2 : upd H8 u2 (HO.lst (((NM.take n).map V.str).drop c)) u2 = some (.lst (((NM.take n).map V.str).drop c)) := upd_same
            replace h8 := s1 _ _ h8
            replace hr8 := s1 _ _ hr8
            replace hd8 := s1 _ _ hd8
            replace dk6 := dk6.same s1
            replace k1 := s1 _ _ k1
            generalize upd H8 u2 (HO.lst (((NM.take n).map V.str).drop c)) = H8 at h8 hr8 hd8 dk6 k1 k2 ⊢
            clear s1 g2
            have l1 : (((NM.take n).map V.str).drop (c - 1)).length = n - (c - 1) := by rw [List.length_drop, lenL]
            have l2' : (((NM.take n).map V.str).drop c).length = n - c := by rw [List.length_drop, lenL]
            have nu1 : u1 ≠ r := fun e => by rw [e, hr8] at k1; cases k1
            have nu2 : u2 ≠ r := fun e => by rw [e, hr8] at k2; cases k2
            have nl2 : l2 ≠ r := fun e => by rw [e, hr8] at h8; cases h8
            refine ⟨[.lst u1, .lst u2], .cons rfl (SqL.of k1) (.cons rfl (SqL.of k2) .nil), Nat.zero_lt_succ _, by show 2 ≤ 1000; decide, ?_⟩
            obtain ⟨Wv, hW⟩ := inv_bi (fun (k : Nat) (σ : St) (H' : Hp) => ∃ (q11 q12 : Option V), σ = [some (.ref a), some (.int ((i : Nat) : Int)), some (.ref d), o3', o4', o5', some (.int (n : Int)), some (.ref l2), none, some (.int (c : Int)), some (.ref r), q11, q12] ∧ (∀ b o, b ≠ r → H8 b = some o → H' b = some o) ∧ H' r = some (.dT (kvAt (c - 1) k)))
            refine loop_it (walk_zipS (s1 := .lst u1) (s2 := .lst u2) (xs := ((NM.take n).map V.str).drop (c - 1)) (ys := ((NM.take n).map V.str).drop c) (by omega)) Wv ((hW _ _ _).mpr ⟨_, _, rfl, fun b o _ h => h, hr8⟩) (fun k σ H' _ h => by obtain ⟨_, _, _, h, _⟩ := (hW _ _ _).mp h; exact ⟨SqL.of (h _ _ nu1 k1), SqL.of (h _ _ nu2 k2)⟩) (fun k x σ H9 HA hk hp yy => ?_) (fun σ H9 hp => ?_)
            · obtain ⟨q11, q12, rfl, kp, hr9⟩ := (hW _ _ _).mp hp
              obtain ⟨T, x1, y1, rfl, hT, rfl, h1, h2⟩ := yy
              rw [l2'] at hk
              dsimp only at h1 h2
              rw [List.getElem?_drop, getL _ (by omega)] at h1 h2
              cases h1
              cases h2
              have fin2 : ∀ q11 q12 H', (∀ b o, b ≠ r → H8 b = some o → H' b = some o) → H' r = some (.dT (kvAt (c - 1) (k + 1))) → Wv (k + 1) [some (.ref a), some (.int ((i : Nat) : Int)), some (.ref d), o3', o4', o5', some (.int (n : Int)), some (.ref l2), none, some (.int (c : Int)), some (.ref r), q11, q12] H' := fun q11 q12 H' a b => (hW _ _ _).mpr ⟨_, _, rfl, a, b⟩
              clear hW hp fin
              walk_at "rd"
              refine ⟨_, SqT.of upd_same, rfl, _, _, rfl, _, _, rfl, rfl, ?_⟩
              have eB := Same.new (o := HO.tup [V.str (nmAt (c - 1 + k)), V.str (nmAt (c + k))]) hT
              replace hr9 := eB _ _ hr9
              replace kp : ∀ b o, b ≠ r → H8 b = some o → upd H9 T (HO.tup [V.str (nmAt (c - 1 + k)), V.str (nmAt (c + k))]) b = some o := fun b o h1 h2 => eB _ _ (kp b o h1 h2)
              generalize upd H9 T (HO.tup [V.str (nmAt (c - 1 + k)), V.str (nmAt (c + k))]) = HB at hr9 kp ⊢
              walk_at "gg"
              refine ⟨by decide, fun t5 g5 => ?_⟩
              have eC := Same.new (o := HO.tup [V.str (nmAt (c - 1 + k)), V.str (Str.ofString "a"), V.str (nmAt (c + k))]) g5
              have h5 : upd HB t5 (HO.tup [V.str (nmAt (c - 1 + k)), V.str (Str.ofString "a"), V.str (nmAt (c + k))]) t5 = some (.tup ((kAt (c - 1) k).map kV)) := by
                rw [upd_same, show c + k = c - 1 + k + 1 by omega]
                rfl
              replace hr9 := eC _ _ hr9
              replace kp := fun b o h1 h2 => eC _ _ (kp b o h1 h2)
              generalize upd HB t5 (HO.tup [V.str (nmAt (c - 1 + k)), V.str (Str.ofString "a"), V.str (nmAt (c + k))]) = HC at hr9 kp h5 ⊢
              refine ⟨_, DPut.t (k := kAt (c - 1) k) hr9 h5 (Nat.lt_of_le_of_lt (show (kvAt (c - 1) k).length ≤ 26 by have := (kv_at (K := K) (H := HC) (c - 1) k).len; omega) (by decide)), fin2 _ _ _ (fun b o h1 h2 => ?_) upd_same⟩
              rw [upd_ne h1]
              exact kp b o h1 h2
            · obtain ⟨q11, q12, rfl, kp, hr9⟩ := (hW _ _ _).mp hp
              rw [l2'] at hr9
              clear hW hp
              have h9 := kp _ _ nl2 h8
              have dk9 : Dk d H4 H9 := ⟨fun b o hb e => kp b o (ne_of_none e frr) (dk6.1 b o hb e), _, _, _, kp _ _ nrd.symm hd8⟩
              have ka := kv_at (K := K) (H := H9) (c - 1) (n - c)
              have ar := KvOk.ar (w := w) (ka.le (by omega)) hr9
              walk_at "gg"
              refine ⟨l2, _, rfl, SqL.of h9, fun u3 g3 => ⟨u3, rfl, _, upd_same, fun t3 g4 => ?_⟩⟩
              rw [cut_take, ← List.map_take]
              rw [cut_take, ← List.map_take] at g4
              have s1 := Same.new (o := HO.lst (((NM.take n).take c).map V.str)) g3
              have s2 := Same.new (o := HO.tup (((NM.take n).take c).map V.str)) g4
              have sa := s1.trans s2
              have ht3 : upd (upd H9 u3 (HO.lst (((NM.take n).take c).map V.str))) t3 (HO.tup (((NM.take n).take c).map V.str)) t3 = some (.tup (((NM.take n).take c).map V.str)) := upd_same
              generalize upd (upd H9 u3 (HO.lst (((NM.take n).take c).map V.str))) t3 (HO.tup (((NM.take n).take c).map V.str)) = HA at sa ht3 ⊢
              clear s1 s2 g3 g4
              refine ⟨_, sa _ _ h9, .str (nmAt 0), L2.atI_nat (getL 0 (by omega)), by decide, fun t4 g5 => ?_⟩
              have s3 := Same.new (o := HO.tup [V.str (nmAt 0)]) g5
              have ht4 : upd HA t4 (HO.tup [V.str (nmAt 0)]) t4 = some (.tup ([nmAt 0].map V.str)) := upd_same
              replace ht3 := s3 _ _ ht3
              replace sa := sa.trans s3
              generalize upd HA t4 (HO.tup [V.str (nmAt 0)]) = HB at sa ht3 ht4 ⊢
              have vf := ends_vl (K := K) ht3 (by rw [List.length_take]; omega) (fun x hx => nm_small x (List.mem_of_mem_take (List.mem_of_mem_take hx)))
              have vl := ends_vl (K := K) ht4 (by decide) (fun x hx => by rw [List.mem_singleton.mp hx, nm_len]; decide)
              refine ⟨.ref t3, .ref t4, .ref r, _, _, _, rfl, vf, vl, ar.same sa, fun HC eC => ?_⟩
              have f2 := fin (some (.int (n : Int))) (some (.ref l2)) (some (.int (c : Int))) (some (.ref r)) q11 q12 HC (dk9.same (sa.trans eC))
              rw [(many_of hn c1 cn).trans (show decide (n < 25) = decide ((n : Int) < 25) from decide_eq_decide.mpr (by omega))]
              refine ⟨LP.scal_blE _ _, ?_⟩
              rw [if_neg (by simp)]
              clear fin vf vl ar ka
              walk_at "gg"
        · obtain ⟨p6, p7, p9, p10, p11, p12, rfl, dk4⟩ := (hT _ _ _).mp hp
          have f1 := (hP (i + 1) [some (.ref a), some (.int ((i : Nat) : Int)), some (.ref d), o3', o4', o5', p6, p7, none, p9, p10, p11, p12] H4).mpr ⟨_, _, _, _, _, _, _, _, _, _, _, rfl, fun b o eb => (dk.trans dk4).1 b o (fun z => by rw [z, hd0] at eb; cases eb) (e2 _ _ eb)⟩
          exact f1
    · intro σ H1 hp
      obtain ⟨o1, o2, o3, o4, o5, o6, o7, o9, o10, o11, o12, rfl, e1⟩ := (hP _ _ _).mp hp
      walk_at "gg"
      exact ⟨rfl, fun H' _ => q H'⟩
end

theorem all_mk {l : PySem.W.OpenLaw} {w : World} {K : PySem.W.Frag} {h : Heap} {mg : Str → Option Value} {fa : Addr} (X : K.In h) (G : h.Ns mainGlobals mg) (hfa : mg "law" = some (.ref fa)) (c : SaysZ FA FN TF EX h K) :
    ∃ fd : FuncData, (∀ (s : Shared) (v : Value), BindsTo s fd ⟨[v], []⟩ [("_law_script", v)]) ∧ ∀ base : Heap, K.In base → base.Ns mainGlobals mg →
      FnG l.prog w K mg base CX0 14 fa fd ["_law_script"] (spLaw K) := by
  have e := hfa.symm.trans (He.glo_ok X G (x := "law") (c.fact 37 (f := .glo "law") rfl))
  cases e
  obtain ⟨fd1, F1⟩ := c.defn 0 (d := u_0) rfl
  obtain ⟨fd2, F2⟩ := c.defn 1 (d := u_1) rfl
  obtain ⟨fd3, F3⟩ := c.defn 2 (d := u_2) rfl
  obtain ⟨fd4, F4⟩ := c.defn 3 (d := u_3) rfl
  obtain ⟨fd5, F5⟩ := c.defn 4 (d := u_4) rfl
  obtain ⟨fd6, F6⟩ := c.defn 5 (d := u_5) rfl
  obtain ⟨fd7, F7⟩ := c.defn 6 (d := u_6) rfl
  obtain ⟨fd8, F8⟩ := c.defn 7 (d := u_7) rfl
  obtain ⟨fd9, F9⟩ := c.defn 8 (d := u_8) rfl
  obtain ⟨fd10, F10⟩ := c.defn 9 (d := u_9) rfl
  obtain ⟨fd11, F11⟩ := c.defn 10 (d := u_10) rfl
  obtain ⟨fd12, F12⟩ := c.defn 11 (d := u_11) rfl
  obtain ⟨fd13, F13⟩ := c.defn 12 (d := u_12) rfl
  obtain ⟨fd14, F14⟩ := c.defn 13 (d := u_13) rfl
  obtain ⟨fd15, F15⟩ := c.defn 14 (d := u_14) rfl
  obtain ⟨fd16, F16⟩ := c.defn 15 (d := u_15) rfl
  obtain ⟨fd17, F17⟩ := c.defn 16 (d := u_16) rfl
  obtain ⟨fd18, F18⟩ := c.defn 17 (d := u_17) rfl
  obtain ⟨fd19, F19⟩ := c.defn 18 (d := u_18) rfl
  obtain ⟨fd20, F20⟩ := c.defn 19 (d := u_19) rfl
  obtain ⟨fd21, F21⟩ := c.defn 20 (d := u_20) rfl
  obtain ⟨fd22, F22⟩ := c.defn 21 (d := u_21) rfl
  obtain ⟨fd23, F23⟩ := c.defn 22 (d := u_22) rfl
  obtain ⟨fd24, F24⟩ := c.defn 23 (d := u_23) rfl
  obtain ⟨fd25, F25⟩ := c.defn 24 (d := u_24) rfl
  obtain ⟨fd26, F26⟩ := c.defn 25 (d := u_25) rfl
  obtain ⟨fd27, F27⟩ := c.defn 26 (d := u_26) rfl
  obtain ⟨fd28, F28⟩ := c.defn 27 (d := u_27) rfl
  obtain ⟨fd29, F29⟩ := c.defn 28 (d := u_28) rfl
  obtain ⟨fd30, F30⟩ := c.defn 29 (d := u_29) rfl
  obtain ⟨fd31, F31⟩ := c.defn 30 (d := u_30) rfl
  obtain ⟨fd32, F32⟩ := c.defn 31 (d := u_31) rfl
  obtain ⟨fd33, F33⟩ := c.defn 32 (d := u_32) rfl
  obtain ⟨fd34, F34⟩ := c.defn 33 (d := u_33) rfl
  obtain ⟨fd35, F35⟩ := c.defn 34 (d := u_34) rfl
  obtain ⟨fd36, F36⟩ := c.defn 35 (d := u_35) rfl
  obtain ⟨fd37, F37⟩ := c.defn 36 (d := u_36) rfl
  obtain ⟨fd38, F38⟩ := c.defn 37 (d := u_37) rfl
  obtain ⟨fd_Machine___init__, F_Machine___init__⟩ := c.defn 38 (d := u_38) rfl
  have X_InvalidMachine := xk_of (ex_at (l := EXL K) c.more 10 rfl)
  have bl := binds_one (x := "_law_script") F38 fun _ _ _ _ _ _ _ => rfl
  let Z : Ad := ⟨He.ga K "is_integer", fd1,
    He.ga K "is_within", fd2,
    He.ga K "is_spelt", fd3,
    He.ga K "is_name", fd4,
    He.ga K "is_letter", fd5,
    He.ga K "are_names", fd6,
    He.ga K "is_place", fd7,
    He.ga K "is_price", fd8,
    He.ga K "are_ends", fd9,
    He.ga K "states_of", fd10,
    He.ga K "are_parts", fd11,
    He.ga K "steps_in", fd12,
    He.ga K "_law_dice", fd13,
    He.ga K "_law_roll", fd14,
    He.ga K "_law_pick", fd15,
    He.ga K "_law_mixed", fd16,
    He.ga K "_law_some", fd17,
    He.ga K "_law_state_names", fd18,
    He.ga K "_law_plain", fd19,
    He.ga K "_law_block", fd20,
    He.ga K "_law_count", fd21,
    He.ga K "_law_deal", fd22,
    He.ga K "_law_either", fd23,
    He.ga K "_law_thrice", fd24,
    He.ga K "_law_uneven", fd25,
    He.ga K "_law_paid", fd26,
    He.ga K "_law_written", fd27,
    He.ga K "_law_drawn_machine", fd28,
    He.ga K "_law_any_machine", fd29,
    He.ga K "_law_is_made", fd30,
    He.ga K "_law_is_name", fd31,
    He.ga K "_law_are_ends", fd32,
    He.ga K "_law_is_arc", fd33,
    He.ga K "_law_is_let", fd34,
    He.ga K "_law_agrees", fd35,
    He.ga K "_law_small_right", fd36,
    He.ga K "_law_bent", fd37,
    He.ga K "law", fd38,
    (He.ma K (He.ga K "Machine") "__init__"), fd_Machine___init__,
    He.ga K "Machine",
    (He.ma K (He.ga K "Machine") "own_arcs"),
    (He.ma K (He.ga K "Machine") "own_firsts"),
    (He.ma K (He.ga K "Machine") "own_lasts"),
    (He.ma K (He.ga K "Machine") "own_lines"),
    (He.ma K (He.ga K "Machine") "own_states"),
    (He.ma K (He.ga K "Machine") "own_steps"),
    He.ga K "InvalidMachine"⟩
  have B : Bt mg := ⟨He.free_ok X G (x := "abs") (c.fact 48 (f := .free "abs") rfl),
    He.free_ok X G (x := "all") (c.fact 49 (f := .free "all") rfl),
    He.free_ok X G (x := "bool") (c.fact 50 (f := .free "bool") rfl),
    He.free_ok X G (x := "dict") (c.fact 51 (f := .free "dict") rfl),
    He.free_ok X G (x := "int") (c.fact 52 (f := .free "int") rfl),
    He.free_ok X G (x := "isinstance") (c.fact 53 (f := .free "isinstance") rfl),
    He.free_ok X G (x := "len") (c.fact 54 (f := .free "len") rfl),
    He.free_ok X G (x := "list") (c.fact 55 (f := .free "list") rfl),
    He.free_ok X G (x := "max") (c.fact 56 (f := .free "max") rfl),
    He.free_ok X G (x := "min") (c.fact 57 (f := .free "min") rfl),
    He.free_ok X G (x := "range") (c.fact 58 (f := .free "range") rfl),
    He.free_ok X G (x := "set") (c.fact 59 (f := .free "set") rfl),
    He.free_ok X G (x := "sorted") (c.fact 60 (f := .free "sorted") rfl),
    He.free_ok X G (x := "str") (c.fact 61 (f := .free "str") rfl),
    He.free_ok X G (x := "tuple") (c.fact 62 (f := .free "tuple") rfl),
    He.free_ok X G (x := "zip") (c.fact 63 (f := .free "zip") rfl)⟩
  have C0 : Cs mg := ⟨He.int_ok X G (x := "LIMIT") (c.fact 40 (f := .int "LIMIT" (10 ^ 60)) rfl),
    He.str_ok X G (x := "ALPHABET") (c.fact 41 (f := .str "ALPHABET" "abcdefghijklmnopqrstuvwxyz") rfl),
    He.int_ok X G (x := "MAX_LETTERS") (c.fact 42 (f := .int "MAX_LETTERS" 8) rfl),
    He.int_ok X G (x := "MAX_STATES") (c.fact 43 (f := .int "MAX_STATES" 24) rfl),
    He.int_ok X G (x := "MAX_PRICE") (c.fact 44 (f := .int "MAX_PRICE" 9) rfl),
    He.str_ok X G (x := "FIRST") (c.fact 45 (f := .str "FIRST" "first") rfl),
    He.str_ok X G (x := "LAST") (c.fact 46 (f := .str "LAST" "last") rfl),
    He.str_ok X G (x := "ARC") (c.fact 47 (f := .str "ARC" "arc") rfl)⟩
  have D : Ds K mg Z := ⟨⟨F1, He.glo_ok X G (x := "is_integer") (c.fact 0 (f := .glo "is_integer") rfl), F1.binds (ps := P_is_integer) fun _ _ _ _ _ _ us hl => match us, hl with | [_], _ => rfl⟩,
    ⟨F2, He.glo_ok X G (x := "is_within") (c.fact 1 (f := .glo "is_within") rfl), F2.binds (ps := P_is_within) fun _ _ _ _ _ _ us hl => match us, hl with | [_, _, _], _ => rfl⟩,
    ⟨F3, He.glo_ok X G (x := "is_spelt") (c.fact 2 (f := .glo "is_spelt") rfl), F3.binds (ps := P_is_spelt) fun _ _ _ _ _ _ us hl => match us, hl with | [_], _ => rfl⟩,
    ⟨F4, He.glo_ok X G (x := "is_name") (c.fact 3 (f := .glo "is_name") rfl), F4.binds (ps := P_is_name) fun _ _ _ _ _ _ us hl => match us, hl with | [_], _ => rfl⟩,
    ⟨F5, He.glo_ok X G (x := "is_letter") (c.fact 4 (f := .glo "is_letter") rfl), F5.binds (ps := P_is_letter) fun _ _ _ _ _ _ us hl => match us, hl with | [_], _ => rfl⟩,
    ⟨F6, He.glo_ok X G (x := "are_names") (c.fact 5 (f := .glo "are_names") rfl), F6.binds (ps := P_are_names) fun _ _ _ _ _ _ us hl => match us, hl with | [_], _ => rfl⟩,
    ⟨F7, He.glo_ok X G (x := "is_place") (c.fact 6 (f := .glo "is_place") rfl), F7.binds (ps := P_is_place) fun _ _ _ _ _ _ us hl => match us, hl with | [_], _ => rfl⟩,
    ⟨F8, He.glo_ok X G (x := "is_price") (c.fact 7 (f := .glo "is_price") rfl), F8.binds (ps := P_is_price) fun _ _ _ _ _ _ us hl => match us, hl with | [_], _ => rfl⟩,
    ⟨F9, He.glo_ok X G (x := "are_ends") (c.fact 8 (f := .glo "are_ends") rfl), F9.binds (ps := P_are_ends) fun _ _ _ _ _ _ us hl => match us, hl with | [_], _ => rfl⟩,
    ⟨F10, He.glo_ok X G (x := "states_of") (c.fact 9 (f := .glo "states_of") rfl), F10.binds (ps := P_states_of) fun _ _ _ _ _ _ us hl => match us, hl with | [_, _, _], _ => rfl⟩,
    ⟨F11, He.glo_ok X G (x := "are_parts") (c.fact 10 (f := .glo "are_parts") rfl), F11.binds (ps := P_are_parts) fun _ _ _ _ _ _ us hl => match us, hl with | [_, _, _], _ => rfl⟩,
    ⟨F12, He.glo_ok X G (x := "steps_in") (c.fact 11 (f := .glo "steps_in") rfl), F12.binds (ps := P_steps_in) fun _ _ _ _ _ _ us hl => match us, hl with | [_], _ => rfl⟩,
    ⟨F13, He.glo_ok X G (x := "_law_dice") (c.fact 12 (f := .glo "_law_dice") rfl), F13.binds (ps := P_dice) fun _ _ _ _ _ _ us hl => match us, hl with | [_, _], _ => rfl⟩,
    ⟨F14, He.glo_ok X G (x := "_law_roll") (c.fact 13 (f := .glo "_law_roll") rfl), F14.binds (ps := P_roll) fun _ _ _ _ _ _ us hl => match us, hl with | [_, _], _ => rfl⟩,
    ⟨F15, He.glo_ok X G (x := "_law_pick") (c.fact 14 (f := .glo "_law_pick") rfl), F15.binds (ps := P_pick) fun _ _ _ _ _ _ us hl => match us, hl with | [_, _], _ => rfl⟩,
    ⟨F16, He.glo_ok X G (x := "_law_mixed") (c.fact 15 (f := .glo "_law_mixed") rfl), F16.binds (ps := P_mixed) fun _ _ _ _ _ _ us hl => match us, hl with | [_, _], _ => rfl⟩,
    ⟨F17, He.glo_ok X G (x := "_law_some") (c.fact 16 (f := .glo "_law_some") rfl), F17.binds (ps := P_some) fun _ _ _ _ _ _ us hl => match us, hl with | [_, _], _ => rfl⟩,
    ⟨F18, He.glo_ok X G (x := "_law_state_names") (c.fact 17 (f := .glo "_law_state_names") rfl), F18.binds (ps := P_state_names) fun _ _ _ _ _ _ us hl => match us, hl with | [_, _], _ => rfl⟩,
    ⟨F19, He.glo_ok X G (x := "_law_plain") (c.fact 18 (f := .glo "_law_plain") rfl), F19.binds (ps := P_plain) fun _ _ _ _ _ _ us hl => match us, hl with | [_], _ => rfl⟩,
    ⟨F20, He.glo_ok X G (x := "_law_block") (c.fact 19 (f := .glo "_law_block") rfl), F20.binds (ps := P_block) fun _ _ _ _ _ _ us hl => match us, hl with | [], _ => rfl⟩,
    ⟨F21, He.glo_ok X G (x := "_law_count") (c.fact 20 (f := .glo "_law_count") rfl), F21.binds (ps := P_count) fun _ _ _ _ _ _ us hl => match us, hl with | [], _ => rfl⟩,
    ⟨F22, He.glo_ok X G (x := "_law_deal") (c.fact 21 (f := .glo "_law_deal") rfl), F22.binds (ps := P_deal) fun _ _ _ _ _ _ us hl => match us, hl with | [], _ => rfl⟩,
    ⟨F23, He.glo_ok X G (x := "_law_either") (c.fact 22 (f := .glo "_law_either") rfl), F23.binds (ps := P_either) fun _ _ _ _ _ _ us hl => match us, hl with | [], _ => rfl⟩,
    ⟨F24, He.glo_ok X G (x := "_law_thrice") (c.fact 23 (f := .glo "_law_thrice") rfl), F24.binds (ps := P_thrice) fun _ _ _ _ _ _ us hl => match us, hl with | [], _ => rfl⟩,
    ⟨F25, He.glo_ok X G (x := "_law_uneven") (c.fact 24 (f := .glo "_law_uneven") rfl), F25.binds (ps := P_uneven) fun _ _ _ _ _ _ us hl => match us, hl with | [], _ => rfl⟩,
    ⟨F26, He.glo_ok X G (x := "_law_paid") (c.fact 25 (f := .glo "_law_paid") rfl), F26.binds (ps := P_paid) fun _ _ _ _ _ _ us hl => match us, hl with | [], _ => rfl⟩,
    ⟨F27, He.glo_ok X G (x := "_law_written") (c.fact 26 (f := .glo "_law_written") rfl), F27.binds (ps := P_written) fun _ _ _ _ _ _ us hl => match us, hl with | [_], _ => rfl⟩,
    ⟨F28, He.glo_ok X G (x := "_law_drawn_machine") (c.fact 27 (f := .glo "_law_drawn_machine") rfl), F28.binds (ps := P_drawn_machine) fun _ _ _ _ _ _ us hl => match us, hl with | [_, _, _], _ => rfl⟩,
    ⟨F29, He.glo_ok X G (x := "_law_any_machine") (c.fact 28 (f := .glo "_law_any_machine") rfl), F29.binds (ps := P_any_machine) fun _ _ _ _ _ _ us hl => match us, hl with | [_, _, _], _ => rfl⟩,
    ⟨F30, He.glo_ok X G (x := "_law_is_made") (c.fact 29 (f := .glo "_law_is_made") rfl), F30.binds (ps := P_is_made) fun _ _ _ _ _ _ us hl => match us, hl with | [_, _, _], _ => rfl⟩,
    ⟨F31, He.glo_ok X G (x := "_law_is_name") (c.fact 30 (f := .glo "_law_is_name") rfl), F31.binds (ps := P_is_nameL) fun _ _ _ _ _ _ us hl => match us, hl with | [_], _ => rfl⟩,
    ⟨F32, He.glo_ok X G (x := "_law_are_ends") (c.fact 31 (f := .glo "_law_are_ends") rfl), F32.binds (ps := P_are_endsL) fun _ _ _ _ _ _ us hl => match us, hl with | [_], _ => rfl⟩,
    ⟨F33, He.glo_ok X G (x := "_law_is_arc") (c.fact 32 (f := .glo "_law_is_arc") rfl), F33.binds (ps := P_is_arc) fun _ _ _ _ _ _ us hl => match us, hl with | [_, _], _ => rfl⟩,
    ⟨F34, He.glo_ok X G (x := "_law_is_let") (c.fact 33 (f := .glo "_law_is_let") rfl), F34.binds (ps := P_is_let) fun _ _ _ _ _ _ us hl => match us, hl with | [_, _, _], _ => rfl⟩,
    ⟨F35, He.glo_ok X G (x := "_law_agrees") (c.fact 34 (f := .glo "_law_agrees") rfl), F35.binds (ps := P_agrees) fun _ _ _ _ _ _ us hl => match us, hl with | [_, _, _], _ => rfl⟩,
    ⟨F36, He.glo_ok X G (x := "_law_small_right") (c.fact 35 (f := .glo "_law_small_right") rfl), F36.binds (ps := P_small_right) fun _ _ _ _ _ _ us hl => match us, hl with | [], _ => rfl⟩,
    ⟨F37, He.glo_ok X G (x := "_law_bent") (c.fact 36 (f := .glo "_law_bent") rfl), F37.binds (ps := P_bent) fun _ _ _ _ _ _ us hl => match us, hl with | [_, _, _, _], _ => rfl⟩,
    ⟨F38, He.glo_ok X G (x := "law") (c.fact 37 (f := .glo "law") rfl), F38.binds (ps := P_law) fun _ _ _ _ _ _ us hl => match us, hl with | [_], _ => rfl⟩,
    ⟨F_Machine___init__, of_decide_eq_true (ex_at (l := EXL K) c.more 0 rfl), ex_at (l := EXL K) c.more 1 rfl, F_Machine___init__.binds (ps := P_Machine___init__) fun _ _ _ _ _ _ us hl => match us, hl with | [_, _, _, _], _ => rfl⟩,
    ob_of (He.glo_ok X G (x := "Machine") (c.fact 38 (f := .glo "Machine") rfl)) (ex_at (l := EXL K) c.more 2 rfl),
    ex_at (l := EXL K) c.more 3 rfl,
    sl_of (ex_at (l := EXL K) c.more 4 rfl),
    sl_of (ex_at (l := EXL K) c.more 5 rfl),
    sl_of (ex_at (l := EXL K) c.more 6 rfl),
    sl_of (ex_at (l := EXL K) c.more 7 rfl),
    sl_of (ex_at (l := EXL K) c.more 8 rfl),
    sl_of (ex_at (l := EXL K) c.more 9 rfl),
    ⟨He.glo_ok X G (x := "InvalidMachine") (c.fact 39 (f := .glo "InvalidMachine") rfl), X_InvalidMachine, ex_at (l := EXL K) c.more 11 rfl⟩⟩
  have Y : Tx K Z := ⟨of_decide_eq_true (ex_at (l := EXL K) c.more 12 rfl)⟩
  exact ⟨fd38, fun s v => bl s v, fun base _ _ => ok_law (Z := Z) D B C0 Y⟩
end K05
open PySem PySem.W PyProof.Rows in
set_option maxRecDepth 100000 in
set_option maxHeartbeats 0 in
theorem PySem.Challenge.cw_lastprices_k05_whole_which_machines_ther_holds : PySem.Challenge.rw_lastprices_k05_whole_which_machines_ther.Holds := by
  w_on; o_law
  refine HandSHeadRun.head_any (r := OpenLaw.row PySem.Challenge.rw_lastprices_k05_whole_which_machines_ther) (q := K05.qv) (H := K05.hk) (ob := K05.ob) (M := 9000) (loose := K05.loose) (d := HandSHeadRun.topDef (OpenLaw.row PySem.Challenge.rw_lastprices_k05_whole_which_machines_ther).prog 79) (kwd := []) K05.ob_eq
    (by kernel_rfl) (fun s => by kernel_rfl) K05.run (by kernel_rfl) (by kernel_rfl) (by kernel_rfl) (by rfl) (by first | assumption | decide +kernel) (by decide +kernel) ⟨rfl, rfl, rfl, rfl, rfl, by decide +kernel⟩ ?hw ?hc
  case hw => w_witness2
  case hc =>
    refine LP.walk_ofGE (l := PySem.Challenge.rw_lastprices_k05_whole_which_machines_ther) (n := 63) (k := 14) (x := "_law_script") rfl (by decide) (by kernel_rfl) ⟨rfl, by decide, by decide⟩ ?F
    intro w mg fa h Y G hmg0
    obtain ⟨K, KX, c⟩ := Y
    have hmg : mg ("law" : PySem.Str) = some (.ref fa) := by
      have e : (HandSHeadRun.topDef (OpenLaw.row PySem.Challenge.rw_lastprices_k05_whole_which_machines_ther).prog 79).name = ("law" : PySem.Str) := by kernel_rfl
      rw [← e]
      exact hmg0
    obtain ⟨fd, hb, hF⟩ := K05.all_mk (l := PySem.Challenge.rw_lastprices_k05_whole_which_machines_ther) (w := w) KX G hmg c
    exact ⟨K, fd, K05.spLaw K, KX, hb, fun H a ns hl _ hS => ⟨a, ns, rfl, hS, hl, fun _ => rfl⟩, hF⟩
#print axioms PySem.Challenge.cw_lastprices_k05_whole_which_machines_ther_holds
