import PyProof.Rows.All
import Wide.All
import OpenK.AllK
import Wide.FinOn
import HandS.ForMost
import HandS.IsInst
import HandS.Style
import HandS.StrMore
import HandS.Wide
import HandS.Zip
import HandS.Flow
import HandS.Set
import HandS.Strs
import PyProof.Rows.SortShellAny
import HandS.Walk
import HandS.Sort
import PyProof.StrBlock2
import HandS.ExcInit
import HandS.ExcIs
import HandS.ExcField
import HandS.ExcValue
import HandS.ExcBuiltin
import KE.KExcInit
import KE.KExcIs
import HandS.HotCalls
import KE.GoesZip
import KE.KDictZip
import HandS.Zip0
import HandS.Star
import HandS.SlotsOwn
import KE.KCallOwn
import PyProof.InstNe
import HandS.TryOnly
import HandS.FStr
import HandS.Lambda
import HandS.EndTab
import KE.KNestM
import PyProof.P3Eq
import PyProof.Rows.StrMeet
import HandS.RaiseMore
import PySem.Challenge.RW_lastprices_k31_texts_that_are_no_pattern
set_option Elab.async false
set_option linter.all false
set_option maxRecDepth 100000
set_option maxHeartbeats 4000000
/-! LPG: defs that run where no repr is under way (guards known empty), so that repr of data can be told. -/
namespace LP
open PySem PySem.Spec L2
open PyProof.Rows hiding St

/-- a def's promise, kept wherever no guarded call is under way -/
structure FnG (P : Program) (w : World) (K : PySem.W.Frag) (mg : Str → Option Value) (base : Heap) (CX : CXT)
    (k : Nat) (f : Addr) (fd : FuncData) (ps : List Str) (sp : Sp) : Prop where
  len : ∀ vs H Q E, sp vs H Q E → vs.length = ps.length
  go : ∀ (A : Around) (outer : List Env) (s : Shared) (H : Hp) (args : Args) (us : List Value) (vs : List V)
    (Q : VK) (E : XK), A.guards = some [] → Room k A → Env0 P w K mg base A outer s H →
    BindsTo s fd args (ps.zip us) → Vals vs us → sp vs H Q E →
    codeAny (model P w) A (.call (.ref f) args) (CR CX outer P w H s Q E) s

section
variable {P : Program} {w : World} {K : PySem.W.Frag} {mg : Str → Option Value} {base : Heap} {CX : CXT}
  {k : Nat} {f : Addr} {fd : FuncData} {ps : List Str} {sp : Sp}

theorem FnG.of (F : FnOk P w K mg base CX k f fd ps sp) : FnG P w K mg base CX k f fd ps sp :=
  ⟨F.len, fun A outer s H args us vs Q E _ hr e0 hb r h => F.run A outer s H args us vs Q E hr e0 hb r h⟩

theorem FnG.mono {j : Nat} (F : FnG P w K mg base CX j f fd ps sp) (h : j ≤ k) : FnG P w K mg base CX k f fd ps sp :=
  ⟨F.len, fun A outer s H args us vs Q E g hr e0 hb r h' => F.go A outer s H args us vs Q E g (hr.mono h) e0 hb r h'⟩
end

/-- a def's body, where no guarded call is under way -/
theorem fnG_of {CX : CXT} {P : Program} {w : World} {K : PySem.W.Frag} {mg : Str → Option Value} {base : Heap} {k : Nat}
    {f : Addr} {name qual : Str} {params : Arguments} {body : List Stmt} {scope : Scope} {dV kV doc pm cdv ct oc : Value}
    {an od : Option Addr} {osl : Array (Option Value)} {N ps : List Str} {sp : Sp}
    (lk : K.lookup f = some ⟨oc, od, .func (PySem.W.fnOf name qual params body scope dV kV doc pm an cdv ct), osl⟩)
    (hcd : PySem.W.codeIn K cdv qual = true) (S : FnScope N ps scope)
    (len : ∀ vs H Q E, sp vs H Q E → vs.length = ps.length)
    (hbody : ∀ (A : Around) (outer : List Env) (s : Shared) (H : Hp) (vs : List V) (Q : VK) (E : XK),
      A.guards = some [] → Room k (A.deeper (envOfC qual scope s.heap.objs.size f cdv)) → sp vs H Q E →
      ∃ t, PSs (cxOf CX P w K mg base N qual scope f cdv A outer s H E) body t ∧
        t { nx := fun _ H' => Q .non H', rt := Q } (start N vs) H) :
    FnG P w K mg base CX (k + 1) f (PySem.W.fnOf name qual params body scope dV kV doc pm an cdv ct) ps sp := by
  constructor
  · exact len
  intro A outer s H args us vs Q E gd hr e0 hb r hsp
  have hl := len _ _ _ _ hsp
  have KX : K.In s.heap := e0.mod.kin.keeps fun b o e => (e0.bs b o e).1
  have lim : s.heap.NoLimit := e0.mod.nolimit.keeps fun b o e => (e0.bs b o e).1
  have hk : ∀ y ∈ ps.zip us, scope.names.lookup y.1 = some .local ∨
      (scope.names.lookup y.1 = some .cell ∧
        ((cellsFrom (s.heap.objs.size + 1) scope.names []).lookup y.1).isSome = true) := by
    rintro ⟨n, v⟩ hy
    rcases S.par n (List.of_mem_zip hy).1 with q | q
    · exact .inl q
    · exact .inr ⟨q, PySem.W.cellsFrom_some _ _ _ (.inl q)⟩
  refine codeAny_call_function hr.depth (KX _ _ lk) rfl S.co S.gen rfl (PySem.W.codeRec_of KX hcd) ?_
  refine hb _ _ _ _ (wpAny_newFunctionEnv_cells S.kind hk ?_)
  intro env he s1 x
  subst he
  refine ⟨lim.keeps x.toInCall.keep, ?_⟩
  refine codeAny_func ?_
  obtain ⟨t, ht, hq⟩ := hbody A outer s H vs Q E gd (hr.deeper _) hsp
  have I := inv_start (CX := CX) (N := N) (E := E) S hr.hd e0 hl r x
  refine wpAny_mono (ht.run [] s1 (start N vs) H _ I hq) ?_ (fun e s' hs => hs)
  intro fl s' hs
  cases fl with
  | ret u =>
    obtain ⟨v, σ', H', J, rv, q⟩ := hs
    exact ⟨v, H', J.os, J.bare, J.base, J.hok, rv, q⟩
  | next =>
    obtain ⟨σ', H', J, q⟩ := hs
    exact ⟨V.non, H', J.os, J.bare, J.base, J.hok, rfl, q⟩
  | brk =>
    obtain ⟨_, _, _, q⟩ := hs
    exact q.elim
  | cont =>
    obtain ⟨_, _, _, q⟩ := hs
    exact q.elim

section
variable {P : Program} {w : World} {K : PySem.W.Frag} {mg : Str → Option Value} {base : Heap}
/-- the same for a def of the text that lets no exception out -/
theorem okG {x qual : Str} {st : Stmt} {f : Addr} {fd : FuncData} {N ps : List Str} {k : Nat} {sp : Sp}
    (F : Fun K x qual st f fd) (S : FnScope N ps (defScope st)) (len : ∀ vs H Q E, sp vs H Q E → vs.length = ps.length)
    (hbody : ∀ (cdv : Value) (A : Around) (outer : List Env) (s : Shared) (H : Hp) (vs : List V) (Q : VK) (E : XK),
      A.guards = some [] → Room k (A.deeper (envOfC qual (defScope st) s.heap.objs.size f cdv)) → sp vs H Q E →
      ∃ t, PSs (cxOf CX0 P w K mg base N qual (defScope st) f cdv A outer s H E).nox (defBody st) t ∧
        t { nx := fun _ H' => Q .non H', rt := Q } (start N vs) H) :
    FnG P w K mg base CX0 (k + 1) f fd ps sp := by
  obtain ⟨oc, od, kV, doc, pm, an, cdv, ct, osl, rfl, lk, hcd⟩ := F.ex
  refine fnG_of lk hcd S len ?_
  intro A outer s H vs Q E g hr hsp
  obtain ⟨t, h, q⟩ := hbody cdv A outer s H vs Q E g hr hsp
  exact ⟨t, h.nox, q⟩
end

section
variable {X : Cx} {CX : CXT} {k : Nat} {f C : Addr} {fd : FuncData} {ps : List Str} {sp : Sp} {dvs : List V}
  {ds : List Value} {E : XK} {x m : Str} {p pos apos : Pos} {e o : Expr} {es : List Expr} {ta : TE} {t : TA}

/-- such a callee runs -/
theorem run_fnG {pins : List (Addr × Obj)} {σ : St} {H : Hp} {s : Shared} {Q : VK} {us : List Value} {vs : List V}
    (F : FnG X.prog X.w X.K X.mg X.base CX k f fd ps sp) (gd : X.A.guards = some []) (hr : Room k X.A)
    (hb : Binds X.K fd ps ds) (hd : Vals dvs ds) (hx : Passes CX X E)
    (I : Inv X pins σ H s) (r : Vals vs us) (h : sp (vs ++ dvs) H Q E) :
    wpAny (model X.prog X.w) X.A (call (.ref f) us) (EP X pins σ Q) X.xe s := by
  have r2 : Vals (vs ++ dvs) (us ++ ds) := r.append hd
  have hl : (us ++ ds).length = ps.length := r2.length.symm.trans (F.len _ _ _ _ h)
  have run := F.go X.A X.stack s H ⟨us, []⟩ (us ++ ds) (vs ++ dvs) Q E gd hr I.env0 (hb s us I.kIn hl) r2 h
  refine wpAny_call (codeAny_mono run ?_)
  intro r s' hq
  cases r with
  | error e => exact hx pins σ H s e s' I hq
  | ok fl =>
    cases fl with
    | ret u => exact I.after hq
    | next => exact hq.elim
    | brk => exact hq.elim
    | cont => exact hq.elim

theorem pe_callG (F : FnG X.prog X.w X.K X.mg X.base CX k f fd ps sp) (gd : X.A.guards = some []) (hr : Room k X.A)
    (hg : Gl X x) (hm : X.mg x = some (.ref f)) (hk : PySem.W.keepIn X.K (.ref f) = true) (hb : Binds X.K fd ps ds)
    (hd : Vals dvs ds) (hx : Passes CX X E) (ha : PA X (e :: es) t)
    (hdb : (x == ("__debug__" : Str)) = false := by decide)
    (he : starEach (e :: es) X.env = (false, eval e X.env) :: starEach es X.env := by rfl)
    (hpl : (backTo pos (starEach es X.env)).any (·.1) = false := by rfl) :
    PE X (.Call (.Name x p) (e :: es) [] pos) (tCall sp dvs E t) := by
  constructor
  intro pins s σ H Q I h
  refine wpAny_Call_Name_kw (ld_glob I hg hm ?_ hdb)
  refine PySem.W.callWith_K (h₀ := X.base) I.ok.mod.kin hk (thn (ha.run pos pins s σ H _ I h) ?_) he hpl
  rintro us s1 ⟨vs, H1, I1, r, q⟩
  exact ⟨I1.kIn, run_fnG F gd hr hb hd hx I1 r q⟩

theorem pe_callG0 (F : FnG X.prog X.w X.K X.mg X.base CX k f fd ps sp) (gd : X.A.guards = some []) (hr : Room k X.A)
    (hg : Gl X x) (hm : X.mg x = some (.ref f)) (hk : PySem.W.keepIn X.K (.ref f) = true) (hb : Binds X.K fd ps ds)
    (hd : Vals dvs ds) (hx : Passes CX X E) (hdb : (x == ("__debug__" : Str)) = false := by decide) :
    PE X (.Call (.Name x p) [] [] pos) (tCall sp dvs E tNil) := by
  constructor
  intro pins s σ H Q I h
  refine wpAny_Call_Name_kw (ld_glob I hg hm ?_ hdb)
  exact PySem.W.callWith_K0 I.kIn hk (run_fnG (us := []) F gd hr hb hd hx I .nil h)

/-- what repr asks: data that is read, and its text -/
def rReprD (K : PySem.W.Frag) : List V → Hp → VK → Prop := fun xs H Q =>
  ∃ x d, xs = [x] ∧ Dp K H x d ∧ d.showable = true ∧ d.hasDict = false ∧ d.depth ≤ 60 ∧ d.shown.length ≤ sizeLine ∧
    Q (.str d.shown) H

theorem call_reprD (gd : X.A.guards = some []) (hu : X.A.units + 64 < cLine) : CallR X (.builtin "repr") (rReprD X.K) := by
  intro pins s σ H xs us Q I r h
  obtain ⟨x, d, rfl, hd, hs, hn, hz, hl, q⟩ := h
  obtain ⟨u, rfl, r1⟩ := vals1 r
  cases hd with
  | non =>
    cases (show u = Value.none from r1)
    exact PySem.P.repr_of_none ⟨.str _, H, I.tok _, ⟨_, rfl⟩, q⟩
  | bl b =>
    cases (show u = Value.bool b from r1)
    exact PySem.P.repr_of_bool ⟨.str _, H, I.tok _, ⟨_, rfl⟩, q⟩
  | int i =>
    obtain ⟨t, rfl⟩ := (show ∃ t, u = Value.int i t from r1)
    have hi : i.natAbs.log2 < 1920 := by simpa [PyData.showable] using hs
    exact PySem.P.repr_of_int hi ⟨.str _, H, I.tok _, ⟨_, rfl⟩, q⟩
  | str y =>
    obtain ⟨t, rfl⟩ := (show ∃ t, u = Value.str y t from r1)
    exact PySem.P.repr_of_str ⟨.str _, H, I.tok _, ⟨_, rfl⟩, q⟩ hl
  | @lst a ys ds h1 h2 =>
    have e0 : Dp X.K H (.ref a) (.list ds) := .lst h1 h2
    cases (show u = Value.ref a from r1)
    obtain ⟨as, rd⟩ := Dp.reads I _ _ _ e0 rfl
    refine repr_of_reads' rd hs (fun z => ?_) gd (by omega) (fun _ _ e => e) (fun h' v tk hk => ?_) hl
    · rw [hn] at z
      cases z
    · exact ⟨.str _, H, I.kept hk, ⟨_, rfl⟩, q⟩
  | @tup a ys ds h1 h2 =>
    have e0 : Dp X.K H (.ref a) (.tuple ds) := .tup h1 h2
    cases (show u = Value.ref a from r1)
    obtain ⟨as, rd⟩ := Dp.reads I _ _ _ e0 rfl
    refine repr_of_reads' rd hs (fun z => ?_) gd (by omega) (fun _ _ e => e) (fun h' v tk hk => ?_) hl
    · rw [hn] at z
      cases z
    · exact ⟨.str _, H, I.kept hk, ⟨_, rfl⟩, q⟩
end

/-- the law's call, of such a def -/
theorem law_callG {P : Program} {w : World} {K : PySem.W.Frag} {mg mb : Str → Option Value} {k : Nat} {fa a : Addr}
    {fd : FuncData} {x : Str} {sp : Sp} {s₁ : Shared} {vs : List Value} {ns : List Int}
    (KX : K.In s₁.heap) (hns : s₁.heap.Ns mainGlobals mg) (hb : s₁.heap.Ns builtinsNs mb)
    (hbb : ∀ x : Str, x ≠ "__name__" → mb x = bootBuiltins x) (hlim : s₁.heap.NoLimit) (hg : s₁.gens = #[])
    (ha : s₁.heap.get? a = some { cls := .type "list", data := .seq vs.toArray }) (hi : IntsAre vs ns)
    (hl : ns.length ≤ sizeLine) (hr : Room k callerA)
    (F : ∀ base : Heap, K.In base → base.Ns mainGlobals mg → FnG P w K mg base CX0 k fa fd [x] sp)
    (hbind : ∀ (s : Shared) (u : Value), BindsTo s fd ⟨[u], []⟩ [(x, u)])
    (hsp : ∀ H : Hp, Only H → SqL K H a (ns.map V.int) → sp [.ref a] H (fun v _ => v = .bl true) fun _ _ _ => False) :
    codeAny (model P w) callerA (.call (.ref fa) ⟨[.ref a], []⟩) (fun r s' => r = .ok (.ret (.bool true)) ∧
      OldK s₁.heap s'.heap ∧ s'.os = s₁.os ∧ AllBare s'.gens) s₁ := by
  have rv := vals_ints hi
  have lenV := hi.length
  have core : ∀ H : Hp, Only H → SqL K H a (ns.map V.int) → HOk P w H s₁.heap → (∀ b, H b ≠ none → b = a) →
      (H a ≠ none → K.lookup a = none) →
      codeAny (model P w) callerA (.call (.ref fa) ⟨[.ref a], []⟩) (fun r s' => r = .ok (.ret (.bool true)) ∧
        OldK s₁.heap s'.heap ∧ s'.os = s₁.os ∧ AllBare s'.gens) s₁ := by
    intro H hO hS hok hA hK
    have noA : ∀ {b : Addr} {o : Obj} {es : Array DictEntry} {ep : Nat}, s₁.heap.get? b = some o →
        o.data = .dict es ep → H b = none := by
      intro b o es ep e d
      by_cases q : H b = none
      · exact q
      · have e' := hA b q
        subst e'
        rw [ha] at e
        cases e
        cases (show Data.seq vs.toArray _ = Data.dict es ep from d)
    have nsK : ∀ {b : Addr} {m : Str → Option Value}, s₁.heap.Ns b m → (hidT s₁.heap H).Ns b m := by
      rintro b m ⟨o, es, ep, e, d, r⟩
      exact ⟨o, es, ep, hidT_get e (noA e d), d, r⟩
    have hKb : K.In (hidT s₁.heap H) := by
      intro b o e
      refine hidT_get (KX b o e) ?_
      by_cases q : H b = none
      · exact q
      · have e' := hA b q
        subst e'
        rw [hK q] at e
        cases e
    obtain ⟨mc, hc1, hc2⟩ := hlim
    have hM : Mod K mg (hidT s₁.heap H) := ⟨hKb, nsK hns, ⟨mb, nsK hb, hbb⟩, ⟨mc, nsK hc1, hc2⟩⟩
    have e0 : Env0 P w K mg (hidT s₁.heap H) callerA [] s₁ H :=
      ⟨rfl, hM, fun b o e => of_hidT e, Nat.le_of_eq (hidT_size _ _), trivial,
        fun b hb => absurd (show b ∈ ([] : List Addr) from hb) (by simp), hok, .of_eq hg⟩
    have G := F _ hKb (nsK hns)
    refine codeAny_mono (G.go callerA [] s₁ H ⟨[.ref a], []⟩ [.ref a] [.ref a] _ _ rfl hr e0 (hbind s₁ (.ref a))
      (.cons rfl .nil) (hsp H hO hS)) ?_
    intro r s' h
    cases r with
    | error e => exact h.elim
    | ok fl =>
      cases fl with
      | next => exact h.elim
      | brk => exact h.elim
      | cont => exact h.elim
      | ret u =>
        obtain ⟨v, H', os, bare, un, hok', r', q⟩ := h
        have q' : v = .bl true := q
        subst q'
        obtain rfl : u = Value.bool true := r'
        refine ⟨rfl, OldK.of_keep ?_, os, bare⟩
        intro b o e
        rcases hO b with z | ⟨ob, xs, z⟩
        · exact un.keep b o e z (fun y => absurd (show b ∈ ([] : List Addr) from y) (by simp)) (by simp)
        · obtain ⟨e1, _⟩ := hok b _ z
          obtain ⟨e2, _⟩ := hok' b _ (un.frzs b ob _ z)
          rw [e] at e1
          cases e1
          exact e2
  by_cases hk : K.lookup a = none
  · let O : Obj := { cls := .type "list", data := .seq vs.toArray }
    let HH : Hp := fun b => if b = a then some (.frz O (.lst (ns.map V.int))) else none
    have h1 : HH a = some (.frz O (.lst (ns.map V.int))) := if_pos rfl
    have h2 : ∀ b, b ≠ a → HH b = none := fun b hb => if_neg hb
    refine core HH ?_ (.inl (.inr ⟨O, h1⟩)) ?_ ?_ (fun _ => hk)
    · intro b
      by_cases hb : b = a
      · subst hb
        exact .inr ⟨_, _, h1⟩
      · exact .inl (h2 b hb)
    · intro b u z
      by_cases hb : b = a
      · subst hb
        rw [h1] at z
        cases z
        exact ⟨ha, by rw [List.length_map]; exact hl, vs, _, rv, ha⟩
      · rw [h2 b hb] at z
        cases z
    · intro b z
      by_cases hb : b = a
      · exact hb
      · exact absurd (h2 b hb) z
  · obtain ⟨o, ho⟩ := Option.ne_none_iff_exists'.mp hk
    have e := KX a o ho
    rw [ha] at e
    cases e
    refine core (fun _ => none) (fun _ => .inl rfl) (.inr ⟨_, vs.toArray, _, ho, rfl, rfl, rfl, ?_, ?_⟩) ?_ ?_ ?_
    · rw [List.size_toArray, lenV]
      exact hl
    · simpa using rv
    · intro b u z
      cases (show (none : Option HO) = some u from z)
    · intro b z
      exact absurd rfl z
    · intro z
      exact absurd rfl z

/-- the goal that the head leaves, from the law's promise -/
theorem walk_ofG {l : PySem.W.OpenLaw} {n k : Nat} {q : Program} {loose : List Str} {XP : (Str → Option Value) → Heap → Prop}
    {YP : World → Heap → Prop} {d : DefRec} {K : Params → PySem.W.Frag} {sp : PySem.W.Frag → Sp} {x : Str}
    (hn : l.most = some n) (hn2 : n ≤ sizeLine) (hdf : d.params.defaults = []) (hr : Room k callerA)
    (hY : ∀ (w : World) (h : Heap), YP w h → (K w.params).In h)
    (F : ∀ (w : World) (mg : Str → Option Value) (fa : Addr) (h : Heap), (K w.params).In h → h.Ns mainGlobals mg →
      mg d.name = some (.ref fa) → ∃ fd : FuncData, (∀ (s : Shared) (u : Value), BindsTo s fd ⟨[u], []⟩ [(x, u)]) ∧
        ∀ base : Heap, (K w.params).In base → base.Ns mainGlobals mg →
          FnG l.prog w (K w.params) mg base CX0 k fa fd [x] (sp (K w.params)))
    (hsp : ∀ (K : PySem.W.Frag) (H : Hp) (a : Addr) (ns : List Int), ns.length ≤ n → Only H → SqL K H a (ns.map V.int) →
      sp K [.ref a] H (fun v _ => v = .bl true) fun _ _ _ => False) :
    PySem.W.WalkO q loose XP YP l.row.toRowW d [] (fun f vs => PySem.call f vs) := by
  refine Att.attach_call hn hdf ?_
  intro w s₀ s₁ mg mb fa o pm cd doc a vs ns G Y ho hd hcd hmg hobj hints hlen hg
  have KX := hY w _ Y
  obtain ⟨fd, hb, hF⟩ := F w mg fa _ KX G.T.g hmg
  exact law_callG KX G.T.g G.T.b G.T.builtins G.T.nolimit hg hobj hints (Nat.le_trans hlen hn2) hr hF hb
    (fun H hO hS => hsp (K w.params) H a ns hlen hO hS)
end LP

set_option Elab.async false
set_option linter.all false
set_option maxRecDepth 100000
set_option maxHeartbeats 4000000
/-! LPC: defs of a linked text, calls of them, heaps. -/
namespace LP
open PySem PySem.Spec L2
open PyProof.Rows hiding St

/-- a def of the text: where it stands, its name, how its arguments bind -/
structure Df (K : PySem.W.Frag) (mg : Str → Option Value) (x : Str) (st : Stmt) (ps : List Str) (f : Addr) (fd : FuncData) : Prop where
  F : Fun K x x st f fd
  g : mg x = some (.ref f)
  b : Binds K fd ps []

section
variable {X : Cx} {k : Nat} {f : Addr} {fd : FuncData} {ps : List Str} {sp : Sp} {x : Str} {st : Stmt} {p pos : Pos}
  {e : Expr} {es : List Expr} {t : TA}
theorem pe_df (D : Df X.K X.mg x st ps f fd) (G : FnOk X.prog X.w X.K X.mg X.base CX0 k f fd ps sp) (hr : Room k X.A)
    (hg : Gl X x) (ha : PA X (e :: es) t) (hdb : (x == ("__debug__" : Str)) = false := by decide)
    (he : starEach (e :: es) X.env = (false, eval e X.env) :: starEach es X.env := by rfl)
    (hpl : (backTo pos (starEach es X.env)).any (·.1) = false := by rfl) :
    PE X (.Call (.Name x p) (e :: es) [] pos) (tCall sp [] E0 t) := pe_call G hr hg D.g D.F.kp D.b .nil pass0 ha hdb he hpl
theorem pe_df0 (D : Df X.K X.mg x st ps f fd) (G : FnOk X.prog X.w X.K X.mg X.base CX0 k f fd ps sp) (hr : Room k X.A)
    (hg : Gl X x) (hdb : (x == ("__debug__" : Str)) = false := by decide) :
    PE X (.Call (.Name x p) [] [] pos) (tCall sp [] E0 tNil) := pe_call0 G hr hg D.g D.F.kp D.b .nil pass0 hdb
theorem pe_dfG (D : Df X.K X.mg x st ps f fd) (G : FnG X.prog X.w X.K X.mg X.base CX0 k f fd ps sp)
    (gd : X.A.guards = some []) (hr : Room k X.A)
    (hg : Gl X x) (ha : PA X (e :: es) t) (hdb : (x == ("__debug__" : Str)) = false := by decide)
    (he : starEach (e :: es) X.env = (false, eval e X.env) :: starEach es X.env := by rfl)
    (hpl : (backTo pos (starEach es X.env)).any (·.1) = false := by rfl) :
    PE X (.Call (.Name x p) (e :: es) [] pos) (tCall sp [] E0 t) := pe_callG G gd hr hg D.g D.F.kp D.b .nil pass0 ha hdb he hpl
end

/-! ### heaps -/
theorem upd_none {H : Hp} {a b : Addr} {o : HO} : upd H a o b = none ↔ b ≠ a ∧ H b = none := by
  unfold upd
  by_cases h : b = a <;> simp [h]
theorem upd_at {H : Hp} {a b : Addr} {o : HO} : upd H a o b = if b = a then some o else H b := rfl
theorem Same.new {H : Hp} {p : Addr} {o : HO} (h : H p = none) : Same H (upd H p o) := fun b u e => by
  rw [upd_ne (ne_of_none e h)]
  exact e
theorem Same.tup {K : PySem.W.Frag} {H H' : Hp} {a : Addr} {xs : List V} (e : Same H H') (h : SqT K H a xs) : SqT K H' a xs := by
  rcases h with (h | ⟨o, h⟩) | h
  · exact .inl (.inl (e _ _ h))
  · exact .inl (.inr ⟨o, e _ _ h⟩)
  · exact .inr h

/-! ### values that can be asked for their class -/
/-- the built-in class of a plain value -/
inductive Pl (K : PySem.W.Frag) (H : Hp) : V → String → Prop
  | non : Pl K H .non "NoneType"
  | bl (b : Bool) : Pl K H (.bl b) "bool"
  | int (i : Int) : Pl K H (.int i) "int"
  | str (x : Str) : Pl K H (.str x) "str"
  | lst {a : Addr} {xs : List V} (h : H a = some (.lst xs)) : Pl K H (.ref a) "list"
  | tup {a : Addr} {xs : List V} (h : H a = some (.tup xs)) : Pl K H (.ref a) "tuple"
  | dct {a : Addr} {xs : List (Key × V)} (h : H a = some (.dK xs)) : Pl K H (.ref a) "dict"
theorem Pl.ty {K : PySem.W.Frag} {H : Hp} {v : V} {t : String} (h : Pl K H v t) : TyX K H v (.type t) := by
  cases h with
  | non => exact .base .non
  | bl b => exact .base (.bl b)
  | int i => exact .base (.int i)
  | str x => exact .base (.str x)
  | lst h => exact .base (.lst h)
  | tup h => exact .base (.tup h)
  | dct h => exact .base (.dK h)
theorem Pl.same {K : PySem.W.Frag} {H H' : Hp} {v : V} {t : String} (e : Same H H') (h : Pl K H v t) : Pl K H' v t := by
  cases h with
  | non => exact .non
  | bl b => exact .bl b
  | int i => exact .int i
  | str x => exact .str x
  | lst h => exact .lst (e _ _ h)
  | tup h => exact .tup (e _ _ h)
  | dct h => exact .dct (e _ _ h)
/-- isinstance of a plain value, told -/
def isiB (t c : String) : Bool := (t == c) || (t == "bool" && c == "int")
theorem isi_int {K : PySem.W.Frag} {H : Hp} {v : V} {t : String} (h : Pl K H v t) : PySem.W.kitOne K (.type t) (.type "int") = some (isiB t "int") := by
  refine kit_ty ?_
  cases h <;> decide +kernel
theorem isi_bool {K : PySem.W.Frag} {H : Hp} {v : V} {t : String} (h : Pl K H v t) : PySem.W.kitOne K (.type t) (.type "bool") = some (isiB t "bool") := by
  refine kit_ty ?_
  cases h <;> decide +kernel
theorem isi_str {K : PySem.W.Frag} {H : Hp} {v : V} {t : String} (h : Pl K H v t) : PySem.W.kitOne K (.type t) (.type "str") = some (isiB t "str") := by
  refine kit_ty ?_
  cases h <;> decide +kernel
theorem isi_tuple {K : PySem.W.Frag} {H : Hp} {v : V} {t : String} (h : Pl K H v t) : PySem.W.kitOne K (.type t) (.type "tuple") = some (isiB t "tuple") := by
  refine kit_ty ?_
  cases h <;> decide +kernel
theorem isi_dict {K : PySem.W.Frag} {H : Hp} {v : V} {t : String} (h : Pl K H v t) : PySem.W.kitOne K (.type t) (.type "dict") = some (isiB t "dict") := by
  refine kit_ty ?_
  cases h <;> decide +kernel
theorem rd_isi {K : PySem.W.Frag} {H : Hp} {v : V} {t c : String} {Q : VK} (h : Pl K H v t) (k : PySem.W.kitOne K (.type t) (.type c) = some (isiB t c))
    (q : Q (.bl (isiB t c)) H) : rIsi K [v, .ty c] H Q := ⟨v, .ty c, .type t, .type c, _, rfl, .ty c, h.ty, k, q⟩

/-! ### readings that are told by what is tracked -/
section
variable {X : Cx}
theorem call_imp {f : Value} {r r' : List V → Hp → VK → Prop} (F : CallR X f r) (h : ∀ xs H Q, r' xs H Q → r xs H Q) : CallR X f r' :=
  fun pins s σ H xs us Q I rv q => F pins s σ H xs us Q I rv (h xs H Q q)
theorem op_imp {f : Value → Value → Sem Value} {r r' : R2} (F : OpR X f r) (h : ∀ x y H Q, r' x y H Q → r x y H Q) : OpR X f r' :=
  fun pins s σ H x y v u Q I rx ry q => F pins s σ H x y v u Q I rx ry (h x y H Q q)
theorem ix_imp {r r' : R2} (F : IxR X r) (h : ∀ x y H Q, r' x y H Q → r x y H Q) : IxR X r' :=
  fun va sl pins s σ H x y v u Q I rx ry q hs => F va sl pins s σ H x y v u Q I rx ry (h x y H Q q) hs
def rIxM : R2 := fun x y H Q => ∃ p xs i v, x = .ref p ∧ y = .int i ∧ H p = some (.lst xs) ∧ atI xs i = some v ∧ Q v H
theorem ix_M : IxR X rIxM := ix_imp ix_list fun x y H Q ⟨p, xs, i, v, h1, h2, h3, h4, q⟩ => ⟨p, xs, i, v, h1, h2, SqL.of h3, h4, q⟩
def rLenM : List V → Hp → VK → Prop := fun xs H Q => ∃ p ys, xs = [.ref p] ∧ H p = some (.lst ys) ∧ Q (.int (ys.length : Int)) H
theorem call_lenM : CallR X (.builtin "len") rLenM := call_imp call_len_seq fun xs H Q ⟨p, ys, h1, h2, q⟩ => ⟨p, ys, h1, .inl (SqL.of h2), q⟩
def rInt : List V → Hp → VK → Prop := fun xs H Q => ∃ i, xs = [.int i] ∧ Q (.int i) H
theorem call_intI : CallR X (.type "int") rInt := call_imp call_int1 fun xs H Q h => .inl h
def rIntB : List V → Hp → VK → Prop := fun xs H Q => ∃ k, xs = [.bl k] ∧ Q (.int (if k then 1 else 0)) H
theorem call_intB : CallR X (.type "int") rIntB := call_imp call_int1 fun xs H Q h => .inr h
end

theorem pe_imp {X : Cx} {e : Expr} {t t' : TE} (h : PE X e t) (i : ∀ σ H Q, t' σ H Q → t σ H Q) : PE X e t' :=
  ⟨fun pins s σ H Q I q => h.run pins s σ H Q I (i σ H Q q)⟩
/-- a method of a text, of a tracked list, of a tracked dict -/
def tSM (r : V → List V → Hp → VK → Prop) (to : TE) (t : TA) : TE := fun σ H Q => to σ H fun x H1 => ∃ a, x = .str a ∧ t σ H1 fun xs H2 => r x xs H2 Q
def tLM (r : V → List V → Hp → VK → Prop) (to : TE) (t : TA) : TE := fun σ H Q => to σ H fun x H1 => ∃ p ys, x = .ref p ∧ H1 p = some (.lst ys) ∧ t σ H1 fun xs H2 => r x xs H2 Q
section
variable {X : Cx} {o e : Expr} {es : List Expr} {to : TE} {t : TA} {name : Str} {apos cpos : Pos} {id : String} {r : V → List V → Hp → VK → Prop}
/-- a reading closed under what follows from what is wanted -/
def tUp (to : TE) : TE := fun σ H Q => ∃ Q1 : VK, to σ H Q1 ∧ ∀ v H1, Q1 v H1 → Q v H1
theorem pe_up (h : PE X o to) : PE X o (tUp to) := by
  constructor
  rintro pins s σ H Q I ⟨Q1, q1, i⟩
  refine thn (h.run pins s σ H Q1 I q1) ?_
  rintro v s1 ⟨x, H1, I1, r1, q⟩
  exact ⟨x, H1, I1, r1, i x H1 q⟩
theorem pe_sm (pa : PlainAttrs "str") (slot : Slot "str" name id) (hty : typeOf (.builtin id) = pure (.type "method_descriptor")) (hm : MtR X id r) (ho : PE X o to) (ha : PA X (e :: es) t)
    (hbase : attributeBase o name X.env (eval o X.env) = eval o X.env := by rfl)
    (hfew : ((backTo cpos (starEach (e :: es) X.env)).all (fun x => !x.1) && (backToKw cpos (keywordEach [] X.env)).all (fun x => x.1.isSome) &&
      decide ((e :: es).length + ([] : List Keyword).length + (if ([] : List Keyword).isEmpty then 0 else 1) < 30)) = true := by rfl)
    (hline : (apos.endLine == cpos.line) = true := by rfl) (hs : starEach (e :: es) X.env = (false, eval e X.env) :: starEach es X.env := by rfl)
    (hplain : (backTo cpos (starEach es X.env)).any (·.1) = false := by rfl) : PE X (.Call (.Attribute o name apos) (e :: es) [] cpos) (tSM r to t) := by
  refine pe_imp (pe_bm pa slot hty hm (pe_up ho) ha hbase hfew hline hs hplain) ?_
  intro σ H Q h
  refine ⟨_, h, ?_⟩
  rintro v H1 ⟨a, rfl, q⟩
  exact ⟨rfl, q⟩
theorem pe_lm (pa : PlainAttrs "list") (slot : Slot "list" name id) (hty : typeOf (.builtin id) = pure (.type "method_descriptor")) (hm : MtR X id r) (ho : PE X o to) (ha : PA X (e :: es) t)
    (hbase : attributeBase o name X.env (eval o X.env) = eval o X.env := by rfl)
    (hfew : ((backTo cpos (starEach (e :: es) X.env)).all (fun x => !x.1) && (backToKw cpos (keywordEach [] X.env)).all (fun x => x.1.isSome) &&
      decide ((e :: es).length + ([] : List Keyword).length + (if ([] : List Keyword).isEmpty then 0 else 1) < 30)) = true := by rfl)
    (hline : (apos.endLine == cpos.line) = true := by rfl) (hs : starEach (e :: es) X.env = (false, eval e X.env) :: starEach es X.env := by rfl)
    (hplain : (backTo cpos (starEach es X.env)).any (·.1) = false := by rfl) : PE X (.Call (.Attribute o name apos) (e :: es) [] cpos) (tLM r to t) := by
  refine pe_imp (pe_bm pa slot hty hm (pe_up ho) ha hbase hfew hline hs hplain) ?_
  intro σ H Q h
  refine ⟨_, h, ?_⟩
  rintro v H1 ⟨p, ys, rfl, hp, q⟩
  exact ⟨.inl ⟨rfl, ys, SqL.of hp⟩, q⟩
end
/-! ### the rest of a block, folded -/
def Later (u : TS) (D : Ends) (σ : St) (H : Hp) : Prop := u D σ H
theorem later {u : TS} {D : Ends} {σ : St} {H : Hp} (h : u D σ H) : Later u D σ H := h
theorem tSeq_eq (t u : TS) (D : Ends) (σ : St) (H : Hp) : tSeq t u D σ H = t { D with nx := Later u D } σ H := rfl
theorem tIfS_eq (c : TT) (t u : TS) (D : Ends) (σ : St) (H : Hp) :
  tIfS c t u D σ H = c σ H fun b H1 => if b = true then Later t D σ H1 else Later u D σ H1 := rfl
/-! ### loops -/
def Loop (J : It) (g : TG) (tb : TS) (D : Ends) (σ : St) (H1 : Hp) : Prop := ∃ W : Nat → Nat → St → Hp → Prop, (∃ m, W 0 m σ H1) ∧ ∀ i m σ H, W i m σ H →
  (J.stop i H ∧ D.nx σ H) ∨ (J.go i H ∧ ∃ N : St → Hp → Prop, (∀ σ' H', N σ' H' → ∃ m', m' < m ∧ W (i + 1) m' σ' H') ∧
    ∀ x H', J.yld i H x H' → g x σ H' fun σ2 H2 => tb { D with nx := N, ct := N, bk := D.nx } σ2 H2)
theorem tFor_eq (wi : TI) (g : TG) (tb : TS) (D : Ends) (σ : St) (H : Hp) : tFor wi g tb D σ H = wi σ H fun J H1 => Loop J g tb D σ H1 := rfl
theorem loop_range {n : Nat} {g : TG} {tb : TS} {D : Ends} {σ : St} {H : Hp} (Pv : Nat → St → Hp → Prop) (h0 : Pv 0 σ H)
    (hs : ∀ (i : Nat) (σ : St) (H : Hp), i < n → Pv i σ H → g (.int (i : Int)) σ H fun σ2 H2 => Later tb { D with nx := Pv (i + 1), ct := Pv (i + 1), bk := D.nx } σ2 H2)
    (hd : ∀ σ H, Pv n σ H → D.nx σ H) : Loop (Itr 0 n) g tb D σ H :=
  for_range (lo := 0) (n := n) Pv h0 (fun i σ H hi p => by rw [Int.zero_add]; exact hs i σ H hi p) hd
theorem loop_list {K : PySem.W.Frag} {a : Addr} {xs : List V} {g : TG} {tb : TS} {D : Ends} {σ : St} {H : Hp} (Pv : Nat → St → Hp → Prop) (h0 : Pv 0 σ H)
    (hl : ∀ i σ H, i ≤ xs.length → Pv i σ H → SqL K H a xs)
    (hs : ∀ (i : Nat) (x : V) (σ : St) (H : Hp), xs[i]? = some x → Pv i σ H → g x σ H fun σ2 H2 => Later tb { D with nx := Pv (i + 1), ct := Pv (i + 1), bk := D.nx } σ2 H2)
    (hd : ∀ σ H, Pv xs.length σ H → D.nx σ H) : Loop (Itl K a) g tb D σ H :=
  for_list (K := K) (a := a) (xs := xs) Pv h0 hl hs hd
/-- an invariant, folded -/
theorem inv_of {α : Type} (P : α → St → Hp → Prop) : ∃ Pv : α → St → Hp → Prop, ∀ i σ H, Pv i σ H ↔ P i σ H := ⟨P, fun _ _ _ => Iff.rfl⟩
def LcLoop (J : It) (g : TG) (tt : TT) (te : TE) (vs : List Nat) (σ : St) (H1 : Hp) (Q : VK) : Prop := ∀ D, H1 D = none → ∃ W : Nat → Nat → Hp → Prop, (∃ m, W 0 m (upd H1 D (.lst []))) ∧ ∀ i m H, W i m H →
  (J.stop i H ∧ Q (.ref D) H) ∨ (J.go i H ∧ ∃ Nx : Hp → Prop, (∀ H', Nx H' → ∃ m', m' < m ∧ W (i + 1) m' H') ∧ ∀ x H', J.yld i H x H' → g x (wipe σ vs) H' fun σ2 H2 => wipe σ2 vs = wipe σ vs ∧
    tt σ2 H2 fun b H3 => if b = true then te σ2 H3 fun y H4 => ∃ acc, H4 D = some (.lst acc) ∧ acc.length < sizeLine ∧ Nx (upd H4 D (.lst (acc ++ [y]))) else Nx H3)
theorem tLc_eq (wi : TI) (g : TG) (tt : TT) (te : TE) (vs : List Nat) (σ : St) (H : Hp) (Q : VK) : tLc wi g tt te vs σ H Q = wi σ H fun J H1 => LcLoop J g tt te vs σ H1 Q := rfl

theorem loop_zip {K : PySem.W.Frag} {a b : Addr} {xs ys : List V} {g : TG} {tb : TS} {D : Ends} {σ : St} {H : Hp} (hl : xs.length = ys.length) (Pv : Nat → St → Hp → Prop) (h0 : Pv 0 σ H)
    (hq : ∀ i σ H, Pv i σ H → SqL K H a xs ∧ SqL K H b ys)
    (hs : ∀ (i : Nat) (x y : V) (T : Addr) (σ : St) (H : Hp), xs[i]? = some x → ys[i]? = some y → Pv i σ H → H T = none →
      g (.ref T) σ (upd H T (.tup [x, y])) fun σ2 H2 => Later tb { D with nx := Pv (i + 1), ct := Pv (i + 1), bk := D.nx } σ2 H2)
    (hd : ∀ σ H, Pv xs.length σ H → D.nx σ H) : Loop (Itz K a b) g tb D σ H :=
  RZ.for_zipL (K := K) (a := a) (b := b) hl Pv h0 hq hs hd
/-- a comprehension whose test and element leave what is known -/
theorem lc_pure {K : PySem.W.Frag} {a : Addr} {xs : List V} {j : Nat} {tt : TT} {te : TE} {vs : List Nat} {σ : St} {H : Hp} {Q : VK} (hx : SqL K H a xs) (hz : xs.length ≤ 1000000) (f : V → Bool) (v : V → V)
    (hw : ∀ x, wipe ((wipe σ vs).set j (some x)) vs = wipe σ vs)
    (ht : ∀ x, x ∈ xs → ∀ H1, Same H H1 → ∀ R : Bool → Hp → Prop, (∀ H2, Same H1 H2 → R (f x) H2) → tt ((wipe σ vs).set j (some x)) H1 R)
    (he : ∀ x, x ∈ xs → f x = true → ∀ H1, Same H H1 → ∀ R : VK, (∀ H2, Same H1 H2 → R (v x) H2) → te ((wipe σ vs).set j (some x)) H1 R)
    (q : ∀ p H2, H p = none → Same H H2 → H2 p = some (.lst ((xs.filter f).map v)) → Q (.ref p) H2) : LcLoop (Itl K a) (gName j) tt te vs σ H Q := by
  intro D hD
  refine lc_list (K := K) (a := a) (xs := xs) (fun i H' => Same H H' ∧ H' D = some (.lst (((xs.take i).filter f).map v))) ⟨Same.new hD, upd_same⟩ (fun i H' _ p => p.1.seq hx) ?_ ?_
  · rintro i x H1 hi ⟨e1, d1⟩
    have hm : x ∈ xs := List.mem_of_getElem? hi
    have htk : xs.take (i + 1) = xs.take i ++ [x] := by rw [List.take_add_one, hi]; rfl
    refine ⟨hw x, ht x hm H1 e1 _ fun H2 e2 => ?_⟩
    cases hf : f x with
    | true =>
      show te _ H2 _
      refine he x hm hf H2 (e1.trans e2) _ fun H3 e3 => ?_
      refine ⟨_, e3 _ _ (e2 _ _ d1), ?_, ?_, ?_⟩
      · have h1 : (((xs.take i).filter f).map v).length ≤ xs.length := by
          rw [List.length_map]
          exact Nat.le_trans (List.length_filter_le _ _) (by rw [List.length_take]; omega)
        exact Nat.lt_of_le_of_lt (Nat.le_trans h1 hz) (by decide)
      · intro b o e
        rw [upd_ne (ne_of_none e hD)]
        exact e3 _ _ (e2 _ _ (e1 _ _ e))
      · rw [htk, upd_same, List.filter_append, List.map_append, List.filter_cons, if_pos hf]
        rfl
    | false =>
      show Same H H2 ∧ _
      refine ⟨e1.trans e2, ?_⟩
      rw [htk, List.filter_append, List.filter_cons, if_neg (by rw [hf]; decide), List.map_append]
      show H2 D = some (.lst (_ ++ []))
      rw [List.append_nil]
      exact e2 _ _ d1
  · rintro H1 ⟨e1, d1⟩
    rw [List.take_length] at d1
    exact q D H1 hD e1 d1

/-! ### repr of truths -/
def reprBB (a b : Bool) : Str := (PyData.list [.bool a, .bool b]).shown
theorem repr_bb {K : PySem.W.Frag} {H : Hp} {p : Addr} {a b : Bool} {Q : VK} (h : H p = some (.lst [.bl a, .bl b])) (q : Q (.str (reprBB a b)) H) : rReprD K [.ref p] H Q := by
  refine ⟨.ref p, .list [.bool a, .bool b], rfl, .lst (SqL.of h) (.cons (.bl a) (.cons (.bl b) .nil)), ?_, ?_, ?_, ?_, q⟩
  · cases a <;> cases b <;> decide
  · cases a <;> cases b <;> decide
  · cases a <;> cases b <;> decide
  · cases a <;> cases b <;> decide +kernel
theorem repr_b {K : PySem.W.Frag} {H : Hp} {a : Bool} {Q : VK} (q : Q (.str (PyData.bool a).shown) H) : rReprD K [.bl a] H Q := by
  refine ⟨.bl a, .bool a, rfl, .bl a, ?_, ?_, ?_, ?_, q⟩
  · cases a <;> decide
  · cases a <;> decide
  · cases a <;> decide
  · cases a <;> decide +kernel
theorem scal_str (x y : Str) : scal (.str x) (.str y) = true := rfl

theorem cx_K {CX : CXT} {P : Program} {w : World} {K : PySem.W.Frag} {mg : Str → Option Value} {base : Heap} {N : List Str} {qual : Str}
    {scope : Scope} {f : Addr} {cd : Value} {A : Around} {outer : List Env} {s : Shared} {H : Hp} {E : XK} :
    (cxOf CX P w K mg base N qual scope f cd A outer s H E).K = K := rfl
theorem cx_w {CX : CXT} {P : Program} {w : World} {K : PySem.W.Frag} {mg : Str → Option Value} {base : Heap} {N : List Str} {qual : Str}
    {scope : Scope} {f : Addr} {cd : Value} {A : Around} {outer : List Env} {s : Shared} {H : Hp} {E : XK} :
    (cxOf CX P w K mg base N qual scope f cd A outer s H E).w = w := rfl
theorem atI0 {α : Type} (x : α) (r : List α) : atI (x :: r) 0 = some x := atI_nat (j := 0) rfl
theorem atI1 {α : Type} (x y : α) (r : List α) : atI (x :: y :: r) 1 = some y := atI_nat (j := 1) rfl
theorem atI2 {α : Type} (x y z : α) (r : List α) : atI (x :: y :: z :: r) 2 = some z := atI_nat (j := 2) rfl
theorem atI_of {α : Type} {xs : List α} {r : Int} (h0 : 0 ≤ r) (h : r.toNat < xs.length) : atI xs r = some xs[r.toNat] := by
  have e : atI xs ((r.toNat : Nat) : Int) = some xs[r.toNat] := atI_nat (List.getElem?_eq_getElem h)
  rw [Int.toNat_of_nonneg h0] at e
  exact e
theorem ixN30 : ixN 3 0 = some 0 := by decide
theorem ixN32 : ixN 3 2 = some 2 := by decide
/-! ### powers of ten in the draws -/
theorem cpow59 : CPow 10 59 := ⟨by decide, by decide, by decide⟩
theorem cpow17 : CPow 10 17 := ⟨by decide, by decide, by decide⟩
theorem cpow60 : CPow 10 60 := ⟨by decide, by decide, by decide⟩
theorem mul60 : CMulW (10 ^ Int.toNat 60) (10 ^ Int.toNat 60) := wide_mul (a := 200) (b := 200) (by decide) (by decide) (by decide) (by decide) (by decide)
end LP

set_option Elab.async false
set_option linter.all false
set_option maxRecDepth 100000
set_option maxHeartbeats 4000000
/-! LPT: texts of numbers, stripped texts (mathematics). -/
namespace LP
open PySem PySem.Spec L2
open PyProof.Rows hiding St
open PySem.Builtin.Str TL

theorem tl_ofString (s : String) : tl (Str.ofString s) = s.toList.map Char.toNat := by
  show (Str.ofString s).cps.toList = _
  rw [Str.ofString_eq_toList]
theorem tl_neg (m : Nat) : tl (Str.ofString (toString (Int.negSucc m))) = 45 :: numL (m + 1) := by
  rw [tl_ofString]
  have e : toString (Int.negSucc m) = "-" ++ Nat.repr (m + 1) := rfl
  rw [e, String.toList_append, List.map_append]
  have e2 : (Nat.repr (m + 1)).toList = Nat.toDigits 10 (m + 1) := Nat.toList_repr
  rw [e2]
  rfl
theorem tl_int (i : Int) : tl (Str.ofString (toString i)) = if i < 0 then 45 :: numL i.natAbs else numL i.natAbs := by
  cases i with
  | ofNat m =>
    rw [if_neg (by show ¬ (Int.ofNat m) < 0; simp)]
    exact tl_num m
  | negSucc m =>
    rw [if_pos (Int.negSucc_lt_zero m)]
    exact tl_neg m
theorem numL_le {n k : Nat} (hk : 0 < k) : (numL n).length ≤ k ↔ n < 10 ^ k := by
  unfold numL
  rw [List.length_map]
  exact Nat.length_toDigits_le_iff (by decide) hk
theorem len_tl' (x : Str) : x.length = (tl x).length := by
  show x.cps.size = x.cps.toList.length
  rw [Array.length_toList]
theorem getD_tl (x : Str) (k : Nat) : x.cps.getD k 0 = (tl x).getD k 0 := (getD_list x k).symm
theorem strSub_len (x : Str) (i j : Nat) (h1 : i ≤ j) (h2 : j ≤ x.length) : (strSub x i j).length = j - i := by
  show (x.cps.extract i j).size = j - i
  rw [Array.size_extract]
  have : j ≤ x.cps.size := h2
  omega
/-- what is stripped is empty just if all signs go -/
theorem strip_nil (x y : Str) : (Txt.stripChars x y).length = 0 ↔ ∀ c ∈ tl x, y.cps.contains c = true := by
  unfold Txt.stripChars
  rw [stripBy_eq]
  obtain ⟨a0, a1, a2⟩ := lo_facts y.cps.contains x
  obtain ⟨b0, b1, b2, b3⟩ := hi_facts y.cps.contains x _ a0
  rw [strSub_len _ _ _ b0 b1]
  have key : ∀ k, k < x.length → x.cps.getD k 0 ∈ tl x := by
    intro k hk
    rw [getD_tl]
    have hk' : k < (tl x).length := by rw [← len_tl']; exact hk
    rw [List.getD_eq_getElem?_getD, List.getElem?_eq_getElem hk']
    exact List.getElem_mem hk'
  constructor
  · intro h c hc
    obtain ⟨k, hk, e⟩ := List.mem_iff_getElem.mp hc
    have hkx : k < x.length := by rw [len_tl']; exact hk
    have e' : x.cps.getD k 0 = c := by
      rw [getD_tl, List.getD_eq_getElem?_getD, List.getElem?_eq_getElem hk]
      exact e
    rw [← e']
    by_cases hl : k < stripLo y.cps.contains true x
    · exact a1 k hl
    · exact b2 k (by omega) hkx
  · intro h
    rcases a2 with e | e
    · omega
    · by_cases hl : stripLo y.cps.contains true x < x.length
      · rw [h _ (key _ hl)] at e
        cases e
      · omega
/-- the figures of a number, its sign stripped -/
theorem len_let (i : Int) : (Txt.stripChars (Str.ofString (toString i)) "-").length = (numL i.natAbs).length := by
  have e := tl_int i
  generalize Str.ofString (toString i) = x at e
  unfold Txt.stripChars
  rw [stripBy_eq]
  obtain ⟨a0, a1, a2⟩ := lo_facts ((Str.ofString "-").cps.contains) x
  obtain ⟨b0, b1, b2, b3⟩ := hi_facts ((Str.ofString "-").cps.contains) x _ a0
  rw [strSub_len _ _ _ b0 b1]
  have hgo : ∀ c : Nat, (Str.ofString "-").cps.contains c = decide (c = 45) := by
    intro c
    have : (Str.ofString "-").cps = #[45] := by decide +kernel
    rw [this]
    by_cases h : c = 45
    · subst h; simp
    · simp [h]
  have hne := numL_ne i.natAbs
  have hpos : 0 < (numL i.natAbs).length := List.length_pos_iff.mpr hne
  have hdig : ∀ k, k < (numL i.natAbs).length → (numL i.natAbs).getD k 0 ≠ 45 := by
    intro k hk h
    rw [List.getD_eq_getElem?_getD, List.getElem?_eq_getElem hk] at h
    have hm : (numL i.natAbs)[k] ∈ numL i.natAbs := List.getElem_mem hk
    have h' : (numL i.natAbs)[k] = 45 := h
    rw [h'] at hm
    exact numL_free (.inl (by decide)) hm
  have hlen := len_tl' x
  by_cases hi : i < 0
  · rw [if_pos hi] at e
    rw [e, List.length_cons] at hlen
    have x0 : x.cps.getD 0 0 = 45 := by rw [getD_tl, e]; rfl
    have xs : ∀ k, x.cps.getD (k + 1) 0 = (numL i.natAbs).getD k 0 := by intro k; rw [getD_tl, e]; rfl
    have lo1 : stripLo ((Str.ofString "-").cps.contains) true x = 1 := by
      by_cases h0 : stripLo ((Str.ofString "-").cps.contains) true x = 0
      · rcases a2 with z | z
        · omega
        · rw [h0, x0, hgo] at z
          simp at z
      · by_cases h2 : 1 < stripLo ((Str.ofString "-").cps.contains) true x
        · have z := a1 1 h2
          rw [xs 0, hgo] at z
          exact absurd (of_decide_eq_true z) (hdig 0 hpos)
        · omega
    have hi1 : stripHi ((Str.ofString "-").cps.contains) true x (stripLo ((Str.ofString "-").cps.contains) true x) = x.length := by
      by_cases h0 : stripHi ((Str.ofString "-").cps.contains) true x (stripLo ((Str.ofString "-").cps.contains) true x) < x.length
      · have z := b2 (x.length - 1) (by omega) (by omega)
        have e3 : x.length - 1 = (numL i.natAbs).length - 1 + 1 := by omega
        rw [e3, xs, hgo] at z
        exact absurd (of_decide_eq_true z) (hdig _ (by omega))
      · omega
    rw [hi1, lo1]
    omega
  · rw [if_neg hi] at e
    rw [e] at hlen
    have xs : ∀ k, x.cps.getD k 0 = (numL i.natAbs).getD k 0 := by intro k; rw [getD_tl, e]
    have lo1 : stripLo ((Str.ofString "-").cps.contains) true x = 0 := by
      by_cases h0 : stripLo ((Str.ofString "-").cps.contains) true x = 0
      · exact h0
      · have z := a1 0 (by omega)
        rw [xs 0, hgo] at z
        exact absurd (of_decide_eq_true z) (hdig 0 hpos)
    have hi1 : stripHi ((Str.ofString "-").cps.contains) true x (stripLo ((Str.ofString "-").cps.contains) true x) = x.length := by
      by_cases h0 : stripHi ((Str.ofString "-").cps.contains) true x (stripLo ((Str.ofString "-").cps.contains) true x) < x.length
      · have z := b2 (x.length - 1) (by omega) (by omega)
        rw [xs, hgo] at z
        exact absurd (of_decide_eq_true z) (hdig _ (by omega))
      · omega
    rw [hi1, lo1]
    omega
/-- the first sign of a number -/
theorem head_int (i : Int) : ∃ c, atI (tl (Str.ofString (toString i))) 0 = some c ∧ (c = 45 ↔ i < 0) := by
  rw [tl_int i]
  by_cases hi : i < 0
  · rw [if_pos hi]
    exact ⟨45, atI0 _ _, by simp [hi]⟩
  · rw [if_neg hi]
    cases h : numL i.natAbs with
    | nil => exact absurd h (numL_ne _)
    | cons c r =>
      refine ⟨c, atI0 _ _, ?_⟩
      have : c ≠ 45 := by
        intro z
        have hm : c ∈ numL i.natAbs := by rw [h]; exact List.mem_cons_self
        rw [z] at hm
        exact numL_free (.inl (by decide)) hm
      simp [this, hi]
theorem log2_of {n : Nat} {k : Nat} (h : n < 2 ^ k) (hk : 0 < k) : n.log2 < k := PySem.Flt.log2_lt_of hk h
end LP

set_option Elab.async false
set_option linter.all false
set_option maxRecDepth 100000
set_option maxHeartbeats 8000000
/-! LPS: sets of texts: set(list of texts), sorted of such a set. -/
namespace LP
open PySem PySem.Spec L2
open PyProof.Rows hiding St

/-! ### what a set of texts is -/
def tkey (e : Int × Value) : Str := match e.2 with
  | .str x _ => x
  | _ => Str.empty
def GoodT (w : World) (e : Int × Value) : Prop := ∃ x tk, e.2 = Value.str x tk ∧ e.1 = hashStr w x
/-- the table rises, and the order of a walk is told by it -/
def Walked (w : World) (t : SetTable) : Prop := Ris t.place.toList ∧ (w.params.followText "set-order" = true ∨ t.led = true)
structure TxIn (w : World) (es : Array (Int × Value)) (S : Str → Bool) : Prop where
  good : ∀ e ∈ es.toList, GoodT w e
  nd : (es.toList.map tkey).Nodup
  mem : ∀ k, S k = true ↔ k ∈ es.toList.map tkey
  few : es.size < scanBound
def SetT (w : World) (h : Heap) (a : Addr) (S : Str → Bool) (n : Nat) : Prop := ∃ o es ep t,
  h.get? a = some o ∧ o.ExactSet ∧ o.data = .set es ep t ∧ TxIn w es S ∧ t.fits es.size = true ∧ es.size = n ∧ Walked w t

section
variable {P : Program} {w : World} {h h' : Heap} {a : Addr} {S : Str → Bool} {n : Nat}
theorem SetT.at (R : SetT w h a S n) (k : ∀ o, h.get? a = some o → h'.get? a = some o) : SetT w h' a S n := by
  obtain ⟨o, es, ep, t, ho, r⟩ := R
  exact ⟨o, es, ep, t, k o ho, r⟩
theorem SetT.congr {S' : Str → Bool} {n' : Nat} (R : SetT w h a S n) (e : ∀ k, S' k = S k) (en : n' = n) : SetT w h a S' n' := by
  have q : S' = S := funext e
  rw [q, en]
  exact R
theorem tx_elems {l : List (Int × Value)} (g : ∀ e ∈ l, GoodT w e) : ElemsOf (strKind P w) l := by
  intro e he
  obtain ⟨x, tk, h1, h2⟩ := g e he
  constructor
  · refine ⟨x, ?_, h2⟩
    rw [h1]
    exact strKind_is P w x tk
  · rw [h1]
    rfl
theorem tx_is {e : Int × Value} (g : GoodT w e) (k : Str) : (strKind P w).is k e.2 = true ↔ tkey e = k := by
  obtain ⟨x, tk, h1, _⟩ := g
  unfold tkey
  rw [h1]
  constructor
  · intro q
    obtain ⟨u, e2⟩ := Value.isStrOf_shape (show Value.isStrOf k (.str x tk) = true from q)
    injection e2
  · intro q
    have q' : x = k := q
    rw [q']
    exact strKind_is P w k tk
theorem tx_mem {l : List (Int × Value)} (g : ∀ e ∈ l, GoodT w e) (k : Str) : k ∈ l.map tkey ↔ ∃ e ∈ l, (strKind P w).is k e.2 = true := by
  rw [List.mem_map]
  constructor
  · rintro ⟨e, he, q⟩
    exact ⟨e, he, (tx_is (P := P) (g e he) k).2 q⟩
  · rintro ⟨e, he, q⟩
    exact ⟨e, he, (tx_is (P := P) (g e he) k).1 q⟩
end

section
variable {P : Program} {w : World} {A : Around} {E : Value → Shared → Prop} {s : Shared} {a : Addr} {S : Str → Bool} {n : Nat}

theorem setT_tail {g : Bool → Sem Unit}
    (hg : ∀ (b : Bool) (s₁ : Shared) (Q' : Unit → Shared → Prop), Q' () s₁ → wpAny (model P w) A (g b) Q' E s₁)
    {o : Obj} {es : Array (Int × Value)} {ep : Nat} {t : SetTable} (ho : s.heap.get? a = some o) (hex : o.ExactSet) (hd : o.data = .set es ep t)
    {es1 : Array (Int × Value)} {t2 : SetTable} {S' : Str → Bool} (T1 : TxIn w es1 S') (hf2 : t2.fits es1.size = true) (hw : Walked w t2)
    {wasDummy : Bool} {R : Option Bool → Shared → Prop}
    (hR : ∀ h', Heap.SameBut a s.heap h' → SetT w h' a S' es1.size → R (some true) { s with heap := h' }) :
    wpAny (model P w) A (do
        storeSet a es1 t2
        if (!wasDummy && t2.tooFull) = true then do
            g (relayAll t2 es1 (SetTable.grown es1.size)).2.2
            storeSet a (relayAll t2 es1 (SetTable.grown es1.size)).1
              (relayAll t2 es1 (SetTable.grown es1.size)).2.1
            pure (some true)
          else pure (some true)) R E s := by
  refine wpAny_bind (wpAny_storeSet_of ho hd ?_ (fits_of_scanBound T1.few))
  have ho1 := store_at (es' := es1) (t' := t2) ho hd
  have sb1 := Heap.SameBut.update s.heap a (Obj.putSet es1 t2)
  split
  · have pm := relayAll_perm t2 es1 (SetTable.grown es1.size)
    have q1 := relayAll_fits t2 es1 (SetTable.grown es1.size)
    have q2 := relayAll_ris t2 es1 (SetTable.grown es1.size)
    have q3 := relayAll_led t2 es1 (SetTable.grown es1.size)
    generalize relayAll t2 es1 (SetTable.grown es1.size) = Z at pm q1 q2 q3 ⊢
    obtain ⟨es2, t3, gave⟩ := Z
    dsimp only at pm q1 q2 q3 ⊢
    have hsz : es2.size = es1.size := by
      have := pm.length_eq
      rw [Array.length_toList, Array.length_toList] at this
      exact this
    have few2 : es2.size < scanBound := hsz ▸ T1.few
    refine wpAny_bind (hg _ _ _ ?_)
    refine wpAny_bind (wpAny_storeSet_of ho1 rfl ?_ (fits_of_scanBound few2))
    have ho2 := store_at (es' := es2) (t' := t3) ho1 rfl
    refine wpAny_pure (hR _ (sb1.trans (Heap.SameBut.update _ a _)) ?_)
    have pk := pm.map tkey
    have T2 : TxIn w es2 S' := ⟨fun e he => T1.good e (pm.mem_iff.mp he), pk.nodup_iff.mpr T1.nd, fun k => (T1.mem k).trans pk.mem_iff.symm, few2⟩
    refine ⟨_, es2, _, t3, ho2, hex, rfl, T2, q1, hsz, q2, ?_⟩
    rcases hw.2 with z | z
    · exact .inl z
    · exact .inr (q3.trans z)
  · exact wpAny_pure (hR _ sb1 ⟨_, es1, _, t2, ho1, hex, rfl, T1, hf2, rfl, hw⟩)

theorem setT_add {k : Str} {tk : Tok} {Q : Bool → Shared → Prop} (R : SetT w s.heap a S n) (room : n + 1 < scanBound)
    (hQ : ∀ h', Heap.SameBut a s.heap h' → SetT w h' a (fun j => S j || decide (j = k)) (if S k = true then n else n + 1) →
      Q (!S k) { s with heap := h' }) :
    wpAny (model P w) A (setAddHashed a (.str k tk) ((strKind P w).hash k)) Q E s := by
  obtain ⟨o, es, ep, t, ho, hex, hd, T, hf, hn, hw⟩ := R
  have hkey : (strKind P w).is k (.str k tk) = true := strKind_is P w k tk
  have hsc : (Value.str k tk).scannable = true := rfl
  have hel : ElemsOf (strKind P w) es.toList := tx_elems T.good
  unfold setAddHashed setAddHashedIn
  refine wpAny_holding (wpAny_bind (wpAny_setState_of ho hd hf ?_))
  dsimp only
  rw [byScan_of hsc T.few hel]
  simp only [↓reduceIte]
  unfold setAddByScan
  refine wpAny_bind ?_
  refine wpAny_bind (wpAny_rule ?_)
  refine wpAny_bind (wpAny_setScan_of hkey ho hd hf hel ?_)
  cases hfi : List.findIdx? (fun e => (strKind P w).is k e.2) es.toList with
  | some j =>
    dsimp only
    obtain ⟨hj, pj, _⟩ := List.findIdx?_eq_some_iff_getElem.mp hfi
    have hSk : S k = true := (T.mem k).2 ((tx_mem (P := P) T.good k).2 ⟨es.toList[j], List.getElem_mem hj, pj⟩)
    refine wpAny_pure (wpAny_pure ?_)
    have mem' : ∀ i, (S i || decide (i = k)) = true ↔ i ∈ es.toList.map tkey := by
      intro i
      rw [Bool.or_eq_true, decide_eq_true_eq, ← T.mem i]
      constructor
      · rintro (z | z)
        · exact z
        · rw [z]; exact hSk
      · exact .inl
    have q := hQ s.heap (Heap.SameBut.refl a s.heap) ⟨o, es, ep, t, ho, hex, hd, ⟨T.good, T.nd, mem', T.few⟩, hf, by rw [if_pos hSk]; exact hn, hw⟩
    rw [hSk] at q
    exact q
  | none =>
    dsimp only
    have hnk : k ∉ es.toList.map tkey := by
      intro z
      obtain ⟨e, he, q⟩ := (tx_mem (P := P) T.good k).1 z
      have c := List.findIdx?_eq_none_iff.mp hfi e he
      rw [q] at c
      cases c
    have hSk : S k = false := by
      cases q : S k with
      | false => rfl
      | true => exact absurd ((T.mem k).1 q) hnk
    have hgw : ∀ (b : Bool) {s₁ : Shared} {Q' : Unit → Shared → Prop}, Q' () s₁ →
        wpAny (model P w) A (match b with | true => rule "set.scan.the-table-gave-way" | false => pure ()) Q' E s₁ := by
      intro b s₁ Q' q
      cases b
      · exact wpAny_pure q
      · exact wpAny_rule q
    have pm := layNew_perm t es ((strKind P w).hash k) (.str k tk)
    have q1 := layNew_fits t es ((strKind P w).hash k) (.str k tk)
    have q2 := layNew_ris t es ((strKind P w).hash k) (.str k tk) hw.1
    have q3 := layNew_led t es ((strKind P w).hash k) (.str k tk)
    generalize layNew t es ((strKind P w).hash k) (.str k tk) = Z at pm q1 q2 q3 ⊢
    obtain ⟨es1, t1, wasDummy, gave⟩ := Z
    dsimp only at pm q1 q2 q3 ⊢
    rw [Array.toList_push] at pm
    have pc := pm.trans (List.perm_append_singleton _ _)
    have pk : (es1.toList.map tkey).Perm (k :: es.toList.map tkey) := pc.map tkey
    have hsz : es1.size = n + 1 := by
      have z := pc.length_eq
      rw [List.length_cons, Array.length_toList, Array.length_toList, hn] at z
      exact z
    have T1 : TxIn w es1 (fun j => S j || decide (j = k)) := by
      refine ⟨fun e he => ?_, pk.nodup_iff.mpr (List.nodup_cons.mpr ⟨hnk, T.nd⟩), fun i => ?_, hsz ▸ room⟩
      · rcases List.mem_cons.mp (pc.mem_iff.mp he) with z | z
        · rw [z]
          exact ⟨k, tk, rfl, rfl⟩
        · exact T.good e z
      · rw [Bool.or_eq_true, decide_eq_true_eq, T.mem i, pk.mem_iff, List.mem_cons]
        exact Or.comm
    have hw1 : Walked w t1 := by
      refine ⟨q2, ?_⟩
      rcases hw.2 with z | z
      · exact .inl z
      · exact .inr (q3.trans z)
    have fin : ∀ h', Heap.SameBut a s.heap h' → SetT w h' a (fun j => S j || decide (j = k)) es1.size → Q true { s with heap := h' } := by
      intro h' sb r
      have q := hQ h' sb
      rw [hSk] at q
      rw [hsz] at r
      exact q r
    refine wpAny_bind (hgw _ ?_)
    split
    · refine wpAny_bind ?_
      rw [hashByValue_scannable 8 hsc]
      refine wpAny_pure ?_
      refine setT_tail ?_ ho hex hd T1 ?_ ?_ ?_
      · intro b s₁ Q' q
        cases b
        · exact wpAny_pure q
        · exact wpAny_rule q
      · first | (split <;> first | exact q1 | exact SetTable.fits_plain_off q1) | exact q1
      · first | (split <;> exact hw1) | exact hw1
      · intro h' sb r
        dsimp only
        exact wpAny_pure (fin h' sb r)
    · refine wpAny_bind (wpAny_pure ?_)
      simp only [↓reduceIte]
      refine setT_tail ?_ ho hex hd T1 q1 hw1 ?_
      · intro b s₁ Q' q
        cases b
        · exact wpAny_pure q
        · exact wpAny_rule q
      · intro h' sb r
        dsimp only
        exact wpAny_pure (fin h' sb r)
end

/-! ### set(xs) -/
section
variable {prog : Program} {w : World} {A : Around} {R : Result → Shared → Prop} {I : Addr} {fp wr : List Addr}
  {G : Array GenState → Array GenState → Prop} {n : Nat} {P : Nat → Value → Prop} {St : Nat → Shared → Prop}

/-- the set at S holds just the first i of the texts -/
def HoldsT (w : World) (h : Heap) (S : Addr) (xs : List Str) (i : Nat) : Prop := ∃ (M : Str → Bool) (m : Nat), SetT w h S M m ∧ m ≤ i ∧ ∀ k, M k = true ↔ k ∈ xs.take i

theorem update_texts (W : WalksS prog w A.in1 I fp wr G n P St) (S : Addr) (hSf : S ∉ fp) (xs : List Str)
    (hval : ∀ (i : Nat) (v : Value), P i v → ∃ x t, xs[i]? = some x ∧ v = Value.str x t) (hb : n + 1 < scanBound) :
    ∀ (k i : Nat) (s : Shared), n - i = k → i ≤ n → St i s → HoldsT w s.heap S xs i →
      (∀ s', Moved (S :: wr) G s s' → HoldsT w s'.heap S xs n → R (.ok (.ret .none)) s') →
      codeAny (model prog w) A (.builtin "set.update.loop" ⟨[.ref S, .ref I], []⟩) R s := by
  have hSw : S ∉ wr := fun h => hSf (W.sub _ h)
  have hsub : ∀ b ∈ wr, b ∈ S :: wr := fun b hb => List.mem_cons_of_mem _ hb
  intro k
  induction k with
  | zero =>
    intro i s hk hi hst hS hR
    obtain rfl : i = n := by omega
    refine codeAny_builtin F.entry_set_update_loop ?_
    rw [Around.under_plainId F.plain_set_update_loop _]
    show wpAny _ A.in1 (pyNext (.ref I) >>= _) _ _ s
    refine wpAny_bind (W.done s _ _ hst ?_)
    intro s' hm
    show wpAny _ A.in1 (ret Value.none) _ _ s'
    refine wpAny_pure (hR s' (hm.mono hsub) ?_)
    obtain ⟨M, m, T, hmi, hM⟩ := hS
    exact ⟨M, m, T.at fun o ho => hm.heap S _ hSw ho, hmi, hM⟩
  | succ k ih =>
    intro i s hk hi hst hS hR
    have hlt : i < n := by omega
    refine codeAny_builtin F.entry_set_update_loop ?_
    rw [Around.under_plainId F.plain_set_update_loop _]
    show wpAny _ A.in1 (pyNext (.ref I) >>= _) _ _ s
    refine wpAny_bind (W.item i s _ _ hlt hst ?_)
    intro v s' hP hst' hm
    obtain ⟨x, t, hx, rfl⟩ := hval i v hP
    obtain ⟨M, m, T, hmi, hM⟩ := hS
    have T' : SetT w s'.heap S M m := T.at fun o ho => hm.heap S _ hSw ho
    show wpAny _ A.in1 (holding [Value.str x t] (setAdd S (.str x t)) >>= _) _ _ s'
    refine wpAny_bind (wpAny_holding ?_)
    unfold setAdd
    refine wpAny_holding ?_
    refine wpAny_bind ((strKind prog w).pyHash (k := x) (strKind_is _ _ _ _) ?_)
    refine setT_add (s := { s' with toks := s'.toks + 1 }) T' (by omega) ?_
    intro h' hsb T2
    have hSi : HoldsT w h' S xs (i + 1) := by
      refine ⟨_, _, T2, ?_, fun j => ?_⟩
      · split <;> omega
      · rw [Bool.or_eq_true, decide_eq_true_eq, hM j, List.take_add_one, hx, List.mem_append]
        show _ ↔ _ ∨ j ∈ [x]
        rw [List.mem_singleton]
    refine wpAny_pure ⟨plainId_quiet F.plain_set_update_loop _, ?_⟩
    refine ih (i + 1) _ (by omega) hlt (W.frame _ s' _ _ hst' (Nat.le_succ _) ?_) hSi ?_
    · intro b hb o e
      rw [hsb.2 b (fun h : b = S => hSf (by rw [← h]; exact hb))]
      exact e
    · intro s'' hm'' hS''
      refine hR s'' (Moved.trans W.gtrans ((hm.mono hsub).then_heap (Nat.le_succ _) ?_) hm'') hS''
      intro b o hb e
      rw [hsb.2 b (fun h : b = S => hb (by rw [h]; exact List.mem_cons_self))]
      exact e
end

section
variable {P : Program} {w : World} {A : Around} {E : Value → Shared → Prop} {s : Shared}
def freshSet (w : World) : Obj := { cls := .type "set", dict := none, data := .set #[] 0 (.fresh 0 0 (!w.params.followText "set-order")) }
theorem set_new1 (a : Value) {Q₁ : Value → Shared → Prop} (h : Q₁ (.ref s.heap.objs.size) { s with heap := s.heap.push (freshSet w) }) :
    codeAny (model P w) A (.call (.builtin "set.__new__") ⟨[.type "set", a], []⟩) (wants Q₁ E) s := by
  refine codeAny_of_tree ?_
  show wpAny _ A.in1 (do
    checkBuiltinCall "set.__new__" ⟨[.type "set", a], []⟩
    again (.builtin "set.__new__" ⟨[.type "set", a], []⟩)) _ _ s
  refine wpAny_bind (wpAny_of_eq (F.newCall_set_1 a) (wpAny_pure ⟨plainId_quiet F.plain_set_new _, ?_⟩))
  refine codeAny_builtin F.entry_set_new ?_
  rw [Around.under_plainId F.plain_set_new _]
  unfold Builtin.«set.__new__» Builtin.Frozenset.newClass
  have hsub := sub_set_self
  obtain ⟨hp, g, d, tk, os⟩ := s
  dsimp only
  wp_walk
  refine wpAny_askSetting (wpAny_pure ?_)
  dsimp only
  simp only [newObj]
  exact wpAny_bind (wpAny_alloc (wpAny_pure (wpAny_pure h)))
theorem setT_fresh {h : Heap} (w : World) (xs : List Str) : HoldsT w (h.push (freshSet w)) h.objs.size xs 0 := by
  refine ⟨fun _ => false, 0, ⟨_, #[], 0, _, Heap.get?_push_size _ rfl, ⟨rfl, rfl, rfl⟩, rfl, ⟨?_, ?_, ?_, ?_⟩, ?_, rfl, List.Pairwise.nil, ?_⟩, Nat.le_refl _, ?_⟩
  · intro e he
    simp at he
  · simp
  · intro k
    simp
  · decide
  · rfl
  · show _ ∨ (!w.params.followText "set-order") = true
    cases w.params.followText "set-order"
    · exact .inr rfl
    · exact .inl rfl
  · intro k
    simp

theorem call_set_texts {l : Addr} {items : Array Value} {xs : List Str} {Q : Value → Shared → Prop} (hh : A.handled = none)
    (hl : s.heap.IsList l items) (hi : ∀ (i : Nat) (v : Value), items[i]? = some v → ∃ x t, xs[i]? = some x ∧ v = Value.str x t) (hb : items.size + 1 < scanBound)
    (h : ∀ (h' : Heap) (tk : Nat), HoldsT w h' s.heap.objs.size xs items.size →
      (∀ b o, b < s.heap.objs.size → s.heap.get? b = some o → h'.get? b = some o) → Q (.ref s.heap.objs.size) { s with heap := h', toks := tk }) :
    wpAny (model P w) A (call (.type "set") [.ref l]) Q E s := by
  obtain ⟨c, tl, hmro⟩ := F.called_set.mro
  have hmade := F.called_set.made
  have hsub := F.called_set.sub
  refine wpAny_call (codeAny_of_tree ?_)
  show wpAny _ _ (callAny (.type "set") _) _ _ _
  refine wpAny_pure ⟨Code.quiet_builtin _ (by decide +kernel), ?_⟩
  refine codeAny_builtin F.entry_type_call ?_
  rw [Around.under_plain (weight_type_call_type "set" [.ref l] []) rfl]
  have h1 := F.called_set.notType
  have h2 := F.called_set.canCreate
  have hct := F.typeCall_set_1 (.ref l)
  repeat (any_goals (first | assumption | wp_step))
  refine codeAny_mono (set_new1 (.ref l) (E := E) (Q₁ := fun obj s₁ => obj = .ref s.heap.objs.size ∧ s₁ = { s with heap := s.heap.push (freshSet w) }) ⟨rfl, rfl⟩) ?_
  intro r s₁ hr
  cases r with
  | error e => exact hr
  | ok fl =>
    cases fl with
    | ret obj =>
      obtain ⟨rfl, rfl⟩ := hr
      have hS : (s.heap.push (freshSet w)).get? s.heap.objs.size = some (freshSet w) := Heap.get?_push_size _ rfl
      have hT : Shared.TypeIs { s with heap := s.heap.push (freshSet w) } (.ref s.heap.objs.size) "set" := ⟨_, hS, rfl⟩
      have hli := F.called_set.init.lookup
      have hbi := F.called_set.init.bind (.ref s.heap.objs.size)
      repeat (any_goals (first | assumption | wp_step))
      refine codeAny_mono (codeAny_call_builtin (R := wants (fun r s₂ => r = .none ∧ ∃ h' tk, s₂ = { s with heap := h', toks := tk } ∧
          HoldsT w h' s.heap.objs.size xs items.size ∧ (∀ b o, b < s.heap.objs.size → s.heap.get? b = some o → h'.get? b = some o)) E)
        F.called_set.init.plain F.entry_set_init (check_set_init_1 hT ?_)) ?_
      · obtain ⟨ol, hol, hcl, nl, hdl⟩ := hl
        obtain ⟨ocls, odict, odata, oslots⟩ := ol
        simp only at hcl hdl
        subst hcl
        subst hdl
        have hol' : (s.heap.push (freshSet w)).get? l = some { cls := .type "list", dict := odict, data := .seq items nl, slots := oslots } := Heap.get?_push_of_some _ hol
        have hsls := F.sub_list_set
        have hslf := F.sub_list_frozenset
        have hne : (Value.type "list" == Value.type "dict") = false := by decide
        have hl1 : (s.heap.push (freshSet w)).IsList l items := ⟨_, hol', rfl, nl, rfl⟩
        unfold Builtin.«set.__init__» noKeywords Builtin.Frozenset.updateFrom
        generalize hPI : pyIter = PI
        wp_walk
        subst hPI
        refine wpAny_pyIter_list hl1 ?_
        refine wpAny_bind (wpAny_runValue ?_)
        have hlS : l < s.heap.objs.size := Heap.lt_size hol
        have hh3 : A.in1.in1.in1.handled = none := by simp [hh]
        have hsz : (s.heap.push (freshSet w)).objs.size = s.heap.objs.size + 1 := Heap.size_push _ _
        have hneI : l ≠ (s.heap.push (freshSet w)).objs.size := by
          rw [hsz]
          exact Nat.ne_of_lt (Nat.lt_succ_of_lt hlS)
        have hSf : s.heap.objs.size ∉ [(s.heap.push (freshSet w)).objs.size, l] := by
          rw [hsz]
          simp only [List.mem_cons, List.not_mem_nil, or_false, not_or]
          exact ⟨Nat.ne_of_lt (Nat.lt_succ_self _), Nat.ne_of_gt hlS⟩
        refine update_texts ((Walks.list hh3 _ l hneI items).toS) s.heap.objs.size hSf xs hi hb (items.size - 0) 0 _ (by omega) (Nat.zero_le _)
          ⟨⟨_, Heap.get?_push_size _ rfl, rfl, rfl⟩, (hl1.push _)⟩ ?hS0 ?hR
        case hS0 =>
          obtain ⟨M, m, T, e1, e2⟩ := setT_fresh (h := s.heap) w xs
          exact ⟨M, m, T.at fun o ho => Heap.get?_push_of_some _ ho, e1, e2⟩
        case hR =>
          intro s' hm hS'
          obtain ⟨h', g', d', tk', os'⟩ := s'
          have eg : g' = s.gens := hm.gens
          have ed : d' = s.drawn := hm.drawn
          have eo : os' = s.os := hm.os
          subst eg
          subst ed
          subst eo
          show wpAny _ _ _ _ _ _
          refine wpAny_pure ?_
          show wpAny _ _ (ret Value.none) _ _ _
          refine wpAny_pure ⟨rfl, h', tk', rfl, hS', ?_⟩
          intro b o hb e
          have hb1 : b ≠ s.heap.objs.size := Nat.ne_of_lt hb
          have hb2 : b ≠ (s.heap.push (freshSet w)).objs.size := by
            rw [hsz]
            exact Nat.ne_of_lt (Nat.lt_succ_of_lt hb)
          refine hm.heap b o ?_ (Heap.get?_push_of_some _ (Heap.get?_push_of_some _ e))
          simp only [List.mem_cons, List.not_mem_nil, or_false, not_or]
          exact ⟨hb1, hb2⟩
      · intro r₂ s₂ hr₂
        cases r₂ with
        | error e => exact hr₂
        | ok fl₂ =>
          cases fl₂ with
          | ret r =>
            obtain ⟨rfl, h', tk, rfl, hS', hk'⟩ := hr₂
            repeat (any_goals (first | assumption | wp_step))
            exact h _ _ hS' hk'
          | _ => exact hr₂.elim
    | _ => exact hr.elim

/-! ### sorted(set) -/
def txtOf (v : Value) : Str := match v with
  | .str x _ => x
  | _ => Str.empty
theorem strs_of : ∀ (l : List Value), (∀ v ∈ l, ∃ x tk, v = Value.str x tk) → StrsAre l (l.map txtOf)
  | [], _ => .nil
  | v :: l, h => by
    obtain ⟨x, tk, rfl⟩ := h v List.mem_cons_self
    exact .cons x tk (strs_of l fun u hu => h u (List.mem_cons_of_mem _ hu))

theorem sorted_texts {a : Addr} {S : Str → Bool} {n : Nat} {Q : Value → Shared → Prop} (R : SetT w s.heap a S n) (hh : A.handled = none)
    (hQ : ∀ s' p (out : Array Value) (c : Nat) (ys : List Str), (∀ b o, s.heap.get? b = some o → s'.heap.get? b = some o) → s'.gens = s.gens → s'.os = s.os →
      s.heap.objs.size ≤ p → s'.heap.get? p = some (seqObj "list" out c) → StrsAre out.toList ys → sortedS ys = true → ys.Nodup → (∀ k, k ∈ ys ↔ S k = true) →
      ys.length = n → Q (.ref p) s') :
    wpAny (model P w) A (call (.builtin "sorted") [.ref a]) Q E s := by
  obtain ⟨o, es, ep, t, ho, hex, hd, T, hf, hn, hw⟩ := R
  refine Calls.call_function_entry kind_sorted plain_sorted entry_sorted (args_sorted1 _) ?_
  unfold Builtin.«sorted»
  refine wpAny_bind (m := checkCount "sorted" 1 1 _) (wpAny_pure ?_)
  refine wpAny_bind (collect_set (A := A.in1) hh ⟨o, ho, hex.1, hd⟩ hf T.few hw.1 hw.2 ?_)
  intro s1 vs k1 hz g1 o1 pm
  have hvl : vs.length = n := by
    rw [pm.length_eq, List.length_map, Array.length_toList]
    exact hn
  have hI : StrsAre vs (vs.map txtOf) := by
    refine strs_of vs fun v hv => ?_
    obtain ⟨e, he, q⟩ := List.mem_map.mp (pm.mem_iff.mp hv)
    obtain ⟨x, tk, h1, _⟩ := T.good e he
    exact ⟨x, tk, by rw [← q]; exact h1⟩
  have pk : (vs.map txtOf).Perm (es.toList.map tkey) := by
    have q := pm.map txtOf
    rw [List.map_map] at q
    exact q
  have hline : vs.length ≤ sizeLine := by
    rw [hvl, ← hn]
    exact fits_of_scanBound T.few
  refine wpAny_bind (wpAny_newList ?_ hline)
  have hoL : (s1.heap.push (seqObj "list" vs.toArray 0)).get? s1.heap.objs.size = some (seqObj "list" vs.toArray 0) := Heap.get?_push_size _ rfl
  refine wpAny_bind (wpAny_holding (wpAny_call_entry slot_list_sort ⟨_, hoL, rfl⟩ entry_list_sort
    (list_sort_treeKAny strKind_oneLt hoL hI.keysOf (fun v₁ v₂ rest e => keyKind_strs (by rw [← e]; exact hI)) hline ?_) (args_list_sort _)))
  intro st' hp hs
  obtain ⟨ys, a1, a2, a3⟩ := sorted_out_str hI hp hs
  refine ⟨_, rfl, ?_⟩
  obtain ⟨c, hc⟩ := sortedHeap_at (vs := vs) (out := (arrOf st').map (·.2)) hoL
  have pn : ys.Perm (es.toList.map tkey) := a2.trans pk
  refine wpAny_pure ⟨_, rfl, ?_⟩
  refine hQ _ s1.heap.objs.size _ c ys ?_ g1 o1 hz hc a1 a3 (pn.nodup_iff.mpr T.nd) (fun k => by rw [pn.mem_iff, ← T.mem k]) ?_
  · intro b u e
    have q := k1 b u e
    have hlt := Heap.lt_size q
    show (sortedHeap (s1.heap.push (seqObj "list" vs.toArray 0)) s1.heap.objs.size vs _).get? b = some u
    rw [sortedHeap_old (Nat.ne_of_lt hlt) (by rw [size_push']; exact Nat.lt_succ_of_lt hlt)]
    exact Heap.get?_push_of_some _ q
  · rw [pn.length_eq, List.length_map, Array.length_toList]
    exact hn
end

/-! ### over the layer -/
/-- a tracked set of just these texts -/
def TxS (w : World) (a : Addr) (xs : List Str) : HO := .ext fun h => HoldsT w h a xs xs.length
theorem txS_ok {P : Program} {w : World} {H : Hp} {h : Heap} {a : Addr} {xs : List Str} (T : HoldsT w h a xs xs.length) : ObjOk P w H h a (TxS w a xs) := by
  refine ⟨T, ?_, ?_⟩
  · obtain ⟨_, _, ⟨o, _, _, _, ho, _⟩, _⟩ := T
    exact ⟨o, ho⟩
  · rintro h1 h2 ⟨M, m, T1, e1, e2⟩ k
    exact ⟨M, m, T1.at k, e1, e2⟩
/-- sorted, each once, the same members -/
structure Sorted (ys xs : List Str) : Prop where
  up : sortedS ys = true
  nd : ys.Nodup
  mem : ∀ k, k ∈ ys ↔ k ∈ xs
  len : ys.length ≤ xs.length
def rSetT (w : World) : List V → Hp → VK → Prop := fun vs H Q => ∃ (l : Addr) (xs : List Str), vs = [.ref l] ∧ H l = some (.lst (xs.map V.str)) ∧ xs.length + 1 < scanBound ∧
  ∀ p, H p = none → Q (.ref p) (upd H p (TxS w p xs))
def rSortT (w : World) : List V → Hp → VK → Prop := fun vs H Q => ∃ (a : Addr) (xs : List Str), vs = [.ref a] ∧ H a = some (TxS w a xs) ∧
  ∀ ys p, Sorted ys xs → H p = none → Q (.ref p) (upd H p (.lst (ys.map V.str)))
theorem vals_str {xs : List Str} {us : List Value} (r : Vals (xs.map V.str) us) (i : Nat) (v : Value) (h : us[i]? = some v) : ∃ x t, xs[i]? = some x ∧ v = Value.str x t := by
  have hi : i < us.length := (List.getElem?_eq_some_iff.mp h).1
  have hx : i < xs.length := by
    have := r.length
    rw [List.length_map] at this
    omega
  obtain ⟨u, h1, h2⟩ := Vals.get (i := i) (x := V.str xs[i]) r (by rw [List.getElem?_map, List.getElem?_eq_getElem hx]; rfl)
  rw [h] at h1
  cases h1
  obtain ⟨t, e⟩ := h2
  exact ⟨xs[i], t, List.getElem?_eq_getElem hx, e⟩
section
variable {X : Cx}
theorem cr_setT (hc : X.calm = true) : CallR X (.type "set") (rSetT X.w) := by
  intro pins s σ H vs us Q I r h
  obtain ⟨l, xs, rfl, hl, hz, q⟩ := h
  obtain ⟨its, rv, pl, _⟩ := I.list (SqL.of hl)
  rw [Vals.ref1 r]
  have hlen : its.length = xs.length := by
    have := rv.length
    rw [List.length_map] at this
    exact this.symm
  refine call_set_texts (xs := xs) (I.ok.hd hc) pl.isList (fun i v hv => vals_str rv i v (by simpa using hv)) (by rw [List.size_toArray, hlen]; exact hz) ?_
  intro h' tk T k
  have ez : its.toArray.size = xs.length := by rw [List.size_toArray, hlen]
  rw [ez] at T
  have kk : ∀ b o, s.heap.get? b = some o → h'.get? b = some o := fun b o e => k b o (Heap.lt_size e) e
  exact ⟨.ref _, _, I.laid (t' := tk) kk (Nat.le_refl _) (txS_ok T), rfl, q _ (I.hok.fresh (Nat.le_refl _))⟩
theorem cr_sortT (hc : X.calm = true) : CallR X (.builtin "sorted") (rSortT X.w) := by
  intro pins s σ H vs us Q I r h
  obtain ⟨a, xs, rfl, ha, q⟩ := h
  have T : HoldsT X.w s.heap a xs xs.length := (I.hok a _ ha).1
  obtain ⟨M, m, T, hm, hM⟩ := T
  rw [List.take_length] at hM
  rw [Vals.ref1 r]
  refine sorted_texts T (I.ok.hd hc) ?_
  intro s' p out c ys k g o hp hg hs h1 h2 h3 h4
  have so : Sorted ys xs := ⟨h1, h2, fun j => (h3 j).trans (hM j), by rw [h4]; exact hm⟩
  have few : ys.length < scanBound := by
    obtain ⟨_, es, _, _, _, _, _, Tx, _, hn, _⟩ := T
    rw [h4, ← hn]
    exact Tx.few
  have hlen : (ys.map V.str).length ≤ sizeLine := by
    rw [List.length_map]
    exact fits_of_scanBound few
  have hn : H p = none := I.hok.fresh hp
  have J : Inv X pins σ (upd H p (.lst (ys.map V.str))) { s with heap := s'.heap, gens := s'.gens, drawn := s'.drawn, toks := s'.toks } :=
    I.call (ch := []) (Un.laid k hp hn) (I.hok.laid k hp ⟨hlen, out.toList, c, vals_of_strs hs, hg⟩) (by rw [g]; exact I.bare) (fun _ z => nomatch z)
  have e : s' = { s with heap := s'.heap, gens := s'.gens, drawn := s'.drawn, toks := s'.toks } := by
    cases s'
    cases s
    cases o
    rfl
  rw [e]
  exact ⟨.ref p, _, J, rfl, q ys p so hn⟩
end
end LP

set_option Elab.async false
set_option linter.all false
set_option maxRecDepth 100000
set_option maxHeartbeats 4000000
/-! LPX: further readings: texts repeated, signs of a text, tuples walked, all(..). -/
namespace LP
open PySem PySem.Spec L2
open PyProof.Rows hiding St

/-! ### a text repeated -/
def repS (z : Str) (n : Int) : Str := Txt.mul z n
theorem foldl_app {α : Type} : ∀ (l : List (Array α)) (a : Array α), (l.foldl (· ++ ·) a).toList = a.toList ++ (l.map Array.toList).flatten
  | [], a => by simp
  | x :: r, a => by
    rw [List.foldl_cons, foldl_app r (a ++ x)]
    simp
theorem tl_rep (z : Str) (n : Int) : TL.tl (repS z n) = (List.replicate n.toNat (TL.tl z)).flatten := by
  unfold repS Txt.mul
  by_cases h : n < 1
  · rw [if_pos h]
    have e : n.toNat = 0 := by omega
    rw [e]
    rfl
  · rw [if_neg h]
    by_cases h2 : (n == 1 || z.length == 0) = true
    · rw [if_pos h2]
      rw [Bool.or_eq_true, beq_iff_eq, beq_iff_eq] at h2
      rcases h2 with e | e
      · rw [e]
        simp
      · have e2 : TL.tl z = [] := List.length_eq_zero_iff.mp ((len_tl' z).symm.trans e)
        rw [e2]
        simp
    · rw [if_neg h2]
      show ((List.replicate n.toNat z.cps).foldl (· ++ ·) #[]).toList = _
      rw [foldl_app]
      simp
theorem len_rep (z : Str) (n : Int) : (repS z n).length = z.length * n.toNat := by
  rw [len_tl', tl_rep, List.length_flatten, len_tl']
  simp [Nat.mul_comm]
def rRepS : R2 := fun x y H Q => ∃ z n, x = .str z ∧ y = .int n ∧ (-(2 ^ 63) ≤ n ∧ n < 2 ^ 63 ∧ z.length * n.toNat ≤ sizeLine) ∧ Q (.str (repS z n)) H
section
variable {X : Cx}
theorem op_repS : OpR X (binaryOp .Mult) rRepS := by
  intro pins s σ H x y v u Q I rx ry h
  obtain ⟨z, n, rfl, rfl, ⟨h1, h2, h3⟩, q⟩ := h
  obtain ⟨t, rfl⟩ := rx
  obtain ⟨k, rfl⟩ := ry
  refine SB.mul ⟨?_, ?_, ?_⟩ (fun t' k' => ⟨.str _, H, I.tok _, ⟨_, rfl⟩, q⟩)
  · rw [Bool.or_eq_false_iff, decide_eq_false_iff_not, decide_eq_false_iff_not]
    omega
  · intro hn _ hc
    have e : sizeLine = 16777216 := sizeLine_eq
    rw [e] at h3
    have h5 : (z.length : Int) * n ≤ 16777216 := by
      have e2 : ((n.toNat : Nat) : Int) = n := Int.toNat_of_nonneg (by omega)
      have e3 := Int.ofNat_le.mpr h3
      rw [Int.natCast_mul, e2] at e3
      exact e3
    have h6 : (z.length : Int) ≤ (2 ^ 63 - 1) / n := by
      rw [Int.le_ediv_iff_mul_le (by omega)]
      omega
    omega
  · intro hn _
    show decide (z.length * n.toNat > sizeLine) = false
    rw [decide_eq_false_iff_not]
    exact Nat.not_lt_of_le h3
end

/-! ### the signs of a text -/
def sgn (c : Nat) : V := .str ⟨#[c]⟩
def signs (x : Str) : List V := x.cps.toList.map sgn
theorem signs_len (x : Str) : (signs x).length = x.length := by
  unfold signs
  rw [List.length_map, len_tl']
theorem walk_signs (x : Str) : Walk (Its x) (signs x).length (fun _ => True) (YAt (signs x)) := by
  have e : (signs x).length = x.cps.size := signs_len x
  refine ⟨fun i H hi _ => ?_, fun H _ => ?_, fun i H v H' hi _ y => ?_⟩
  · rw [e] at hi
    exact hi
  · exact Nat.le_of_eq e.symm
  · obtain ⟨e1, c, hc, e2⟩ := y
    refine ⟨e1, ?_⟩
    unfold signs
    rw [List.getElem?_map, Array.getElem?_toList, hc, e2]
    rfl

/-! ### comprehensions that leave what is known, over any walk -/
theorem lc_pureW {J : It} {G : Hp → Prop} {xs : List V} (W : Walk J xs.length G (YAt xs)) {j : Nat} {tt : TT} {te : TE} {vs : List Nat} {σ : St} {H : Hp} {Q : VK}
    (hG : ∀ H1, Same H H1 → G H1) (hz : xs.length ≤ 1000000) (f : V → Bool) (v : V → V)
    (hw : ∀ x, wipe ((wipe σ vs).set j (some x)) vs = wipe σ vs)
    (ht : ∀ x, x ∈ xs → ∀ H1, Same H H1 → ∀ R : Bool → Hp → Prop, (∀ H2, Same H1 H2 → R (f x) H2) → tt ((wipe σ vs).set j (some x)) H1 R)
    (he : ∀ x, x ∈ xs → f x = true → ∀ H1, Same H H1 → ∀ R : VK, (∀ H2, Same H1 H2 → R (v x) H2) → te ((wipe σ vs).set j (some x)) H1 R)
    (q : ∀ p H2, H p = none → Same H H2 → H2 p = some (.lst ((xs.filter f).map v)) → Q (.ref p) H2) : LcLoop J (gName j) tt te vs σ H Q := by
  intro D hD
  refine lc_it W (fun i H' => Same H H' ∧ H' D = some (.lst (((xs.take i).filter f).map v))) ⟨Same.new hD, upd_same⟩ (fun i H' _ p => hG H' p.1) ?_ ?_
  · rintro i x H1 H1' hi ⟨e1, d1⟩ ⟨rfl, hx⟩
    have hm : x ∈ xs := List.mem_of_getElem? hx
    have htk : xs.take (i + 1) = xs.take i ++ [x] := by rw [List.take_add_one, hx]; rfl
    refine ⟨hw x, ht x hm _ e1 _ fun H2 e2 => ?_⟩
    cases hf : f x with
    | true =>
      show te _ H2 _
      refine he x hm hf H2 (e1.trans e2) _ fun H3 e3 => ?_
      refine ⟨_, e3 _ _ (e2 _ _ d1), ?_, ?_, ?_⟩
      · have h1 : (((xs.take i).filter f).map v).length ≤ xs.length := by
          rw [List.length_map]
          exact Nat.le_trans (List.length_filter_le _ _) (by rw [List.length_take]; omega)
        exact Nat.lt_of_le_of_lt (Nat.le_trans h1 hz) (by decide)
      · intro b o e
        rw [upd_ne (ne_of_none e hD)]
        exact e3 _ _ (e2 _ _ (e1 _ _ e))
      · rw [htk, upd_same, List.filter_append, List.map_append, List.filter_cons, if_pos hf]
        rfl
    | false =>
      show Same H H2 ∧ _
      refine ⟨e1.trans e2, ?_⟩
      rw [htk, List.filter_append, List.filter_cons, if_neg (by rw [hf]; decide), List.map_append]
      show H2 D = some (.lst (_ ++ []))
      rw [List.append_nil]
      exact e2 _ _ d1
  · rintro H1 ⟨e1, d1⟩
    rw [List.take_length] at d1
    exact q D H1 hD e1 d1
/-- .. without a test -/
theorem lc_mapW {J : It} {G : Hp → Prop} {xs : List V} (W : Walk J xs.length G (YAt xs)) {j : Nat} {te : TE} {vs : List Nat} {σ : St} {H : Hp} {Q : VK}
    (hG : ∀ H1, Same H H1 → G H1) (hz : xs.length ≤ 1000000) (v : V → V)
    (hw : ∀ x, wipe ((wipe σ vs).set j (some x)) vs = wipe σ vs)
    (he : ∀ x, x ∈ xs → ∀ H1, Same H H1 → ∀ R : VK, (∀ H2, Same H1 H2 → R (v x) H2) → te ((wipe σ vs).set j (some x)) H1 R)
    (q : ∀ p H2, H p = none → Same H H2 → H2 p = some (.lst (xs.map v)) → Q (.ref p) H2) : LcLoop J (gName j) tYes te vs σ H Q := by
  refine lc_pureW W hG hz (fun _ => true) v hw (fun x _ H1 _ R h => h H1 (Same.refl _)) (fun x hx _ H1 e R h => he x hx H1 e R h) ?_
  intro p H2 hp e hl
  have ef : xs.filter (fun _ => true) = xs := List.filter_eq_self.mpr (fun _ _ => rfl)
  rw [ef] at hl
  exact q p H2 hp e hl

/-! ### loops over any walk -/
theorem loop_it {J : It} {n : Nat} {G : Hp → Prop} {Y : Nat → Hp → V → Hp → Prop} (W : Walk J n G Y) {g : TG} {tb : TS} {D : Ends} {σ : St} {H : Hp} (Pv : Nat → St → Hp → Prop) (h0 : Pv 0 σ H)
    (hG : ∀ i σ H, i ≤ n → Pv i σ H → G H)
    (hs : ∀ i x σ H H', i < n → Pv i σ H → Y i H x H' → g x σ H' fun σ2 H2 => Later tb { D with nx := Pv (i + 1), ct := Pv (i + 1), bk := D.nx } σ2 H2)
    (hd : ∀ σ H, Pv n σ H → D.nx σ H) : Loop J g tb D σ H := for_it W Pv h0 hG hs hd
theorem loop_tup {K : PySem.W.Frag} {a : Addr} {xs : List V} {g : TG} {tb : TS} {D : Ends} {σ : St} {H : Hp} (Pv : Nat → St → Hp → Prop) (h0 : Pv 0 σ H)
    (hl : ∀ i σ H, i ≤ xs.length → Pv i σ H → SqT K H a xs)
    (hs : ∀ (i : Nat) (x : V) (σ : St) (H : Hp), xs[i]? = some x → Pv i σ H → g x σ H fun σ2 H2 => Later tb { D with nx := Pv (i + 1), ct := Pv (i + 1), bk := D.nx } σ2 H2)
    (hd : ∀ σ H, Pv xs.length σ H → D.nx σ H) : Loop (Itt K a) g tb D σ H := for_tup (K := K) (a := a) (xs := xs) Pv h0 hl hs hd

/-! ### all(..), one sign in a text, ranges -/
def rAllM : List V → Hp → VK → Prop := fun vs H Q => ∃ (a : Addr) (bs : List Bool), vs = [V.ref a] ∧ H a = some (.lst (bs.map V.bl)) ∧ Q (.bl (bs.all id)) H
def rSgn : R2 := fun x y H Q => ∃ (c : Nat) (z : Str), x = sgn c ∧ y = .str z ∧ Q (.bl (decide (c ∈ z.cps.toList))) H
def rRng2 : List V → Hp → VK → Prop := fun vs H Q => ∃ i j, vs = [V.int i, V.int j] ∧ ∀ p, H p = none → Q (.ref p) (upd H p (.rng i j))
def rInRng : R2 := fun x y H Q => ∃ i a lo hi, x = V.int i ∧ y = V.ref a ∧ H a = some (.rng lo hi) ∧ Q (.bl (decide (lo ≤ i ∧ i < hi))) H
section
variable {X : Cx}
theorem op_eqK {K : PySem.W.Frag} (hK : X.K = K) (hu : X.A.units + 64 < cLine) : OpR X (compareOp .Eq) (rEqD K) := by
  subst hK
  exact op_eqD hu
theorem op_neK {K : PySem.W.Frag} (hK : X.K = K) (hu : X.A.units + 64 < cLine) : OpR X (compareOp .NotEq) (rNeD K) := by
  subst hK
  exact op_neD hu
theorem call_isiK' {K : PySem.W.Frag} (hK : X.K = K) : CallR X (.builtin "isinstance") (rIsi K) := by
  subst hK
  exact call_isi
theorem call_reprK {K : PySem.W.Frag} (hK : X.K = K) (gd : X.A.guards = some []) (hu : X.A.units + 64 < cLine) : CallR X (.builtin "repr") (rReprD K) := by
  subst hK
  exact call_reprD gd hu
theorem cr_allM (hc : X.calm = true) : CallR X (.builtin "all") rAllM := call_imp (cr_all hc) fun xs H Q ⟨a, bs, h1, h2, q⟩ => ⟨a, bs, h1, SqL.of h2, q⟩
theorem op_sgn : OpR X (compareOp .In) rSgn := op_imp op_in_sign fun x y H Q h => h
theorem cr_rng2 : CallR X (.type "range") rRng2 := cr_range2
theorem op_inRng : OpR X (compareOp .In) rInRng := op_in_rng
end
end LP

set_option Elab.async false
set_option linter.all false
set_option maxRecDepth 100000
set_option maxHeartbeats 4000000
/-! LPE: errors of own classes, over any built-in one, with an own __init__ that keeps one thing; as values, caught. -/
namespace LP
open PySem PySem.Spec L2
open PyProof.Rows hiding St

/-- what making such an error asks of the list of its bases -/
structure Tl (B : String) (bm : List Value) : Prop where
  has : bm.contains (.type B) = true
  noA : bm.contains (.type "AttributeError") = false
  noN : bm.contains (.type "NameError") = false

section
variable {prog : Program} {w : World} {A : Around} {E : Value → Shared → Prop} {R : Result → Shared → Prop} {hp : Heap}
  {gs : Array GenState} {dr : Drawn} {tk : Nat} {os : OsState} {nm qn : Str} {C N : Addr} {bs bm bmB : List Value} {hdt : Bool}
  {sn : List Str} {sub : List Value} {ab : Bool} {col : Option Bool} {dd : Option Addr} {k0 k1 k2 k3 k5 : Option Value}
  {B newId initId : String} {us : List Value}

theorem Tl.cons (T : Tl B bm) : Tl B (.ref C :: bm) := by
  obtain ⟨h1, h2, h3⟩ := T
  constructor
  · rw [List.contains_cons, h1, Bool.or_true]
  · rw [List.contains_cons, h2]
    rfl
  · rw [List.contains_cons, h3]
    rfl

/-- B.__new__ may be called with the class -/
theorem new_checked (F : ExcBaseFacts B newId initId bmB) (T : Tl B bm) {Q : Unit → Shared → Prop}
    (hC : hp.get? C = some (excClassObj nm qn C N bs bm hdt sn sub ab col dd k0 k1 k2 k3 k5 newId))
    (hq : Q () ⟨hp, gs, dr, tk, os⟩) :
    wpAny (model prog w) A (checkBuiltinCall newId ⟨.ref C :: us, []⟩) Q E ⟨hp, gs, dr, tk, os⟩ := by
  have c1 := (T.cons (C := C)).has
  have c2 := F.noStar
  simp only [checkBuiltinCall, F.newKind, F.newSplit, F.newRow]
  repeat (first
    | refine wpAny_loadPart_at hC ?_
    | (refine wpAny_isSubtype_exc hC ?_; rw [c1])
    | refine wpAny_staticBase_exc hC ?_
    | refine wpAny_madeBy_exc hC ?_
    | simp only [bne_self_eq_false, Bool.false_eq_true, if_false]
    | wp_step)
  exact hq

/-- .. and lays the error -/
theorem new_made (F : ExcBaseFacts B newId initId bmB) (T : Tl B bm)
    (hC : hp.get? C = some (excClassObj nm qn C N bs bm hdt sn sub ab col dd k0 k1 k2 k3 k5 newId)) (hl : us.length ≤ sizeLine)
    (hq : R (.ok (.ret (.ref (hp.objs.size + 1))))
      ⟨(hp.push (PySem.W.kdv_tup us)).push (PySem.HandSPX.excO C hp.objs.size), gs, dr, tk, os⟩) :
    codeAny (model prog w) A (.builtin newId ⟨.ref C :: us, []⟩) R ⟨hp, gs, dr, tk, os⟩ := by
  have c0 := F.ends
  have c1 := (T.cons (C := C)).has
  have c2 := (T.cons (C := C)).noA
  have c3 := (T.cons (C := C)).noN
  refine codeAny_builtinAt F.entry ?_
  unfold Builtin.«BaseException.__new__»
  refine PySem.wpAt_bind ?_
  show PySem.wpAt _ _ _ (stack >>= _) _ _ _
  refine PySem.wpAt_bind (PySem.wpAt_stack fun p below => PySem.wpAt_of_wpAny ?_)
  wp_walk
  refine PySem.wpAt_of_wpAny ?_
  rw [F.owner]
  repeat (first
    | with_reducible refine wpAny_madeHere_exc F.canon hC ?_
    | with_reducible refine wpAny_loadPart_at hC ?_
    | (with_reducible refine wpAny_isSubtype_exc hC ?_; first | rw [c1] | rw [c2] | rw [c3])
    | wp_step)
  show R _ _
  rw [Heap.size_push]
  exact hq

/-- type.__call__ of the class: the error is laid, then its own __init__ runs -/
theorem own_typed (F : ExcBaseFacts B newId initId bmB) (T : Tl B bm) {fI : Addr} {Q : Fin → Shared → Prop}
    (hC : hp.get? C = some (excClassObj nm qn C N bs bm hdt sn sub ab col dd k0 k1 k2 k3 k5 newId))
    (hi : PySem.W.Looks (model prog w) hp (typeLookup (.ref C) "__init__") (some (.ref fI)))
    (hb : ∀ self, PySem.W.Looks (model prog w) hp (bindSpecial (.ref fI) self) (.ref fI, [self])) (hl : us.length ≤ sizeLine)
    (hq : codeAny (model prog w) A (.call (.ref fI) ⟨.ref (hp.objs.size + 1) :: us, []⟩)
      (fun r s' => match r with
        | .ok (.ret v) => v = .none ∧ Q (.done (.ret (.ref (hp.objs.size + 1)))) s'
        | .ok _ => False
        | .error e => E e s')
      ⟨(hp.push (PySem.W.kdv_tup us)).push (PySem.HandSPX.excO C hp.objs.size), gs, dr, tk, os⟩) :
    wpAny (model prog w) A (Builtin.«type.__call__» ⟨.ref C :: us, []⟩) Q E ⟨hp, gs, dr, tk, os⟩ := by
  repeat (first
    | with_reducible refine wpAny_loadPart_at hC ?_
    | with_reducible refine wpAny_madeBy_exc hC ?_
    | wp_step)
  refine codeAny_call_builtin_code (Code.quiet_builtin _ F.quiet) (new_checked F T hC ?_)
  refine new_made F T hC hl ?_
  show wpAny _ _ _ _ _ _
  have kk : ∀ b o, hp.get? b = some o →
      ((hp.push (PySem.W.kdv_tup us)).push (PySem.HandSPX.excO C hp.objs.size)).get? b = some o :=
    fun b o e => Heap.get?_push_of_some _ (Heap.get?_push_of_some _ e)
  have e1 := kk _ _ hC
  have e2 : ((hp.push (PySem.W.kdv_tup us)).push (PySem.HandSPX.excO C hp.objs.size)).get? (hp.objs.size + 1) =
      some (PySem.HandSPX.excO C hp.objs.size) := by heap_get
  have e3 : (Value.ref C :: bm).contains (.ref C) = true := by simp
  have i1 := hi.keeps kk
  have b1 := (hb (.ref (hp.objs.size + 1))).keeps kk
  unfold isInstance
  repeat (first
    | with_reducible refine wpAny_loadPart_at e2 ?_
    | (with_reducible refine wpAny_isSubtype_exc e1 ?_; rw [e3])
    | wp_step)
  show wpAny _ _ (typeLookup (.ref C) _) _ _ _
  refine i1.at ?_
  refine wpAny_holding (wpAny_bind (b1.at ?_))
  refine wpAny_bind (wpAny_call (codeAny_mono hq fun r s' z => ?_))
  rcases r with e | (v | _ | _ | _)
  · exact z
  all_goals first | exact z.elim | skip
  obtain ⟨rfl, z⟩ := z
  first
    | exact wpAny_pure (wpAny_pure z)
    | (wp_walk; exact z)

/-- C(..) -/
theorem own_called (F : ExcBaseFacts B newId initId bmB) (T : Tl B bm) {fI : Addr}
    (hC : hp.get? C = some (excClassObj nm qn C N bs bm hdt sn sub ab col dd k0 k1 k2 k3 k5 newId))
    (hi : PySem.W.Looks (model prog w) hp (typeLookup (.ref C) "__init__") (some (.ref fI)))
    (hb : ∀ self, PySem.W.Looks (model prog w) hp (bindSpecial (.ref fI) self) (.ref fI, [self])) (hl : us.length ≤ sizeLine)
    (hq : codeAny (model prog w) (A.under (.builtin "type.__call__" ⟨.ref C :: us, []⟩))
      (.call (.ref fI) ⟨.ref (hp.objs.size + 1) :: us, []⟩) (PySem.W.InitBack (hp.objs.size + 1) R)
      ⟨(hp.push (PySem.W.kdv_tup us)).push (PySem.HandSPX.excO C hp.objs.size), gs, dr, tk, os⟩) :
    codeAny (model prog w) A (.call (.ref C) ⟨us, []⟩) R ⟨hp, gs, dr, tk, os⟩ := by
  have f1 := tc_lookup
  have f2 := tc_bind (.ref C)
  have hTy : (⟨hp, gs, dr, tk, os⟩ : Shared).TypeIs (.ref C) "type" := ⟨_, hC, rfl⟩
  refine codeAny_of_tree ?_
  show wpAny _ _ (callAny (.ref C) _) _ _ _
  repeat (any_goals (first
    | assumption
    | with_reducible refine wpAny_loadPart_at hC ?_
    | wp_step))
  refine ⟨rfl, ?_⟩
  refine codeAny_call_builtin_at (Code.quiet_builtin _ (by decide +kernel)) entry_typeCall (wpAny_check_type_call_sub hC ?_)
  refine own_typed F T hC hi hb hl (codeAny_mono hq fun r s' z => ?_)
  rcases r with e | (v | _ | _ | _) <;> exact z
end

theorem store_KE : StoreFacts "KeyError" [.type "KeyError", .type "LookupError", .type "Exception", .type "BaseException", .type "object"]
    "object.__setattr__" "object" where
  mro := by kernel_rfl
  slot := .of (owner := "object") (n := "__setattr__")
    (by rw [typeLookup_type, builtinLookup_eq_fast]; kernel_rfl) (by decide +kernel) (by decide +kernel) (by decide +kernel)
    (by first
      | exact .inl (by decide +kernel)
      | exact .inr (by decide +kernel)) (by rw [isSubtype_type]; kernel_rfl)
  entry := PySem.F.entry_object_sa
  kind := by decide +kernel
  split := by decide +kernel
  hasOwner := by decide +kernel
  args := fun x y z => by
    unfold argsOk
    kernel_rfl
  passes := fun me => by kernel_rfl

/-- an own class of errors whose __init__ keeps one thing under the name f -/
structure Oc (K : PySem.W.Frag) (C : Addr) (f : Str) : Prop where
  made : ∃ (B newId initId : String) (bmB bm : List Value) (nm q : Str) (N : Addr) (bs : List Value) (sn : List Str)
    (sub : List Value) (ab : Bool) (col : Option Bool) (dd : Option Addr) (k0 k1 k2 k3 k5 : Option Value),
    ExcBaseFacts B newId initId bmB ∧ Tl B bm ∧
    K.lookup C = some (excClassObj nm q C N bs bm true sn sub ab col dd k0 k1 k2 k3 k5 newId)
  sto : ∃ (B : String) (bmB : List Value), StoreFacts B bmB "object.__setattr__" "object" ∧ PySem.W.excOver K C bmB = true
  sa : PySem.W.findIn K (.ref C) "__setattr__" = some (some (.builtin "object.__setattr__"))
  exC : PySem.W.subIn K (.ref C) (.type "BaseException") = some true
  tyC : PySem.W.typeIn K (.ref C) = some (.type "type")
  kC : PySem.W.keepIn K (.ref C) = true
  hdC : PySem.W.hasDictIn K C = true
  no : PySem.W.findIn K (.ref C) f = some none

section
variable {X : Cx} {pins : List (Addr × Obj)} {σ : St} {H : Hp} {s : Shared} {a C dx : Addr} {f : Str} {y : V} {u : Value}
  {Q : Unit → Shared → Prop} {E : Value → Shared → Prop} {A : Around}
open PySem.Builtin PySem.Builtin.ObjectAttr in
/-- self.f = y: the error's dict is laid -/
theorem ost1 (T : Oc X.K C f) (I : Inv X pins σ H s) (e : H a = some (exo a C none)) (ry : RelV y u)
    (h : ∀ dx s', H dx = none → dx ≠ a → Inv X pins σ (upd (upd H dx (exd dx [(f, y)])) a (exo a C (some dx))) s' → Q () s') :
    wpAny (model X.prog X.w) A (setAttr (.ref a) f u) Q E s := by
  obtain ⟨t1, ho⟩ := exo_at I.hok e
  obtain ⟨B, bmB, SF, ov⟩ := T.sto
  have tk0 : PySem.W.takerIn X.K C f = some none := by
    unfold PySem.W.takerIn
    rw [T.no]
    rfl
  obtain ⟨cd, hc, hd'⟩ := PySem.W.any_some T.hdC
  obtain ⟨hp, g, d, t, os⟩ := s
  have KX : X.K.In hp := I.kIn
  refine PySem.W.set_plain KX (od := none) ⟨ho, rfl, rfl, trivial⟩ T.sa
    (PySem.W.osa_openX (od := none) SF KX ⟨ho, rfl, rfl, trivial⟩ ov tk0 fun b => ?_)
  have lt : a < hp.objs.size := Heap.lt_size ho
  refine wpAny_bind (wpAny_pure (wpAny_bind (PySem.W.instanceDict_exc (c2 := .none) ho (PySem.W.looks_clsIn KX hc) hd' ?_)))
  show wpAny _ _ (storeInDict hp.objs.size (.str f _) f u) _ _ _
  have n0 : ((hp.push (PySem.W.dictOf [] 0)).update a fun o => { o with dict := some hp.objs.size }).Ns hp.objs.size (fun _ => none) := by
    refine ⟨_, #[], _, (Heap.get?_update_ne _ _ _ _ (Nat.ne_of_gt lt)).trans (Heap.get?_push_at rfl rfl), rfl, ?_, fun _ => rfl⟩
    intro e he
    exact absurd he (by simp)
  refine PySem.HandSPX.store_in_new n0 fun h' tk' hn' hs => ?_
  have hxa : ((hp.push (PySem.W.dictOf [] 0)).update a fun o => { o with dict := some hp.objs.size }).get? a =
      some ({ cls := .ref C, dict := some hp.objs.size, data := .fields #[.ref t1, .none, .none, .none, .bool false, .none] } : Obj) :=
    Heap.get?_update_self _ (Heap.get?_push_of_some _ ho) rfl
  have hx : h'.get? a = some ({ cls := .ref C, dict := some hp.objs.size, data := .fields #[.ref t1, .none, .none, .none, .bool false, .none] } : Obj) :=
    (hs.2 a (Nat.ne_of_lt lt)).trans hxa
  have kk : ∀ b o, b ≠ a → hp.get? b = some o → h'.get? b = some o := fun b o hb q =>
    (hs.2 b (Nat.ne_of_lt (Heap.lt_size q))).trans ((Heap.get?_update_ne _ _ _ _ hb).trans (Heap.get?_push_of_some _ q))
  have hnd : H hp.objs.size = none := I.hok.fresh (Nat.le_refl _)
  have nd : ∀ {b : Addr} {o : Obj}, hp.get? b = some o → b ≠ hp.objs.size := fun q => Nat.ne_of_lt (Heap.lt_size q)
  have na : ∀ {b : Addr}, H b = none → b ≠ a := by
    intro b n z
    rw [z, e] at n
    cases n
  have U : Un X.fs [] H (upd (upd H hp.objs.size (exd hp.objs.size [(f, y)])) a (exo a C (some hp.objs.size))) hp h' := by
    constructor
    · intro b o q n _ _
      exact kk b o (na n) q
    · intro b o q n _ _
      exact ⟨o.slots, kk b o (na n) q⟩
    · intro b o q n _
      rw [upd_ne (na n), upd_ne (nd q)]
      exact n
    · intro b o q _
      by_cases hb : b = a
      · rw [hb]
        exact ⟨_, hx⟩
      · exact ⟨o, kk b o hb q⟩
    · intro b xs q
      rw [upd_ne (at_ne e q exo_tup), upd_ne (ne_of_none q hnd)]
      exact q
    · intro b o v q
      rw [upd_ne (at_ne e q exo_frz), upd_ne (ne_of_none q hnd)]
      exact q
    · intro b ps q
      refine ⟨#[], ?_⟩
      rw [upd_ne (at_ne e q exo_tbl), upd_ne (ne_of_none q hnd), q]
      simp
  refine h hp.objs.size _ hnd (Nat.ne_of_gt lt) (I.un (t' := tk') U ?_)
  intro b o q
  by_cases hb : b = a
  · subst hb
    rw [upd_same] at q
    cases q
    exact exo_ok hx
  rw [upd_ne hb] at q
  by_cases hd : b = hp.objs.size
  · subst hd
    rw [upd_same] at q
    cases q
    exact exd_ok hn' (relO_put (fs := []) ry fun g => True.intro)
  rw [upd_ne hd] at q
  refine (I.hok b o q).stay ?_ ?_ ?_
  · intro c v hc z
    refine kk c v ?_ z
    rcases hc with hc | hc
    · rw [hc]
      exact hb
    · exact at_ne e hc exo_own
  · intro c hc
    rw [upd_ne (at_ne e hc exo_own), upd_ne (ne_of_none hc hnd)]
    exact hc
  · intro c xs hc
    rw [upd_ne (at_ne e hc exo_tup), upd_ne (ne_of_none hc hnd)]
    exact hc
end

/-- self.f = e, of an error that is being made -/
def tOs1 (K : PySem.W.Frag) (f : Str) (to te : TE) : TS := fun D σ H => te σ H fun y H1 => to σ H1 fun x H2 =>
  ∃ a C : Addr, x = .ref a ∧ Oc K C f ∧ H2 a = some (exo a C none) ∧
    ∀ dx, H2 dx = none → dx ≠ a → D.nx σ (upd (upd H2 dx (exd dx [(f, y)])) a (exo a C (some dx)))
/-- what such an __init__ promises -/
def spIni (K : PySem.W.Frag) (C : Addr) (f : Str) : Sp := fun vs H Q _ => ∃ a y, vs = [.ref a, y] ∧ Oc K C f ∧ H a = some (exo a C none) ∧
  ∀ dx, H dx = none → dx ≠ a → Q .non (upd (upd H dx (exd dx [(f, y)])) a (exo a C (some dx)))
section
variable {X : Cx} {o e : Expr} {es : List Expr} {to te : TE} {ta : TA} {f x : Str} {p p' p1 p2 pos : Pos}
theorem ps_os1 (ho : PE X o to) (he : PE X e te) (hs : swapsWith e (some (.Attribute o f p')) pos.line X.env = pure false := by rfl) :
    PS X (.Assign [.Attribute o f p'] e pos) (tOs1 X.K f to te) := by
  constructor
  intro pins s σ H D I h
  refine plainObj_wpAny_Assign_Attribute (thn (he.run pins s σ H _ I h) ?_) hs
  rintro v s1 ⟨y, H1, I1, r1, q1⟩
  refine thn (ho.run pins s1 σ H1 _ I1 q1) ?_
  rintro u s2 ⟨x, H2, I2, r2, a, C, ex, T, ea, q⟩
  subst ex
  obtain rfl : u = Value.ref a := r2
  exact ost1 T I2 ea r1 fun dx s' n ne J => ⟨σ, _, J, q dx n ne⟩

/-- C(e) as a value -/
def tMkV (C : Addr) (f : Str) (ta : TA) : TE := fun σ H Q => ta σ H fun vs H1 => ∃ y, vs = [y] ∧
  ∀ a dx, H1 a = none → H1 dx = none → dx ≠ a → Q (.ref a) (upd (upd H1 dx (exd dx [(f, y)])) a (exo a C (some dx)))
/-- C(e), to be raised -/
def tMkR (C : Addr) (f : Str) (ta : TA) : St → Hp → XK → Prop := fun σ H Q => ta σ H fun vs H1 => ∃ y, vs = [y] ∧
  ∀ d, H1 d = none → Q (.ref C) (some d) (upd H1 d (.xd [(f, y)]))

theorem upd_shade {H : Hp} {a b : Addr} {o o1 o2 : HO} (h : b ≠ a) : upd (upd (upd H a o) b o1) a o2 = upd (upd H b o1) a o2 := by
  funext c
  by_cases h1 : c = a
  · rw [h1, upd_same, upd_same]
  rw [upd_ne h1, upd_ne h1]
  by_cases h2 : c = b
  · rw [h2, upd_same, upd_same]
  rw [upd_ne h2, upd_ne h2, upd_ne h1]
theorem del_shade {H : Hp} {a b : Addr} {o o1 o2 : HO} (hn : H a = none) (h : b ≠ a) :
    upd (del (upd (upd H b o1) a o) a) b o2 = upd H b o2 := by
  funext c
  by_cases h2 : c = b
  · rw [h2, upd_same, upd_same]
  rw [upd_ne h2, upd_ne h2]
  by_cases h1 : c = a
  · rw [h1, del_same, hn]
  rw [del_ne h1, upd_ne h1, upd_ne h2]

section
variable {k : Nat} {C fI : Addr} {fd : FuncData} {ps : List Str}
/-- C(e): __init__ has run on the new error -/
theorem own_made {pins : List (Addr × Obj)} {σ : St} {H1 : Hp} {s1 : Shared} {us : List Value} {y : V} {Q : Value → Shared → Prop}
    (T : Oc X.K C f) (iC : PySem.W.findIn X.K (.ref C) "__init__" = some (some (.ref fI)))
    (tI : PySem.W.typeIn X.K (.ref fI) = some (.type "function"))
    (F1 : FnOk X.prog X.w X.K X.mg X.base CX0 k fI fd ps (spIni X.K C f)) (hr : Room (k + 1) X.A) (hb : Binds X.K fd ps [])
    (I1 : Inv X pins σ H1 s1) (r1 : Vals [y] us)
    (h : ∀ (a dx : Addr) (hp2 : Heap) (s' : Shared), H1 a = none → H1 dx = none → dx ≠ a → s1.heap.objs.size ≤ a →
      (∀ b o, s1.heap.get? b = some o → hp2.get? b = some o) →
      Un (frs X.stack) [] (upd H1 a (exo a C none)) (upd (upd H1 dx (exd dx [(f, y)])) a (exo a C (some dx))) hp2 s'.heap →
      HOk X.prog X.w (upd (upd H1 dx (exd dx [(f, y)])) a (exo a C (some dx))) s'.heap → s'.os = s1.os → AllBare s'.gens →
      Inv X pins σ (upd H1 a (exo a C none)) { s1 with heap := hp2 } →
      CE X.stack X.prog X.w (upd H1 a (exo a C none)) { s1 with heap := hp2 }
        (fun v H' => v = .non ∧ H' = upd (upd H1 dx (exd dx [(f, y)])) a (exo a C (some dx))) .none s' → Q (.ref a) s') :
    wpAny (model X.prog X.w) X.A (call (.ref C) us) Q X.xe s1 := by
  obtain ⟨B, newId, initId, bmB, bm, nm, q, N, bs, sn, sub, ab, col, dd, k0, k1, k2, k3, k5, F, TL, hC⟩ := T.made
  obtain ⟨hp, g, dr, tk, os⟩ := s1
  have hsz : hp.objs.size ≤ hp.objs.size + 1 := Nat.le_succ _
  have hn : H1 (hp.objs.size + 1) = none := I1.hok.fresh hsz
  have kk : ∀ b o, hp.get? b = some o →
      ((hp.push (PySem.W.kdv_tup us)).push (PySem.HandSPX.excO C hp.objs.size)).get? b = some o :=
    fun b o e => Heap.get?_push_of_some _ (Heap.get?_push_of_some _ e)
  have hget : ((hp.push (PySem.W.kdv_tup us)).push (PySem.HandSPX.excO C hp.objs.size)).get? (hp.objs.size + 1) =
      some (PySem.HandSPX.excO C hp.objs.size) := by heap_get
  have I2 : Inv X pins σ (upd H1 (hp.objs.size + 1) (exo (hp.objs.size + 1) C none))
      ⟨(hp.push (PySem.W.kdv_tup us)).push (PySem.HandSPX.excO C hp.objs.size), g, dr, tk, os⟩ :=
    I1.laid (t' := tk) (a := hp.objs.size + 1) (o := exo (hp.objs.size + 1) C none) kk hsz (exo_ok hget)
  have r2 : Vals (V.ref (hp.objs.size + 1) :: [y]) (Value.ref (hp.objs.size + 1) :: us) := .cons rfl r1
  have hl1 : us.length = 1 := r1.length.symm
  have hus : us.length ≤ sizeLine := by
    rw [hl1, sizeLine_eq]
    omega
  have bd := hb ⟨(hp.push (PySem.W.kdv_tup us)).push (PySem.HandSPX.excO C hp.objs.size), g, dr, tk, os⟩
    (Value.ref (hp.objs.size + 1) :: us) I2.kIn
  refine wpAny_call (own_called F TL (I1.kIn _ _ hC) (PySem.W.looks_findIn I1.kIn iC)
    (fun self => PySem.W.bind_fn I1.kIn self tI) hus ?_)
  have sp0 : spIni X.K C f [.ref (hp.objs.size + 1), y] (upd H1 (hp.objs.size + 1) (exo (hp.objs.size + 1) C none))
      (fun v H' => ∃ dx, v = .non ∧ H1 dx = none ∧ dx ≠ hp.objs.size + 1 ∧
        H' = upd (upd H1 dx (exd dx [(f, y)])) (hp.objs.size + 1) (exo (hp.objs.size + 1) C (some dx))) E0 := by
    refine ⟨_, y, rfl, T, upd_same, ?_⟩
    intro dx n ne
    rw [upd_ne ne] at n
    exact ⟨dx, rfl, n, ne, upd_shade ne⟩
  have hl : (Value.ref (hp.objs.size + 1) :: us ++ []).length = ps.length := by
    rw [List.append_nil]
    exact r2.length.symm.trans (F1.len _ _ _ _ sp0)
  have bd' := bd hl
  rw [List.append_nil] at bd'
  refine codeAny_mono (F1.run _ X.stack _ _ ⟨Value.ref (hp.objs.size + 1) :: us, []⟩ (Value.ref (hp.objs.size + 1) :: us) _ _
    E0 (hr.make C us []) (I2.env0.make C us []) bd' r2 sp0) ?_
  intro r s' hq'
  cases r with
  | error er => exact hq'.elim
  | ok fl =>
    cases fl with
    | ret u =>
      obtain ⟨v, H2, os2, bare2, un2, hok2, rv, dx, ev, nx, ne, eH⟩ := hq'
      subst ev
      subst eH
      obtain rfl : u = Value.none := rv
      refine ⟨rfl, h _ dx _ s' hn nx ne hsz kk un2 hok2 os2 bare2 I2 ⟨.non, _, os2, bare2, un2, hok2, rfl, rfl, rfl⟩⟩
    | next => exact hq'.elim
    | brk => exact hq'.elim
    | cont => exact hq'.elim

theorem pe_mkv (T : Oc X.K C f) (iC : PySem.W.findIn X.K (.ref C) "__init__" = some (some (.ref fI)))
    (tI : PySem.W.typeIn X.K (.ref fI) = some (.type "function"))
    (F1 : FnOk X.prog X.w X.K X.mg X.base CX0 k fI fd ps (spIni X.K C f)) (hr : Room (k + 1) X.A) (hb : Binds X.K fd ps [])
    (hg : Gl X x) (hm : X.mg x = some (.ref C)) (ha : PA X [e] ta)
    (hdb : (x == ("__debug__" : Str)) = false := by decide)
    (he : starEach [e] X.env = (false, eval e X.env) :: starEach [] X.env := by rfl)
    (hpl : (backTo pos (starEach [] X.env)).any (·.1) = false := by rfl) :
    PE X (.Call (.Name x p) [e] [] pos) (tMkV C f ta) := by
  constructor
  intro pins s σ H Q I h
  refine wpAny_Call_Name_kw (ld_glob I hg hm ?_ hdb)
  refine PySem.W.callWith_K (h₀ := X.base) I.ok.mod.kin T.kC (thn (ha.run pos pins s σ H _ I h) ?_) he hpl
  rintro us s1 ⟨vs, H1, I1, r1, y, rfl, q1⟩
  refine ⟨I1.kIn, ?_⟩
  show wpAny _ _ (call (.ref C) us) _ _ _
  refine own_made T iC tI F1 hr hb I1 r1 ?_
  intro a dx hp2 s' na nd ne _ _ _ _ _ _ I2 ce
  obtain ⟨v, H', J, rv, ev, eH⟩ := I2.after ce
  subst eH
  exact ⟨.ref a, _, J, rfl, q1 a dx na nd ne⟩

theorem pmk_mkr (T : Oc X.K C f) (iC : PySem.W.findIn X.K (.ref C) "__init__" = some (some (.ref fI)))
    (tI : PySem.W.typeIn X.K (.ref fI) = some (.type "function"))
    (F1 : FnOk X.prog X.w X.K X.mg X.base CX0 k fI fd ps (spIni X.K C f)) (hr : Room (k + 1) X.A) (hb : Binds X.K fd ps [])
    (hg : Gl X x) (hm : X.mg x = some (.ref C)) (ha : PA X [e] ta)
    (hdb : (x == ("__debug__" : Str)) = false := by decide)
    (he : starEach [e] X.env = (false, eval e X.env) :: starEach [] X.env := by rfl)
    (hpl : (backTo pos (starEach [] X.env)).any (·.1) = false := by rfl) :
    PMk X (.Call (.Name x p) [e] [] pos) (tMkR C f ta) := by
  intro pins s σ H Q I h
  refine wpAny_Call_Name_kw (ld_glob I hg hm ?_ hdb)
  refine PySem.W.callWith_K (h₀ := X.base) I.ok.mod.kin T.kC (thn (ha.run pos pins s σ H _ I h) ?_) he hpl
  rintro us s1 ⟨vs, H1, I1, r1, y, rfl, q1⟩
  refine ⟨I1.kIn, ?_⟩
  show wpAny _ _ (call (.ref C) us) _ _ _
  refine own_made T iC tI F1 hr hb I1 r1 ?_
  intro a dx hp2 s' na nd ne hsz kk un hok eo ba I2 ce
  obtain ⟨hp1, g1, d1, t1, os1⟩ := s1
  obtain ⟨h2, g2, d2, t2, os2⟩ := s'
  refine mk_end (fs := [(f, y)]) (raises_own T.exC T.tyC) I1 hsz kk un hok eo ba upd_same ?_ nd ?_
  · rw [upd_ne ne, upd_same]
  · rw [del_shade na ne]
    exact q1 dx nd
end
end
end LP

set_option Elab.async false
set_option linter.all false
set_option maxRecDepth 100000
set_option maxHeartbeats 4000000
/-! LPY: errors of own classes as values: isinstance, what they keep; try with several clauses, named or not. -/
namespace LP
open PySem PySem.Spec L2
open PyProof.Rows hiding St

/-! ### isinstance of an error -/
/-- at a stands an error of the class C: tracked, or pinned -/
def XAt (pn : List (Addr × Obj)) (H : Hp) (a C : Addr) : Prop :=
  (H a = some (exo a C none)) ∨ (∃ dd fs, H a = some (exo a C (some dd)) ∧ H dd = some (exd dd fs)) ∨
    ∃ oe, (a, oe) ∈ pn ∧ Zc (.ref C) none oe ∧ ∃ vs, oe.data = .fields vs
def rIsX (K : PySem.W.Frag) (pn : List (Addr × Obj)) : List V → Hp → VK → Prop := fun xs H Q =>
  ∃ (a C : Addr) (c : V) (cv : Value) (b : Bool), xs = [.ref a, c] ∧ ClsV c cv ∧ ExcC K C ∧ XAt pn H a C ∧
    PySem.W.kitOne K (.ref C) cv = some b ∧ Q (.bl b) H

section
variable {X : Cx} {pins : List (Addr × Obj)} {σ : St} {H : Hp} {s : Shared} {a C : Addr}
theorem XAt.inst (I : Inv X pins σ H s) (h : XAt X.pn H a C) : ∃ ox od, PySem.W.InstAt s.heap a ox C od := by
  rcases h with h | ⟨dd, fs, h, hd⟩ | ⟨oe, hm, hz, vs, hv⟩
  · obtain ⟨t1, ho⟩ := exo_at I.hok h
    exact ⟨_, none, ho, rfl, rfl, trivial⟩
  · obtain ⟨t1, ho⟩ := exo_at I.hok h
    obtain ⟨mA, ⟨o, es, ep, e, _⟩, _⟩ := exd_at I.hok hd
    exact ⟨_, some o, ho, rfl, rfl, e⟩
  · obtain ⟨hg, _⟩ := I.pin (a, oe) (List.mem_append_left _ hm)
    obtain ⟨oc, od, oda, osl⟩ := oe
    obtain ⟨h1, h2⟩ := hz
    dsimp only at h1 h2 hv
    subst h1 h2 hv
    exact ⟨_, none, hg, rfl, rfl, trivial⟩

theorem call_isX : CallR X (.builtin "isinstance") (rIsX X.K X.pn) := by
  intro pins s σ H xs us Q I r h
  obtain ⟨a, C, c, cv, b, rfl, k, T, hx, e, q⟩ := h
  obtain ⟨u1, u2, rfl, r1, r2⟩ := vals2 r
  obtain rfl := k.eq r2
  cases (show u1 = Value.ref a from r1)
  obtain ⟨ox, od, J⟩ := hx.inst I
  obtain ⟨cd, hc, _⟩ := PySem.W.any_some T.hd
  have hcl : (PySem.W.clsIn X.K C).isSome = true := by
    rw [hc]
    rfl
  refine PySem.W.kia_one (PySem.W.kitx_exc hcl T.hg T.hk T.hs T.ha T.hn T.ht T.hm) I.kIn J e (fun z => nomatch z) ?_
  intro tk
  exact ⟨.bl b, H, I.tok tk, rfl, q⟩

/-! ### what a tracked error keeps -/
def tXv (K : PySem.W.Frag) (n : Str) (te : TE) : TE := fun σ H Q => te σ H fun x H1 => ∃ (a C d : Addr) (fs : List (Str × V)) (v : V),
  x = .ref a ∧ XfC K C ∧ PySem.W.findIn K (.ref C) n = some none ∧ H1 a = some (exo a C (some d)) ∧ H1 d = some (exd d fs) ∧
    fs.lookup n = some v ∧ Q v H1
theorem pe_xv {e : Expr} {te : TE} {pos : Pos} {n : Str} (he : PE X e te)
    (hb : attributeBase e n X.env (eval e X.env) = eval e X.env := by rfl) :
    PE X (.Attribute e n pos) (tXv X.K n te) := by
  constructor
  intro pins s σ H Q I h
  refine attr_of hb (thn (he.run pins s σ H _ I h) ?_)
  rintro u s1 ⟨x, H1, I1, rx, a, C, d, fs, v, ex, T, hno, ha, hd, l, q⟩
  subst ex
  obtain rfl : u = Value.ref a := rx
  obtain ⟨t1, ho⟩ := exo_at I1.hok ha
  obtain ⟨mA, hn1, rel⟩ := exd_at I1.hok hd
  obtain ⟨od, hod, hl⟩ := lookIn_ns hn1
  obtain ⟨u, hu, ru⟩ := RelO.some_of (v := v) (o := mA n) (by rw [← l]; exact rel n)
  have J : PySem.W.InstAt s1.heap a _ C (some od) := ⟨ho, rfl, rfl, hod⟩
  have fo := PySem.W.findObj_own T.hdC hno rfl (od := od) (v := u) (by rw [hl, hu])
  exact HandSPX.exc_get I1.kIn J T.ga T.gg T.exC fo (handed_of ru) ⟨v, H1, I1.tok _, ru, q⟩

/-! ### an error without own __init__, as a value -/
theorem pe_mk0 {bmB : List Value} {B newId initId : String} {x : Str} {e : Expr} {ta : TE} {p pos : Pos}
    (F : ExcBaseFacts B newId initId bmB) (q : PySem.W.excIn X.K C bmB newId = true) (gC : X.mg x = some (.ref C))
    (kC : PySem.W.keepIn X.K (.ref C) = true) (hg : Gl X x) (he : PE X e ta)
    (hs : starEach [e] X.env = (false, eval e X.env) :: starEach [] X.env := by rfl)
    (hdb : (x == ("__debug__" : Str)) = false := by decide) :
    PE X (.Call (.Name x p) [e] [] pos)
      (fun σ H Q => ta σ H fun _ H1 => ∀ a, H1 a = none → Q (.ref a) (upd H1 a (exo a C none))) := by
  constructor
  intro pins s σ H Q I h
  refine wpAny_Call_Name_kw (ld_glob I hg gC ?_ hdb)
  refine PySem.W.callWith_K (h₀ := X.base) I.ok.mod.kin kC ?_ hs (by rfl)
  rw [hs]
  show wpAny _ _ (spliced ((false, eval e X.env) :: backTo pos (starEach [] X.env))) _ _ s
  refine Calls.spliced_cons (thn (he.run pins s σ H _ I h) ?_)
  rintro u s1 ⟨v, H1, I1, r1, q1⟩
  refine Calls.spliced_nil ⟨I1.kIn, ?_⟩
  show wpAny _ _ (call (.ref C) [u]) _ _ _
  obtain ⟨bm, N, nm, qn, bs, hdct, sn, sub, ab, col, dd, k0, k1, k2, k3, k5, mN, hC, hN, hni, T⟩ := exc_obj I1.kIn q
  refine wpAny_call_exc_subT F T hC hN hni ?_ (by show 1 ≤ sizeLine; rw [sizeLine_eq]; omega)
  intro h' a hm
  have hn : H1 a = none := I1.hok.gone hm.new
  obtain ⟨t, ht, _, _⟩ := hm.there
  exact ⟨.ref a, _, I1.laidN hm.keeps hm.new hn (exo_ok ht), rfl, q1 a hn⟩
end

/-! ### try with several clauses, each with a name or without -/
abbrev Ts3 := Addr → Value → Option Addr → TS
/-- the ends of a suite behind which slot i is empty -/
def Ends.off (D : Ends) (i : Nat) : Ends :=
  { nx := fun σ H => D.nx (σ.set i none) H, rt := D.rt, bk := fun σ H => D.bk (σ.set i none) H, ct := fun σ H => D.ct (σ.set i none) H }
def wCl (K : PySem.W.Frag) (Wout : WX) (D : Ends) : List (Value × Option Nat × Ts3) → WX
  | [] => Wout
  | (c, none, ts) :: r => fun cls d σ H => ∃ b, PySem.W.exmOne K cls c = some b ∧
      (b = true → ∀ a, H a = none → ts a cls d D σ H) ∧ (b = false → wCl K Wout D r cls d σ H)
  | (c, some i, ts) :: r => fun cls d σ H => ∃ b, PySem.W.exmOne K cls c = some b ∧
      (b = true → ∀ a, H a = none → ts a cls d (Ends.off D i) (σ.set i (some (.ref a))) H) ∧ (b = false → wCl K Wout D r cls d σ H)
/-- a suite, whatever error it is that is caught -/
def Suit (X : Cx) (ss : List Stmt) (ts : Ts3) : Prop := ∀ (a : Addr) (oe : Obj) (cls : Value) (d : Option Addr) (pn : List (Addr × Obj)),
  Zc cls d oe → (∃ vs, oe.data = .fields vs) → PSs (X.suite a ((a, oe) :: pn)) ss (ts a cls d)
inductive Cls3 (X : Cx) : List ExceptHandler → List (Value × Option Nat × Ts3) → Prop
  | nil : Cls3 X [] []
  | bare {x : Str} {c : Value} {ts : Ts3} {b₀ : Stmt} {suite : List Stmt} {np pos : Pos} {hds : List ExceptHandler}
      {l : List (Value × Option Nat × Ts3)} (hc : Names X x c) (hsu : Suit X (b₀ :: suite) ts) (r : Cls3 X hds l) :
      Cls3 X (.ExceptHandler (some (.Name x np)) none (b₀ :: suite) pos :: hds) ((c, none, ts) :: l)
  | named {x n : Str} {i : Nat} {c : Value} {ts : Ts3} {b₀ : Stmt} {suite : List Stmt} {np pos : Pos} {hds : List ExceptHandler}
      {l : List (Value × Option Nat × Ts3)} (hN : X.N.Nodup) (hi : X.N[i]? = some n) (hln : X.env.kindOf n = some .local)
      (hc : Names X x c) (hsu : Suit X (b₀ :: suite) ts) (r : Cls3 X hds l) :
      Cls3 X (.ExceptHandler (some (.Name x np)) (some n) (b₀ :: suite) pos :: hds) ((c, some i, ts) :: l)

section
variable {X : Cx} {body : List Stmt} {h₀ : ExceptHandler} {hds : List ExceptHandler} {l : List (Value × Option Nat × Ts3)} {pos : Pos}
  {tb : WX → TS} {Wout : WX}
theorem ps_try3 (hs : X.stack = X.env :: X.outer) (hf : X.env.frame = some X.env.locals) (tk : Takes X Wout)
    (hb : ∀ (W : WX) (pn : List (Addr × Obj)) (xe : Value → Shared → Prop), Takes (X.tr pn xe) W →
      PassesOwn (model X.prog X.w) X.A X.env xe → PSs (X.tr pn xe) body (tb W))
    (hh : Cls3 X (h₀ :: hds) l) :
    PS X (.Try body (h₀ :: hds) [] [] pos) (fun D σ H => tb (wCl X.K Wout D l) D σ H) := by
  constructor
  intro pins s σ H D I h
  have ok := I.ok
  have hfr : X.A.frames = some (X.env :: X.outer) := by
    rw [ok.frames, hs]
  refine wpAny_Try_except ?_
  have run := hb (wCl X.K Wout D l) (X.pn ++ pins)
    (fun e s₁ => wpAny (model X.prog X.w) X.A (noteFrame e X.env) (fun _ s₂ => wpAny (model X.prog X.w) X.A (setFlight e none)
      (fun _ s₃ => wpAny (model X.prog X.w) X.A (handleBy e X.env (h₀ :: hds)) (SP X pins D) X.xe s₃) X.xe s₂) X.xe s₁)
    ?_ PassesOwn.looking
  refine wpAny_mono (run.run [] s σ H D (I.toTry _) h) ?_ (fun _ _ z => z)
  · intro fl s1 hsp
    cases fl with
    | next =>
      obtain ⟨σ', H', J', q⟩ := hsp
      exact wpAny_execs_nil ⟨σ', H', J'.ofTry ok, q⟩
    | brk =>
      obtain ⟨σ', H', J', q⟩ := hsp
      exact ⟨σ', H', J'.ofTry ok, q⟩
    | cont =>
      obtain ⟨σ', H', J', q⟩ := hsp
      exact ⟨σ', H', J'.ofTry ok, q⟩
    | ret u =>
      obtain ⟨v, σ', H', J', r, q⟩ := hsp
      exact ⟨v, σ', H', J'.ofTry ok, r, q⟩
  rintro u s' ⟨a, B, sI, pins', σ', H', cls, d, rfl, J', nb, up, sky, na, os, ag, w0⟩
  have J : Inv X pins σ' H' sI := J'.ofTry ok
  have sky' : Sky B (X.env :: X.outer) a (Zc cls d) X.env.locals s'.heap := by
    rw [← hs]
    exact sky
  show wpAny (model X.prog X.w) X.A (noteFrame (.ref a) X.env) _ _ _
  refine Sky.land Zc.steady hfr hf sky' ?_
  intro h3 fl3 up3
  have J3 : Inv X pins σ' H' { s' with heap := h3 } := J.landed nb fl3.1 (up.trans up3) os ag
  obtain ⟨oe3, vs3, he3, hz3, hd3⟩ := fl3.there
  have nfr : a ∉ frs (X.env :: X.outer) := by
    intro hm
    obtain ⟨_, o', e', hnf⟩ := fl3.2.2.1.mem hm
    rw [he3] at e'
    cases e'
    exact hnf _ hd3
  have nL : a ≠ X.env.locals := by
    intro z
    exact nfr (List.mem_filterMap.mpr ⟨X.env, List.mem_cons_self, by rw [hf, z]⟩)
  have nF : a ∉ X.fs := by
    intro hm
    obtain ⟨e, he, q⟩ := List.mem_filterMap.mp hm
    exact nfr (List.mem_filterMap.mpr ⟨e, List.mem_cons_of_mem _ he, q⟩)
  have S3 := J3.suite he3 hd3 na nL nF
  have LT : PySem.W.Looks (model X.prog X.w) h3 (typeOf (.ref a)) cls := by
    intro A Q E s k q
    exact wpAny_typeOf_ref (k _ _ he3) (by rw [hz3.1]; exact q)
  have test : ∀ {x : Str} {np : Pos} {c : Value} {Q : Value → Shared → Prop} {E : Value → Shared → Prop}, Names X x c →
      Q c { s' with heap := h3 } →
      wpAny (model X.prog X.w) (X.A.mark (some (.ref a))) (eval (.Name x np) X.env) Q E { s' with heap := h3 } := by
    intro x np c Q E hc q
    obtain ⟨hg, hdbg, hm | ⟨hm, hv, hnn⟩⟩ := hc
    · exact ld_glob (X := X.suite a ((a, oe3) :: (X.pn ++ pins))) S3 hg hm q hdbg
    · exact ld_blt (X := X.suite a ((a, oe3) :: (X.pn ++ pins))) S3 hg hm hv q hnn hdbg
  have go : ∀ {hds' : List ExceptHandler} {l' : List (Value × Option Nat × Ts3)}, Cls3 X hds' l' → wCl X.K Wout D l' cls d σ' H' →
      wpAny (model X.prog X.w) X.A (handleBy (.ref a) X.env hds') (SP X pins D) X.xe { s' with heap := h3 } := by
    intro hds' l' hk
    induction hk with
    | nil =>
      intro w
      refine wpAny_handleBy_nil ?_
      obtain ⟨k1, k2, k3, oe, vs, T, oT, ts', he, hz, hd, h1, hr⟩ := id fl3
      unfold PySem.passOn
      refine wpAny_bind (wpAny_field he hd h1 ?_)
      rw [if_neg (show ¬ ((Value.ref T == Value.none) = true) by simp)]
      have fin : wpAny (model X.prog X.w) X.A (setFlight (.ref a) X.env.frame)
          (fun _ s4 => wpAny (model X.prog X.w) X.A (throw (.ref a) : Sem Flow) (SP X pins D) X.xe s4) X.xe { s' with heap := h3 } := by
        rw [hf]
        refine HandSPX.setFlight_upZ fl3 ?_
        intro h4 hh4 up4
        refine wpAny_throw (tk _ _ ?_)
        refine ⟨a, B, sI, pins, σ', H', cls, d, rfl, J, nb, (up.trans up3).trans up4, .inr (.inr ?_), na, os, ag, w⟩
        rw [hs]
        exact hh4
      first
        | exact wpAny_bind (wpAny_pure (wpAny_bind fin))
        | exact wpAny_bind fin
    | @bare x c ts b₀ suite np pos' hds2 l2 hc hsu r ih =>
      rintro ⟨b, hb1, hyes, hno⟩
      refine wpAny_handleBy_cons (codeAny_handlers_test ?_) (by intro q; cases q)
      refine test hc ((PySem.W.exm_one (M := model X.prog X.w) J3.kIn LT hb1).here ?_)
      cases b with
      | false =>
        show wpAny _ X.A (handleBy (.ref a) X.env hds2) _ _ _
        exact ih (hno rfl)
      | true =>
        refine codeAny_handlers_suite (HandSPX.lands_againZ fl3 ?_)
        intro h4 fl4 up4
        have J4 : Inv X pins σ' H' { s' with heap := h4 } := J.landed nb fl4.1 ((up.trans up3).trans up4) os ag
        obtain ⟨oe4, vs4, he4, hz4, hd4⟩ := fl4.there
        have S4 := J4.suite he4 hd4 na nL nF
        refine wpAny_mono ((hsu a oe4 cls d (X.pn ++ pins) hz4 ⟨_, hd4⟩).run [] _ _ H' _ S4 (hyes rfl a na)) ?_ (fun _ _ z => z.elim)
        intro f s6 hsp
        cases f with
        | ret u =>
          obtain ⟨v6, σ6, H6, S6, r6, q6⟩ := hsp
          exact ⟨_, _, _, S6.unsuite ok, r6, q6⟩
        | next =>
          obtain ⟨σ6, H6, S6, q6⟩ := hsp
          exact ⟨_, _, S6.unsuite ok, q6⟩
        | brk =>
          obtain ⟨σ6, H6, S6, q6⟩ := hsp
          exact ⟨_, _, S6.unsuite ok, q6⟩
        | cont =>
          obtain ⟨σ6, H6, S6, q6⟩ := hsp
          exact ⟨_, _, S6.unsuite ok, q6⟩
    | @named x n i c ts b₀ suite np pos' hds2 l2 hN hi hln hc hsu r ih =>
      rintro ⟨b, hb1, hyes, hno⟩
      refine wpAny_handleBy_cons (codeAny_handlers_test ?_) (by intro q; cases q)
      refine test hc ((PySem.W.exm_one (M := model X.prog X.w) J3.kIn LT hb1).here ?_)
      cases b with
      | false =>
        show wpAny _ X.A (handleBy (.ref a) X.env hds2) _ _ _
        exact ih (hno rfl)
      | true =>
        refine codeAny_handlers_suite_as (HandSPX.lands_againZ fl3 ?_)
        intro h4 fl4 up4
        have J4 : Inv X pins σ' H' { s' with heap := h4 } := J.landed nb fl4.1 ((up.trans up3).trans up4) os ag
        obtain ⟨oe4, vs4, he4, hz4, hd4⟩ := fl4.there
        have S4 := J4.suite he4 hd4 na nL nF
        refine store_ok (X := X.suite a ((a, oe4) :: (X.pn ++ pins))) (v := .ref a) S4 hN hi (.inl hln) rfl ?_ (.inr hln)
        intro s5 S5
        refine wpAny_mono ((hsu a oe4 cls d (X.pn ++ pins) hz4 ⟨_, hd4⟩).run [] s5 _ H' _ S5 (hyes rfl a na)) ?_ (fun _ _ z => z.elim)
        intro f s6 hsp
        have bye : ∀ {σ6 : St} {H6 : Hp} {Q : Shared → Prop}, Inv (X.suite a ((a, oe4) :: (X.pn ++ pins))) [] σ6 H6 s6 →
            (∀ s7, Inv X pins (σ6.set i none) H6 s7 → Q s7) →
            wpAny (model X.prog X.w) X.A (do bindName X.env n .none; unbindBehindTheSuite X.env n pos') (fun _ s7 => Q s7) X.xe s6 :=
          fun S6 hq => gone_ok (S6.unsuite ok) hN hi hln hq
        cases f with
        | ret u =>
          obtain ⟨v6, σ6, H6, S6, r6, q6⟩ := hsp
          exact bye S6 fun s7 J7 => ⟨_, _, _, J7, r6, q6⟩
        | next =>
          obtain ⟨σ6, H6, S6, q6⟩ := hsp
          exact bye S6 fun s7 J7 => ⟨_, _, J7, q6⟩
        | brk =>
          obtain ⟨σ6, H6, S6, q6⟩ := hsp
          exact bye S6 fun s7 J7 => ⟨_, _, J7, q6⟩
        | cont =>
          obtain ⟨σ6, H6, S6, q6⟩ := hsp
          exact bye S6 fun s7 J7 => ⟨_, _, J7, q6⟩
  exact go hh w0
end
end LP

set_option Elab.async false
set_option linter.all false
set_option maxRecDepth 100000
set_option maxHeartbeats 4000000
/-! LPZ: data with dicts and its repr; defs that are called while an error is handled; facts of own errors' classes. -/
namespace LP
open PySem PySem.Spec L2
open PyProof.Rows hiding St

/-! ### data, dicts among it; z: no list of it lies where sys.modules does -/
def keyD : Key → PyData
  | .inl i => .int i
  | .inr x => .str x
mutual
inductive Dd (z : Prop) (H : Hp) : V → PyData → Prop
  | non : Dd z H .non .none
  | bl (b : Bool) : Dd z H (.bl b) (.bool b)
  | int (i : Int) : Dd z H (.int i) (.int i)
  | str (x : Str) : Dd z H (.str x) (.str x)
  | lst {a : Addr} {xs : List V} {ds : List PyData} : H a = some (.lst xs) → (z → a ≠ sysModules) → DdA z H xs ds → Dd z H (.ref a) (.list ds)
  | tup {a : Addr} {xs : List V} {ds : List PyData} : H a = some (.tup xs) → DdA z H xs ds → Dd z H (.ref a) (.tuple ds)
  | dct {a : Addr} {kvs : List (Key × V)} {ds : List PyData} {ps : List (PyData × PyData)} : H a = some (.dK kvs) →
      DdA z H (kvs.map (·.2)) ds → ps.map (·.1) = kvs.map (fun p => keyD p.1) → ps.map (·.2) = ds → Dd z H (.ref a) (.dict ps)
inductive DdA (z : Prop) (H : Hp) : List V → List PyData → Prop
  | nil : DdA z H [] []
  | cons {v : V} {vs : List V} {d : PyData} {ds : List PyData} : Dd z H v d → DdA z H vs ds → DdA z H (v :: vs) (d :: ds)
end

section
variable {z : Prop} {H H' : Hp}
mutual
theorem Dd.same (e : Same H H') : ∀ (d : PyData) (v : V), Dd z H v d → Dd z H' v d
  | _, _, .non => .non
  | _, _, .bl b => .bl b
  | _, _, .int i => .int i
  | _, _, .str x => .str x
  | .list ds, _, .lst h n hs => .lst (e _ _ h) n (DdA.same e ds _ hs)
  | .tuple ds, _, .tup h hs => .tup (e _ _ h) (DdA.same e ds _ hs)
  | .dict ps, _, .dct (ds := ds) h hs h1 h2 => .dct (e _ _ h) (DdA.same e ds _ hs) h1 h2
termination_by structural _ _ h => h
theorem DdA.same (e : Same H H') : ∀ (ds : List PyData) (vs : List V), DdA z H vs ds → DdA z H' vs ds
  | _, _, .nil => .nil
  | d :: ds, _, .cons h hs => .cons (Dd.same e d _ h) (DdA.same e ds _ hs)
termination_by structural _ _ h => h
end
end

section
variable {X : Cx} {pins : List (Addr × Obj)} {σ : St} {H : Hp} {s : Shared} {z : Prop}
theorem reads_keys {P : Program} {w : World} (hp : Heap) {es : List DictEntry} {kvs : List (Key × Value)} (h : Pairs (mixKind P w) es kvs) :
    ReadsAll hp (es.map (·.key)) (kvs.map fun p => keyD p.1) [] := by
  induction h with
  | nil => exact .nil
  | @cons e kv es kvs h1 h2 h3 ih =>
    obtain ⟨k, v⟩ := kv
    have one : Reads hp e.key (keyD k) [] := by
      rcases keyIs_shape h1 with ⟨i, t, q, e1⟩ | ⟨x, t, q, e1⟩
      · rw [e1, show k = Sum.inl i from q]
        exact .int i t
      · rw [e1, show k = Sum.inr x from q]
        exact .str x t
    exact .cons (as := []) (bs := []) one ih
theorem pairs_vals {P : Program} {w : World} {es : List DictEntry} {kvs : List (Key × Value)} (h : Pairs (mixKind P w) es kvs) :
    es.map (·.val) = kvs.map (·.2) := by
  induction h with
  | nil => rfl
  | cons h1 h2 h3 ih => rw [List.map_cons, List.map_cons, h2, ih]
theorem kv_parts {kvs : List (Key × V)} {vs : List (Key × Value)} (r : KV kvs vs) :
    kvs.map (fun p => keyD p.1) = vs.map (fun p => keyD p.1) ∧ Vals (kvs.map (·.2)) (vs.map (·.2)) := by
  induction r with
  | nil => exact ⟨rfl, .nil⟩
  | cons h t ih =>
    obtain ⟨h1, h2⟩ := h
    refine ⟨?_, .cons h2 ih.2⟩
    rw [List.map_cons, List.map_cons, ih.1, h1]
mutual
theorem Dd.reads (I : Inv X pins σ H s) : ∀ (d : PyData) (v : V) (u : Value), Dd z H v d → RelV v u → ∃ as, Reads s.heap u d as ∧ (z → sysModules ∉ as)
  | _, _, u, .non, r => by
    cases r
    exact ⟨_, .none, fun _ => by simp⟩
  | _, _, u, .bl b, r => by
    cases r
    exact ⟨_, .bool b, fun _ => by simp⟩
  | _, _, u, .int i, r => by
    obtain ⟨t, rfl⟩ := r
    exact ⟨_, .int i t, fun _ => by simp⟩
  | _, _, u, .str x, r => by
    obtain ⟨t, rfl⟩ := r
    exact ⟨_, .str x t, fun _ => by simp⟩
  | .list ds, .ref a, u, .lst h n hs, r => by
    cases r
    obtain ⟨its, rv, ⟨o, n', ho, hc, _, hd⟩, _⟩ := I.list (SqL.of h)
    obtain ⟨as, hr, hz⟩ := DdA.reads I ds _ its hs rv
    refine ⟨_, Reads.list ho hc hd hr, fun q => ?_⟩
    intro hm
    rcases List.mem_cons.mp hm with e | e
    · exact n q e.symm
    · exact hz q e
  | .tuple ds, .ref a, u, .tup h hs, r => by
    cases r
    obtain ⟨its, rv, ⟨o, ho, hc, n, hd⟩, _⟩ := I.tuple (SqT.of h)
    obtain ⟨as, hr, hz⟩ := DdA.reads I ds _ its hs rv
    exact ⟨_, Reads.tuple ho hc hd hr, hz⟩
  | .dict ps, .ref a, u, .dct (kvs := kvs) (ds := ds) h hs h1 h2, r => by
    cases r
    obtain ⟨_, hsm, vs, rel, o, es, ep, ho, hx, hd, _, hp, _⟩ := (show ObjOk X.prog X.w H s.heap a (.dK kvs) from I.hok a _ h)
    obtain ⟨k1, k2⟩ := kv_parts rel
    obtain ⟨as, hr, hz⟩ := DdA.reads I ds _ _ hs k2
    refine ⟨_, Reads.dict (as := []) (bs := as) ho hx.1 hd ?_ ?_, fun q hm => ?_⟩
    · rw [h1, k1]
      exact reads_keys s.heap hp
    · rw [h2, pairs_vals hp]
      exact hr
    · rcases List.mem_cons.mp hm with e | e
      · rw [e, beq_self_eq_true] at hsm
        cases hsm
      · exact hz q e
termination_by structural _ _ _ h => h
theorem DdA.reads (I : Inv X pins σ H s) : ∀ (ds : List PyData) (vs : List V) (us : List Value), DdA z H vs ds → Vals vs us → ∃ as, ReadsAll s.heap us ds as ∧ (z → sysModules ∉ as)
  | _, _, us, .nil, r => by
    cases r
    exact ⟨_, .nil, fun _ => by simp⟩
  | d :: ds, _, us, .cons h hs, r => by
    cases r with
    | cons r1 r2 =>
      obtain ⟨as, q1, z1⟩ := Dd.reads I d _ _ h r1
      obtain ⟨bs, q2, z2⟩ := DdA.reads I ds _ _ hs r2
      refine ⟨_, .cons q1 q2, fun q hm => ?_⟩
      rcases List.mem_append.mp hm with e | e
      · exact z1 q e
      · exact z2 q e
termination_by structural _ _ _ h => h
end

/-- repr of data -/
def rReprZ : List V → Hp → VK → Prop := fun xs H Q => ∃ x d, xs = [x] ∧ Dd (d.hasDict = true) H x d ∧ d.showable = true ∧ d.depth ≤ 60 ∧
  d.shown.length ≤ sizeLine ∧ Q (.str d.shown) H
theorem call_reprZ (gd : X.A.guards = some []) (hu : X.A.units + 64 < cLine) : CallR X (.builtin "repr") rReprZ := by
  intro pins s σ H xs us Q I r h
  obtain ⟨x, d, rfl, hd, hs, hz, hl, q⟩ := h
  obtain ⟨u, rfl, r1⟩ := vals1 r
  obtain ⟨as, rd, na⟩ := Dd.reads I d x u hd r1
  cases rd with
  | none => exact PySem.P.repr_of_none ⟨.str _, H, I.tok _, ⟨_, rfl⟩, q⟩
  | bool b => exact PySem.P.repr_of_bool ⟨.str _, H, I.tok _, ⟨_, rfl⟩, q⟩
  | int i t =>
    have hi : i.natAbs.log2 < 1920 := by simpa [PyData.showable] using hs
    exact PySem.P.repr_of_int hi ⟨.str _, H, I.tok _, ⟨_, rfl⟩, q⟩
  | str y t => exact PySem.P.repr_of_str ⟨.str _, H, I.tok _, ⟨_, rfl⟩, q⟩ hl
  | list h1 h2 h3 h4 =>
    exact repr_of_reads' (.list h1 h2 h3 h4) hs na gd (by omega) (fun _ _ e => e) (fun h' v tk hk => ⟨.str _, H, I.kept hk, ⟨_, rfl⟩, q⟩) hl
  | tuple h1 h2 h3 h4 =>
    exact repr_of_reads' (.tuple h1 h2 h3 h4) hs na gd (by omega) (fun _ _ e => e) (fun h' v tk hk => ⟨.str _, H, I.kept hk, ⟨_, rfl⟩, q⟩) hl
  | dict h1 h2 h3 h4 h5 =>
    exact repr_of_reads' (.dict h1 h2 h3 h4 h5) hs na gd (by omega) (fun _ _ e => e) (fun h' v tk hk => ⟨.str _, H, I.kept hk, ⟨_, rfl⟩, q⟩) hl

/-- list + list: the new one does not lie where sys.modules does -/
def rCatX : R2 := fun x y H Q => ∃ l b xs zs, x = .ref l ∧ y = .ref b ∧ H l = some (.lst xs) ∧ H b = some (.lst zs) ∧
  xs.length + zs.length ≤ sizeLine ∧ ∀ p, p ≠ sysModules → H p = none → Q (.ref p) (upd H p (.lst (xs ++ zs)))
theorem op_catX : OpR X (binaryOp .Add) rCatX := by
  intro pins s σ H x y v u Q I rx ry h
  obtain ⟨l, b, xs, zs, rfl, rfl, hH, hB, hz, q⟩ := h
  cases rx
  cases ry
  obtain ⟨z, its, n, r, hl, e⟩ := I.lstM hH
  obtain ⟨z2, its2, n2, r2, hl2, e2⟩ := I.lstM hB
  refine PySem.P.add_list e e2 ?_ (by rw [List.size_toArray, List.size_toArray]; omega)
  rw [show its.toArray ++ its2.toArray = (its ++ its2).toArray by simp]
  refine ⟨.ref _, _, I.lnew (t' := s.toks) (r.append r2) ?_, rfl, q _ (Nat.ne_of_gt I.big) I.fresh⟩
  rw [List.length_append]
  omega
end

/-! ### defs that are called while an error is handled: the error is pinned -/
structure FnP (P : Program) (w : World) (K : PySem.W.Frag) (mg : Str → Option Value) (base : Heap) (CX : CXT)
    (k : Nat) (f : Addr) (fd : FuncData) (ps : List Str) (sp : Addr → Value → Option Addr → Sp) : Prop where
  len : ∀ a c d vs H Q E, sp a c d vs H Q E → vs.length = ps.length
  go : ∀ (A : Around) (outer : List Env) (s : Shared) (H : Hp) (args : Args) (us : List Value) (vs : List V) (Q : VK) (E : XK)
    (p : Addr × Obj) (c : Value) (d : Option Addr), A.guards = some [] → L2H.RoomH k A → L2H.PinOk outer H s p → Zc c d p.2 →
    (∃ fv, p.2.data = .fields fv) → Env0 P w K mg base A outer s H →
    BindsTo s fd args (ps.zip us) → Vals vs us → sp p.1 c d vs H Q E →
    codeAny (model P w) A (.call (.ref f) args) (CR CX outer P w H s Q E) s

theorem fnP_of {CX : CXT} {P : Program} {w : World} {K : PySem.W.Frag} {mg : Str → Option Value} {base : Heap} {k : Nat}
    {f : Addr} {name qual : Str} {params : Arguments} {body : List Stmt} {scope : Scope} {dV kV doc pm cdv ct oc : Value}
    {an od : Option Addr} {osl : Array (Option Value)} {N ps : List Str} {sp : Addr → Value → Option Addr → Sp}
    (lk : K.lookup f = some ⟨oc, od, .func (PySem.W.fnOf name qual params body scope dV kV doc pm an cdv ct), osl⟩)
    (hcd : PySem.W.codeIn K cdv qual = true) (S : FnScope N ps scope)
    (len : ∀ a c d vs H Q E, sp a c d vs H Q E → vs.length = ps.length)
    (hbody : ∀ (A : Around) (outer : List Env) (s : Shared) (H : Hp) (vs : List V) (Q : VK) (E : XK) (p : Addr × Obj) (c : Value)
      (d : Option Addr), A.guards = some [] → L2H.RoomH k (A.deeper (envOfC qual scope s.heap.objs.size f cdv)) → Zc c d p.2 →
      (∃ fv, p.2.data = .fields fv) → sp p.1 c d vs H Q E →
      ∃ t, PSs (L2H.cxH CX P w K mg base N qual scope f cdv A outer s H E p) body t ∧
        t { nx := fun _ H' => Q .non H', rt := Q } (start N vs) H) :
    FnP P w K mg base CX (k + 1) f (PySem.W.fnOf name qual params body scope dV kV doc pm an cdv ct) ps sp := by
  constructor
  · exact len
  intro A outer s H args us vs Q E p c d gd hr hpin hz hf e0 hb r hsp
  have hl := len _ _ _ _ _ _ _ hsp
  have KX : K.In s.heap := e0.mod.kin.keeps fun b o e => (e0.bs b o e).1
  have lim : s.heap.NoLimit := e0.mod.nolimit.keeps fun b o e => (e0.bs b o e).1
  have hk : ∀ y ∈ ps.zip us, scope.names.lookup y.1 = some .local ∨
      (scope.names.lookup y.1 = some .cell ∧
        ((cellsFrom (s.heap.objs.size + 1) scope.names []).lookup y.1).isSome = true) := by
    rintro ⟨n, v⟩ hy
    rcases S.par n (List.of_mem_zip hy).1 with q | q
    · exact .inl q
    · exact .inr ⟨q, PySem.W.cellsFrom_some _ _ _ (.inl q)⟩
  refine codeAny_call_function hr.depth (KX _ _ lk) rfl S.co S.gen rfl (PySem.W.codeRec_of KX hcd) ?_
  refine hb _ _ _ _ (wpAny_newFunctionEnv_cells S.kind hk ?_)
  intro env he s1 x
  subst he
  refine ⟨lim.keeps x.toInCall.keep, ?_⟩
  refine codeAny_func ?_
  obtain ⟨t, ht, hq⟩ := hbody A outer s H vs Q E p c d gd (hr.deeper _) hz hf hsp
  have I := L2H.inv_startH (CX := CX) (N := N) (E := E) S hpin e0 hl r x
  refine wpAny_mono (ht.run [] s1 (start N vs) H _ I hq) ?_ (fun e s' hs => hs)
  intro fl s' hs
  cases fl with
  | ret u =>
    obtain ⟨v, σ', H', J, rv, q⟩ := hs
    exact ⟨v, H', J.os, J.bare, J.base, J.hok, rv, q⟩
  | next =>
    obtain ⟨σ', H', J, q⟩ := hs
    exact ⟨V.non, H', J.os, J.bare, J.base, J.hok, rfl, q⟩
  | brk =>
    obtain ⟨_, _, _, q⟩ := hs
    exact q.elim
  | cont =>
    obtain ⟨_, _, _, q⟩ := hs
    exact q.elim

section
variable {P : Program} {w : World} {K : PySem.W.Frag} {mg : Str → Option Value} {base : Heap}
theorem okP {x qual : Str} {st : Stmt} {f : Addr} {fd : FuncData} {N ps : List Str} {k : Nat} {sp : Addr → Value → Option Addr → Sp}
    (F : Fun K x qual st f fd) (S : FnScope N ps (defScope st)) (len : ∀ a c d vs H Q E, sp a c d vs H Q E → vs.length = ps.length)
    (hbody : ∀ (cdv : Value) (A : Around) (outer : List Env) (s : Shared) (H : Hp) (vs : List V) (Q : VK) (E : XK) (p : Addr × Obj)
      (c : Value) (d : Option Addr), A.guards = some [] → L2H.RoomH k (A.deeper (envOfC qual (defScope st) s.heap.objs.size f cdv)) →
      Zc c d p.2 → (∃ fv, p.2.data = .fields fv) → sp p.1 c d vs H Q E →
      ∃ t, PSs (L2H.cxH CX0 P w K mg base N qual (defScope st) f cdv A outer s H E p).nox (defBody st) t ∧
        t { nx := fun _ H' => Q .non H', rt := Q } (start N vs) H) :
    FnP P w K mg base CX0 (k + 1) f fd ps sp := by
  obtain ⟨oc, od, kV, doc, pm, an, cdv, ct, osl, rfl, lk, hcd⟩ := F.ex
  refine fnP_of lk hcd S len ?_
  intro A outer s H vs Q E p c d g hr hz hf hsp
  obtain ⟨t, h, q⟩ := hbody cdv A outer s H vs Q E p c d g hr hz hf hsp
  exact ⟨t, h.nox, q⟩
end

section
variable {X : Cx} {k : Nat} {f : Addr} {fd : FuncData} {ps : List Str} {sp : Addr → Value → Option Addr → Sp} {x : Str} {p pos : Pos} {e : Expr}
  {es : List Expr} {t : TA} {a : Addr} {oe : Obj} {st : Stmt} {c : Value} {d : Option Addr}
theorem pe_dfP (D : Df X.K X.mg x st ps f fd) (F : FnP X.prog X.w X.K X.mg X.base CX0 k f fd ps sp) (gd : X.A.guards = some [])
    (hr : L2H.RoomH k X.A) (hp : (a, oe) ∈ X.pn) (hz : Zc c d oe) (hf : ∃ fv, oe.data = .fields fv) (hg : Gl X x) (ha : PA X (e :: es) t)
    (hdb : (x == ("__debug__" : Str)) = false := by decide)
    (he : starEach (e :: es) X.env = (false, eval e X.env) :: starEach es X.env := by rfl)
    (hpl : (backTo pos (starEach es X.env)).any (·.1) = false := by rfl) :
    PE X (.Call (.Name x p) (e :: es) [] pos) (tCall (sp a c d) [] E0 t) := by
  constructor
  intro pins s σ H Q I h
  refine wpAny_Call_Name_kw (ld_glob I hg D.g ?_ hdb)
  refine PySem.W.callWith_K (h₀ := X.base) I.ok.mod.kin D.F.kp (thn (ha.run pos pins s σ H _ I h) ?_) he hpl
  rintro us s1 ⟨vs, H1, I1, r, q⟩
  refine ⟨I1.kIn, ?_⟩
  rw [List.append_nil] at q
  have hl : us.length = ps.length := r.length.symm.trans (F.len _ _ _ _ _ _ _ q)
  have b := D.b s1 us I1.kIn (by rw [List.append_nil]; exact hl)
  rw [List.append_nil] at b
  have P1 := I1.pin (a, oe) (List.mem_append_left _ hp)
  have hpin : L2H.PinOk X.stack H1 s1 (a, oe) := by
    refine ⟨P1.1, P1.2.1, ?_, P1.2.2.2.2⟩
    intro hm
    exact (List.mem_cons.mp (I1.stkSub a hm)).elim P1.2.2.1 P1.2.2.2.1
  refine wpAny_call (codeAny_mono (F.go X.A X.stack s1 H1 ⟨us, []⟩ us vs Q E0 (a, oe) c d gd hr hpin hz hf I1.env0 b r q) ?_)
  intro r s' hq
  cases r with
  | error e => exact hq.elim
  | ok fl =>
    cases fl with
    | ret u => exact I1.after hq
    | next => exact hq.elim
    | brk => exact hq.elim
    | cont => exact hq.elim
end
end LP

set_option Elab.async false
set_option linter.all false
set_option maxRecDepth 100000
set_option maxHeartbeats 4000000
/-! LPQ: facts of the classes of own errors by one look at the written part; their __init__. -/
namespace LP
open PySem PySem.Spec L2
open PyProof.Rows hiding St

/-- what is wanted of each own class of errors -/
structure Xk (K : PySem.W.Frag) (C : Addr) : Prop where
  ec : ExcC K C
  kC : PySem.W.keepIn K (.ref C) = true
  tyC : PySem.W.typeIn K (.ref C) = some (.type "type")
def xkB (K : PySem.W.Frag) (C : Addr) : Bool :=
  decide (PySem.W.findIn K (.ref C) "__getattribute__" = some (some (.builtin "BaseException.__getattribute__"))) &&
  decide (PySem.W.findIn K (.ref C) "__getattr__" = some none) &&
  decide (PySem.W.subIn K (.ref C) (.type "BaseException") = some true) &&
  PySem.W.hasDictIn K C &&
  decide (PySem.W.findIn K (.ref C) "__class__" = some (some (.builtin "object.__class__"))) &&
  decide (PySem.W.specialIn K (.builtin "object.__class__") "__get__" = some (some (.builtin "getset_descriptor.__get__"))) &&
  decide (PySem.W.takesIn K (.builtin "object.__class__") = some true) &&
  decide (PySem.W.mroIn K C (.type "object") = some true) &&
  PySem.W.keepIn K (.ref C) && decide (PySem.W.typeIn K (.ref C) = some (.type "type"))
theorem xk_of {K : PySem.W.Frag} {C : Addr} (h : xkB K C = true) : Xk K C := by
  unfold xkB at h
  simp only [Bool.and_eq_true, decide_eq_true_eq] at h
  obtain ⟨⟨⟨⟨⟨⟨⟨⟨⟨h1, h2⟩, h3⟩, h4⟩, h5⟩, h6⟩, h7⟩, h8⟩, h9⟩, h10⟩ := h
  exact ⟨⟨h1, h2, h3, h4, h5, h6, h7, h8⟩, h9, h10⟩
theorem Xk.xf {K : PySem.W.Frag} {C : Addr} (h : Xk K C) : XfC K C := ⟨h.ec.hg, h.ec.hk, h.ec.hs, h.ec.hd⟩
theorem Xk.raises {X : Cx} {C : Addr} (h : Xk X.K C) : Raises X (.ref C) := raises_own h.ec.hs h.tyC

/-- a class with an own __init__ that keeps f; B: what makes it; bmS: the built-in bases -/
def ocB (K : PySem.W.Frag) (C : Addr) (B newId : String) (bmS : List Value) (f : Str) : Bool := (match K.lookup C with
  | some ⟨.type "type", _, .cls cd, sl⟩ => (match cd.mro, sl.toList with
    | .ref C' :: bm, [_, _, _, _, some (.builtin n), _] => C' == C && n == newId && !cd.hasDel && cd.hasDict && bm.contains (.type B) &&
        !bm.contains (.type "AttributeError") && !bm.contains (.type "NameError")
    | _, _ => false)
  | _ => false) && PySem.W.excOver K C bmS &&
  decide (PySem.W.findIn K (.ref C) "__setattr__" = some (some (.builtin "object.__setattr__"))) &&
  decide (PySem.W.findIn K (.ref C) f = some none)
theorem oc_of {K : PySem.W.Frag} {C : Addr} {B B' newId initId : String} {bmB bmS : List Value} {f : Str}
    (F : ExcBaseFacts B newId initId bmB) (SF : StoreFacts B' bmS "object.__setattr__" "object") (x : Xk K C)
    (q : ocB K C B newId bmS f = true) : Oc K C f := by
  unfold ocB at q
  simp only [Bool.and_eq_true, decide_eq_true_eq] at q
  obtain ⟨⟨⟨q, h2⟩, h3⟩, h4⟩ := q
  refine ⟨?_, ⟨_, _, SF, h2⟩, h3, x.ec.hs, x.tyC, x.kC, x.ec.hd, h4⟩
  split at q
  · rename_i dd cd sl ho
    split at q
    · rename_i C' bm k0 k1 k2 k3 n k5 hm hs
      simp only [Bool.and_eq_true, beq_iff_eq, Bool.not_eq_true'] at q
      obtain ⟨⟨⟨⟨⟨⟨rfl, rfl⟩, hdel⟩, hdt⟩, c1⟩, c2⟩, c3⟩ := q
      obtain ⟨nm, bs, mro, ns, qn, hd, sn, sub, ab, col, del⟩ := cd
      dsimp only at hm hdel hdt
      subst hm hdel hdt
      have hsl : sl = #[k0, k1, k2, k3, some (.builtin n), k5] := by
        obtain ⟨l⟩ := sl
        simp only at hs
        rw [hs]
      subst hsl
      exact ⟨B, n, initId, bmB, bm, nm, qn, ns, bs, sn, sub, ab, col, dd, k0, k1, k2, k3, k5, F, ⟨c1, c2, c3⟩, ho⟩
    · cases q
  · cases q

/-- an own class whose __init__ keeps f: all that making it asks -/
structure Ok1 (K : PySem.W.Frag) (mg : Str → Option Value) (x : Str) (C : Addr) (f : Str) (st : Stmt) (ps : List Str) (fI : Addr) (fd : FuncData) : Prop where
  g : mg x = some (.ref C)
  k : Xk K C
  o : Oc K C f
  i : PySem.W.findIn K (.ref C) "__init__" = some (some (.ref fI))
  t : PySem.W.typeIn K (.ref fI) = some (.type "function")
  F : Fun K "__init__" (x ++ ".__init__") st fI fd
  b : Binds K fd ps []
/-- the j-th statement of a class's body -/
def mth (s : Stmt) (j : Nat) : Stmt := match s with
  | .ClassDef _ _ _ body _ _ _ _ _ _ _ => body.getD j (.Pass ⟨0, 0, 0, 0⟩)
  | _ => .Pass ⟨0, 0, 0, 0⟩

section
variable {P : Program} {w : World} {K : PySem.W.Frag} {mg : Str → Option Value} {base : Heap}
/-- def __init__(self, v): self.f = v -/
theorem ok_ini {x : Str} {C fI : Addr} {fd : FuncData} {f v : Str} {st : Stmt} {p1 p2 p3 p4 : Pos} {qn : Str}
    (F : Fun K "__init__" qn st fI fd) (T : Oc K C f) (S : FnScope ["self", v] ["self", v] (defScope st))
    (hb : defBody st = [.Assign [.Attribute (.Name "self" p1) f p2] (.Name v p3) p4])
    (h0 : Vis (defScope st) "self") (h1 : Vis (defScope st) v) (d1 : (v == ("__debug__" : Str)) = false) (d2 : (v == ("__classdict__" : Str)) = false) :
    FnOk P w K mg base CX0 1 fI fd ["self", v] (spIni K C f) := by
  refine F.ok S ?_ ?_
  · rintro vs H Q E ⟨a, y, rfl, _⟩
    rfl
  rintro cdv A outer s H vs Q E hr ⟨a, y, rfl, _, ha, q⟩
  rw [hb]
  refine ⟨_, pss_one (ps_os1 (pe_var (i := 0) rfl h0 (by decide) (by decide)) (pe_var (i := 1) rfl h1 d1 d2)), ?_⟩
  refine ⟨y, rfl, .ref a, rfl, a, C, rfl, T, ha, ?_⟩
  intro dx n ne
  exact q dx n ne
end
section
variable {X : Cx} {k : Nat} {C fI : Addr} {fd : FuncData} {ps : List Str} {x f : Str} {st : Stmt} {e : Expr} {ta : TA} {p pos : Pos}
theorem pe_new1 (D : Ok1 X.K X.mg x C f st ps fI fd) (G : FnOk X.prog X.w X.K X.mg X.base CX0 k fI fd ps (spIni X.K C f)) (hr : Room (k + 1) X.A)
    (hg : Gl X x) (ha : PA X [e] ta) (hdb : (x == ("__debug__" : Str)) = false := by decide)
    (he : starEach [e] X.env = (false, eval e X.env) :: starEach [] X.env := by rfl)
    (hpl : (backTo pos (starEach [] X.env)).any (·.1) = false := by rfl) :
    PE X (.Call (.Name x p) [e] [] pos) (tMkV C f ta) := pe_mkv D.o D.i D.t G hr D.b hg D.g ha hdb he hpl
theorem pmk_new1 (D : Ok1 X.K X.mg x C f st ps fI fd) (G : FnOk X.prog X.w X.K X.mg X.base CX0 k fI fd ps (spIni X.K C f)) (hr : Room (k + 1) X.A)
    (hg : Gl X x) (ha : PA X [e] ta) (hdb : (x == ("__debug__" : Str)) = false := by decide)
    (he : starEach [e] X.env = (false, eval e X.env) :: starEach [] X.env := by rfl)
    (hpl : (backTo pos (starEach [] X.env)).any (·.1) = false := by rfl) :
    PMk X (.Call (.Name x p) [e] [] pos) (tMkR C f ta) := pmk_mkr D.o D.i D.t G hr D.b hg D.g ha hdb he hpl
end

/-- an own class over ValueError without own __init__ -/
structure Ok0 (K : PySem.W.Frag) (mg : Str → Option Value) (x : Str) (C : Addr) : Prop where
  g : mg x = some (.ref C)
  k : Xk K C
  e : PySem.W.excIn K C [.type "ValueError", .type "Exception", .type "BaseException", .type "object"] "ValueError.__new__" = true
section
variable {X : Cx} {C : Addr} {x m : Str} {e : Expr} {ta : TE} {p p2 pos : Pos} {j : Nat}
def tMk0 (C : Addr) (ta : TE) : TE := fun σ H Q => ta σ H fun _ H1 => ∀ a, H1 a = none → Q (.ref a) (upd H1 a (exo a C none))
theorem pe_new0 (D : Ok0 X.K X.mg x C) (hg : Gl X x) (he : PE X e ta)
    (hs : starEach [e] X.env = (false, eval e X.env) :: starEach [] X.env := by rfl)
    (hdb : (x == ("__debug__" : Str)) = false := by decide) :
    PE X (.Call (.Name x p) [e] [] pos) (tMk0 C ta) := pe_mk0 PySem.F.excBase_ValueError D.e D.g D.k.kC hg he hs hdb
theorem pmk_new0 (D : Ok0 X.K X.mg x C) (hg : Gl X x) (hdb : (x == ("__debug__" : Str)) = false := by decide) :
    PMk X (.Call (.Name x p) [.Constant (.str m) j p2] [] pos) (fun _ H Q => Q (.ref C) none H) :=
  pmk_own PySem.F.excBase_ValueError D.e D.g D.k.kC D.k.raises hg hdb
end

/-! ### isinstance of errors, by a table -/
def isOf (K : PySem.W.Frag) (C : Addr) : V → Option Bool
  | .ty n => PySem.W.kitOne K (.ref C) (.type n)
  | .ref D => PySem.W.kitOne K (.ref C) (.ref D)
  | _ => none
def rIsA (K : PySem.W.Frag) (pn : List (Addr × Obj)) (a C : Addr) : List V → Hp → VK → Prop := fun xs H Q =>
  ∃ c b, xs = [.ref a, c] ∧ ExcC K C ∧ XAt pn H a C ∧ isOf K C c = some b ∧ Q (.bl b) H
theorem call_isA {X : Cx} {K : PySem.W.Frag} {pn : List (Addr × Obj)} {a C : Addr} (eK : X.K = K) (ep : X.pn = pn) : CallR X (.builtin "isinstance") (rIsA K pn a C) := by
  subst eK
  subst ep
  refine call_imp call_isX ?_
  rintro xs H Q ⟨c, b, rfl, T, hx, e, q⟩
  cases c with
  | ty n => exact ⟨a, C, .ty n, .type n, b, rfl, .ty n, T, hx, e, q⟩
  | ref D => exact ⟨a, C, .ref D, .ref D, b, rfl, .own D, T, hx, e, q⟩
  | _ => cases e

theorem lookup1 {n : Str} {v : V} : List.lookup n [(n, v)] = some v := by simp [List.lookup]
/-! ### 'x' * int(b) -/
def bi (b : Bool) : Int := if b then 1 else 0
theorem bi_inj {a b : Bool} : bi a = bi b ↔ a = b := by
  cases a <;> cases b <;> decide
def ob (b : Bool) (z : Str) : Str := if b then z else ""
theorem len_ob (b : Bool) (z : Str) : (ob b z).length ≤ z.length := by
  unfold ob
  cases b
  · exact Nat.zero_le _
  · exact Nat.le_refl _
theorem len_ob1 (b : Bool) (z : Str) (n : Nat) (h : z.length ≤ n) : (ob b z).length ≤ n := Nat.le_trans (len_ob b z) h
section
variable {X : Cx}
def rIntX : List V → Hp → VK → Prop := fun xs H Q => ∃ k, xs = [.bl k] ∧ Q (.int (bi k)) H
theorem call_intX : CallR X (.type "int") rIntX := call_imp call_intB fun xs H Q ⟨k, h, q⟩ => ⟨k, h, q⟩
theorem rep_bi (b : Bool) (z : Str) : repS z (bi b) = ob b z := by
  cases b
  · simp [repS, Txt.mul, bi, ob]
    rfl
  · simp [repS, Txt.mul, bi, ob]
def rBit : R2 := fun x y H Q => ∃ z b, x = .str z ∧ y = .int (bi b) ∧ z.length ≤ 100 ∧ Q (.str (ob b z)) H
theorem op_bit : OpR X (binaryOp .Mult) rBit := by
  refine op_imp op_repS ?_
  rintro x y H Q ⟨z, b, rfl, rfl, hl, q⟩
  refine ⟨z, bi b, rfl, rfl, ⟨?_, ?_, ?_⟩, ?_⟩
  · cases b <;> decide
  · cases b <;> decide
  · rw [sizeLine_eq]
    cases b
    · show z.length * 0 ≤ _
      omega
    · show z.length * 1 ≤ _
      omega
  · rw [rep_bi]
    exact q
end
end LP

set_option Elab.async false
set_option linter.all false
set_option maxRecDepth 100000
set_option maxHeartbeats 2000000
/-! ZN0: zip over any number of lists, tuples, texts, at the library's level. -/
namespace LZ
open PySem
open PySem.Sem (wp)

/-- what an iterator goes over -/
inductive Sk
  | lst (a : Addr)
  | tup (a : Addr)
  | asc (x : Str) (t : Tok)
  | wid (x : Str) (t : Tok)
def Sk.at : Sk → Nat → Nat → Heap → Prop
  | .lst a, it, i, h => h.IsListIter it a i
  | .tup a, it, i, h => h.IsTupleIter it a i
  | .asc x t, it, i, h => h.IsStrIter it "str_ascii_iterator" x t i
  | .wid x t, it, i, h => h.IsStrIter it "str_iterator" x t i
def Sk.gives : Sk → Heap → Nat → (Value → Prop) → Prop
  | .lst a, h, i, P => ∃ its v, h.IsList a its ∧ its[i]? = some v ∧ P v
  | .tup a, h, i, P => ∃ its v, h.IsTuple a its ∧ its[i]? = some v ∧ P v
  | .asc x _, _, i, P => ∃ c, x.cps[i]? = some c ∧ ∀ u, P (.str ⟨#[c]⟩ u)
  | .wid x _, _, i, P => ∃ c, x.cps[i]? = some c ∧ ∀ u, P (.str ⟨#[c]⟩ u)
def Sk.ends : Sk → Heap → Nat → Prop
  | .lst a, h, i => ∃ its, h.IsList a its ∧ its[i]? = none
  | .tup a, h, i => ∃ its, h.IsTuple a its ∧ its[i]? = none
  | .asc x _, _, i => x.cps[i]? = none
  | .wid x _, _, i => x.cps[i]? = none
/-- the thing itself does not lie at c -/
def Sk.apart : Sk → Nat → Prop
  | .lst a, c => a ≠ c
  | .tup a, c => a ≠ c
  | _, _ => True
theorem Sk.at.over {sk : Sk} {it x : Nat} {i : Nat} {h h' : Heap} (st : sk.at it i h) (hs : Heap.ExtBut x h h') (hx : it ≠ x) : sk.at it i h' := by
  cases sk with
  | lst a => exact Heap.IsListIter.at st fun o e => hs _ _ hx e
  | tup a => exact Heap.IsTupleIter.at st fun o e => hs _ _ hx e
  | asc z t => exact let ⟨o, ho, r⟩ := st; ⟨o, hs _ _ hx ho, r⟩
  | wid z t => exact let ⟨o, ho, r⟩ := st; ⟨o, hs _ _ hx ho, r⟩
theorem Sk.at.over' {sk : Sk} {it : Nat} {i : Nat} {h h' : Heap} (st : sk.at it i h) (hs : ∀ o, h.get? it = some o → h'.get? it = some o) : sk.at it i h' := by
  cases sk with
  | lst a => exact Heap.IsListIter.at st fun o e => hs o e
  | tup a => exact Heap.IsTupleIter.at st fun o e => hs o e
  | asc z t => exact let ⟨o, ho, r⟩ := st; ⟨o, hs o ho, r⟩
  | wid z t => exact let ⟨o, ho, r⟩ := st; ⟨o, hs o ho, r⟩
theorem Sk.at.obj {sk : Sk} {it : Nat} {i : Nat} {h : Heap} (st : sk.at it i h) : ∃ o, h.get? it = some o ∧ ∀ v, o.data ≠ .cell v := by
  cases sk with
  | lst a => exact let ⟨o, ho, _, hd⟩ := st; ⟨o, ho, fun v q => by rw [hd] at q; cases q⟩
  | tup a => exact let ⟨o, ho, _, hd⟩ := st; ⟨o, ho, fun v q => by rw [hd] at q; cases q⟩
  | asc z t => exact let ⟨o, ho, _, hd⟩ := st; ⟨o, ho, fun v q => by rw [hd] at q; cases q⟩
  | wid z t => exact let ⟨o, ho, _, hd⟩ := st; ⟨o, ho, fun v q => by rw [hd] at q; cases q⟩
theorem Sk.gives.over {sk : Sk} {x : Nat} {i : Nat} {h h' : Heap} {P : Value → Prop} (g : sk.gives h i P) (hs : Heap.ExtBut x h h') (hx : sk.apart x) : sk.gives h' i P := by
  cases sk with
  | lst a => exact let ⟨its, v, l, r⟩ := g; ⟨its, v, l.extBut hs hx, r⟩
  | tup a => exact let ⟨its, v, l, r⟩ := g; ⟨its, v, l.extBut hs hx, r⟩
  | asc z t => exact g
  | wid z t => exact g
theorem Sk.ends.over {sk : Sk} {x : Nat} {i : Nat} {h h' : Heap} (g : sk.ends h i) (hs : Heap.ExtBut x h h') (hx : sk.apart x) : sk.ends h' i := by
  cases sk with
  | lst a => exact let ⟨its, l, r⟩ := g; ⟨its, l.extBut hs hx, r⟩
  | tup a => exact let ⟨its, l, r⟩ := g; ⟨its, l.extBut hs hx, r⟩
  | asc z t => exact g
  | wid z t => exact g
section
variable {prog : Program} {w : World} {A : Around} {E : Value → Shared → Prop} {s : Shared}
theorem draw_item {sk : Sk} {it : Nat} {i : Nat} {P : Value → Prop} {Q : Value → Shared → Prop} (st : sk.at it i s.heap) (g : sk.gives s.heap i P)
    (hQ : ∀ u h' tk, P u → sk.at it (i + 1) h' → Heap.SameBut it s.heap h' → Q u { s with heap := h', toks := tk }) : wpAny (model prog w) A (Builtin.SmallTypes.nextOf (.ref it)) Q E s := by
  cases sk with
  | lst a =>
    obtain ⟨its, v, l, e, p⟩ := g
    exact wpAny_nextOf_list_item st l e fun h' a b => hQ v h' s.toks p a b
  | tup a =>
    obtain ⟨its, v, l, e, p⟩ := g
    exact RZ.nextOf_tuple_item st l e fun h' a b => hQ v h' s.toks p a b
  | asc z t =>
    obtain ⟨c, e, p⟩ := g
    exact wpAny_nextOf_ascii_item st e fun h' a b => hQ _ h' _ (p _) a b
  | wid z t =>
    obtain ⟨c, e, p⟩ := g
    exact wpAny_nextOf_wide_item st e fun h' a b => hQ _ h' _ (p _) a b
theorem draw_end {sk : Sk} {it : Nat} {i : Nat} {Q : Value → Shared → Prop} (hh : A.handled = none) (st : sk.at it i s.heap) (g : sk.ends s.heap i)
    (hE : ∀ h' e, Heap.ExtBut it s.heap h' → (∃ o, h'.get? e = some o ∧ o.cls = .type "StopIteration") → E (.ref e) { s with heap := h' }) : wpAny (model prog w) A (Builtin.SmallTypes.nextOf (.ref it)) Q E s := by
  cases sk with
  | lst a =>
    obtain ⟨its, l, e⟩ := g
    exact wpAny_nextOf_list_end hh st l e hE
  | tup a =>
    obtain ⟨its, l, e⟩ := g
    exact RZ.nextOf_tuple_end hh st l e hE
  | asc z t => exact wpAny_nextOf_ascii_end hh st g hE
  | wid z t => exact wpAny_nextOf_wide_end hh st g hE
end
section
variable {M : Model} {A : Around} {E : Value → Shared → Prop} {α β : Type}
theorem forIn_run {f : α → β → Sem (ForInStep β)} {Q : β → Shared → Prop} (Iv : Nat → β → Shared → Prop) : ∀ {l : List α} {j : Nat} {b : β} {s : Shared}, Iv j b s →
    (∀ j' a b s, l[j']? = some a → Iv (j + j') b s → wpAny M A (f a b) (fun r s' => ∃ b', r = .yield b' ∧ Iv (j + j' + 1) b' s') E s) → (∀ b s, Iv (j + l.length) b s → Q b s) → wpAny M A (forIn l b f) Q E s
  | [], j, b, s, h0, _, hq => by
    rw [List.forIn_nil]
    exact wpAny_pure (hq b s h0)
  | a :: l, j, b, s, h0, hs, hq => by
    rw [List.forIn_cons]
    refine wpAny_bind (wpAny_mono (hs 0 a b s rfl h0) (fun r s' z => ?_) fun _ _ x => x)
    obtain ⟨b', rfl, z⟩ := z
    refine forIn_run Iv (j := j + 1) z (fun j' a b s e i => ?_) (fun b s i => hq b s ?_)
    · have z := hs (j' + 1) a b s e (by rw [show j + (j' + 1) = j + 1 + j' by omega]; exact i)
      rw [show j + (j' + 1) + 1 = j + 1 + j' + 1 by omega] at z
      exact z
    · rw [List.length_cons, show j + (l.length + 1) = j + 1 + l.length by omega]
      exact i
theorem forIn_raise {f : α → β → Sem (ForInStep β)} {Q : β → Shared → Prop} (Iv : Nat → β → Shared → Prop) (j0 : Nat) : ∀ {l : List α} {j : Nat} {b : β} {s : Shared}, Iv j b s → j ≤ j0 → j0 < j + l.length →
    (∀ j' a b s, l[j']? = some a → j + j' < j0 → Iv (j + j') b s → wpAny M A (f a b) (fun r s' => ∃ b', r = .yield b' ∧ Iv (j + j' + 1) b' s') E s) → (∀ j' a b s, l[j']? = some a → j + j' = j0 → Iv j0 b s → wpAny M A (f a b) (fun _ _ => False) E s) → wpAny M A (forIn l b f) Q E s
  | [], j, b, s, h0, h1, h2, _, _ => by
    rw [List.length_nil] at h2
    omega
  | a :: l, j, b, s, h0, h1, h2, hs, he => by
    rw [List.forIn_cons]
    rcases Nat.lt_or_eq_of_le h1 with h | h
    · refine wpAny_bind (wpAny_mono (hs 0 a b s rfl h h0) (fun r s' z => ?_) fun _ _ x => x)
      obtain ⟨b', rfl, z⟩ := z
      refine forIn_raise Iv j0 (j := j + 1) z h (by rw [List.length_cons] at h2; omega) (fun j' a b s e hj i => ?_) (fun j' a b s e hj i => ?_)
      · have z := hs (j' + 1) a b s e (by omega) (by rw [show j + (j' + 1) = j + 1 + j' by omega]; exact i)
        rw [show j + (j' + 1) + 1 = j + 1 + j' + 1 by omega] at z
        exact z
      · exact he (j' + 1) a b s e (by omega) i
    · exact wpAny_bind (wpAny_mono (he 0 a b s rfl h (by rw [← h]; exact h0)) (fun r s' z => z.elim) fun _ _ x => x)
end
end LZ

set_option Elab.async false
set_option linter.all false
set_option maxRecDepth 100000
set_option maxHeartbeats 2000000
namespace LZ
open PySem
open PySem.Sem (wp)

abbrev TupAt (h : Heap) (T : Nat) (vs : Array Value) : Prop := h.get? T = some { cls := .type "tuple", data := .seq vs }
abbrev ZipObj (h : Heap) (z TI TO : Nat) (f0 : Value) (f : Bool) : Prop := h.get? z = some { cls := .type "zip", dict := none, data := .fields #[f0, .bool f, .bool false, .ref TI, .ref TO], slots := #[] }
/-- a zip ahead of a turn -/
def ZipAt (h : Heap) (z TI TO : Nat) : Prop := ∃ f0 f, ZipObj h z TI TO f0 f ∧ (f0 = .none ∨ ∃ T : Nat, f0 = rawInt T)
def itsAt (m k : Nat) : Array Value := ((List.range k).map fun j => Value.ref (m + j)).toArray
theorem itsAt_get {m k j : Nat} {v : Value} (h : (itsAt m k).toList[j]? = some v) : j < k ∧ v = .ref (m + j) := by
  unfold itsAt at h
  simp only [List.getElem?_map, List.getElem?_range] at h
  obtain ⟨a, e, rfl⟩ := Option.map_eq_some_iff.mp h
  obtain ⟨hl, rfl⟩ := List.getElem?_eq_some_iff.mp e
  simp at hl ⊢
  exact hl
theorem itsAt_len {m k : Nat} : (itsAt m k).toList.length = k := by simp [itsAt]




theorem ane {a b : Nat} (h : a = b → False) : a ≠ b := h






section
variable {prog : Program} {w : World} {A : Around} {E : Value → Shared → Prop} {s : Shared}
theorem alive_any {a : Addr} {Q : Option Obj → Shared → Prop} (h : Q (s.heap.get? a) s) : wpAny (model prog w) A (loadIfAlive a) Q E s := fun _ _ _ => h
/-- whether the tuple is free: both ways are open -/
theorem free_any {z TI TO : Addr} {f0 : Value} {f : Bool} {Q : Bool → Shared → Prop} (hz : ZipObj s.heap z TI TO f0 f) (h0 : f0 = .none ∨ ∃ T : Nat, f0 = rawInt T)
    (h1 : Q true s) (h2 : ∀ h', ZipObj h' z TI TO f0 true → (∃ T : Nat, f0 = rawInt T) → Heap.SameBut z s.heap h' → Q false { s with heap := h' }) : wpAny (model prog w) A (Builtin.SmallTypes.ownedTupleIsFree (.ref z)) Q E s := by
  unfold Builtin.SmallTypes.ownedTupleIsFree
  rcases h0 with rfl | ⟨T, rfl⟩
  · exact wpAny_bind (wpAny_field hz rfl (x := .none) rfl (wpAny_pure h1))
  · refine wpAny_bind (wpAny_field hz rfl (x := rawInt T) rfl ?_)
    show wpAny _ _ (loadIfAlive ((T : Int).toNat) >>= _) _ _ _
    rw [Int.toNat_natCast]
    refine wpAny_bind (alive_any ?_)
    cases s.heap.get? T with
    | none =>
      simp only [Option.isNone_none, if_true]
      exact wpAny_pure h1
    | some o =>
      simp only [Option.isNone_some, Bool.false_eq_true, if_false]
      refine wpAny_bind (wpAny_field hz rfl (x := .bool f) rfl ?_)
      cases f with
      | true =>
        rw [if_neg (show ¬ ((Value.bool true != Value.bool true) = true) from Bool.false_ne_true)]
        exact wpAny_pure (h2 s.heap hz ⟨T, rfl⟩ (Heap.SameBut.refl _ _))
      | false =>
        rw [if_pos (show (Value.bool false != Value.bool true) = true from rfl)]
        exact wpAny_bind (wpAny_setField_rec hz (by simp) fun h₁ hz₁ hs₁ => wpAny_pure (h2 h₁ hz₁ ⟨T, rfl⟩ hs₁))

/-- the cells of a zip that has just been made: its iterators at m, .., then the tuples, then itself -/
structure ZSt (m : Nat) (ss : List Sk) (i : Nat) (h : Heap) : Prop where
  z : ZipAt h (m + ss.length + 2) (m + ss.length) (m + ss.length + 1)
  ti : TupAt h (m + ss.length) (itsAt m ss.length)
  to : ∃ vs : Array Value, vs.size = ss.length ∧ TupAt h (m + ss.length + 1) vs
  it : ∀ (j : Nat) (sk : Sk), ss[j]? = some sk → sk.at (m + j) i h
def Outs (m k : Nat) (h h' : Heap) : Prop := ∀ (c : Nat) o, (c < m ∨ m + k + 3 ≤ c) → h.get? c = some o → h'.get? c = some o
theorem Outs.refl (m k : Nat) (h : Heap) : Outs m k h h := fun _ _ _ e => e
theorem Outs.trans {m k : Nat} {h h' h'' : Heap} (a : Outs m k h h') (b : Outs m k h' h'') : Outs m k h h'' := fun c o hc e => b c o hc (a c o hc e)
theorem Outs.ext {m k : Nat} {h h' : Heap} {x : Nat} (e : Heap.ExtBut x h h') (h1 : m ≤ x) (h2 : x < m + k + 3) : Outs m k h h' := fun c o hc q => e c o (fun z => by have z' : (c : Nat) = x := z; omega) q

/-- within a turn: j iterators have gone on -/
structure ZMid (m : Nat) (ss : List Sk) (i j : Nat) (f0 : Value) (f : Bool) (vs : Array Value) (P : Nat → Value → Prop) (h0 h : Heap) : Prop where
  z : ZipObj h (m + ss.length + 2) (m + ss.length) (m + ss.length + 1) f0 f
  ti : TupAt h (m + ss.length) (itsAt m ss.length)
  sz : vs.size = ss.length
  to : TupAt h (m + ss.length + 1) vs
  it : ∀ (j' : Nat) (sk : Sk), ss[j']? = some sk → sk.at (m + j') (if j' < j then i + 1 else i) h
  out : Outs m ss.length h0 h
  size : h.objs.size = h0.objs.size
theorem len_of {α : Type} {l : List α} {j : Nat} {a : α} (h : l[j]? = some a) : j < l.length := (List.getElem?_eq_some_iff.mp h).1
/-- one iterator goes on -/
theorem ZMid.drawn {m i j : Nat} {ss : List Sk} {f0 : Value} {f : Bool} {vs : Array Value} {P : Nat → Value → Prop} {h0 h h' : Heap} (Z : ZMid m ss i j f0 f vs P h0 h) {sk : Sk} (e : ss[j]? = some sk) (st : sk.at (m + j) (i + 1) h') (hs : Heap.SameBut (m + j : Nat) h h') :
    ZMid m ss i (j + 1) f0 f vs P h0 h' := by
  have hj := len_of e
  refine ⟨hs.extBut _ _ (by first | omega | exact ane (by intro z; omega)) Z.z, hs.extBut _ _ (by first | omega | exact ane (by intro z; omega)) Z.ti, Z.sz, hs.extBut _ _ (by first | omega | exact ane (by intro z; omega)) Z.to, fun j' sk' e' => ?_, Z.out.trans (Outs.ext hs.extBut (by first | omega | exact ane (by intro z; omega)) (by first | omega | exact ane (by intro z; omega))), hs.1.trans Z.size⟩
  by_cases hc : j' = j
  · subst hc
    rw [e] at e'
    cases e'
    rw [if_pos (show j' < j' + 1 by omega)]
    exact st
  · have q := (Z.it j' sk' e').over hs.extBut (by first | omega | exact ane (by intro z; omega))
    by_cases hl : j' < j
    · rw [if_pos (show j' < j + 1 by omega)]
      rw [if_pos hl] at q
      exact q
    · rw [if_neg (show ¬ j' < j + 1 by omega)]
      rw [if_neg hl] at q
      exact q
/-- one cell of the owned tuple is written -/
theorem ZMid.wrote {m i j : Nat} {ss : List Sk} {f0 : Value} {f : Bool} {vs vs' : Array Value} {P : Nat → Value → Prop} {h0 h h' : Heap} (Z : ZMid m ss i j f0 f vs P h0 h) (st : TupAt h' (m + ss.length + 1) vs') (sz : vs'.size = ss.length) (hs : Heap.SameBut (m + ss.length + 1 : Nat) h h') :
    ZMid m ss i j f0 f vs' P h0 h' := by
  refine ⟨hs.extBut _ _ (by first | omega | exact ane (by intro z; omega)) Z.z, hs.extBut _ _ (by first | omega | exact ane (by intro z; omega)) Z.ti, sz, st, fun j' sk' e' => ?_, Z.out.trans (Outs.ext hs.extBut (by first | omega | exact ane (by intro z; omega)) (by first | omega | exact ane (by intro z; omega))), hs.1.trans Z.size⟩
  have hj := len_of e'
  exact (Z.it j' sk' e').over hs.extBut (by first | omega | exact ane (by intro z; omega))
/-- the zip itself is written -/
theorem ZMid.own {m i j : Nat} {ss : List Sk} {f0 f1 : Value} {f f' : Bool} {vs : Array Value} {P : Nat → Value → Prop} {h0 h h' : Heap} (Z : ZMid m ss i j f0 f vs P h0 h) (st : ZipObj h' (m + ss.length + 2) (m + ss.length) (m + ss.length + 1) f1 f') (hs : Heap.SameBut (m + ss.length + 2 : Nat) h h') :
    ZMid m ss i j f1 f' vs P h0 h' := by
  refine ⟨st, hs.extBut _ _ (by first | omega | exact ane (by intro z; omega)) Z.ti, Z.sz, hs.extBut _ _ (by first | omega | exact ane (by intro z; omega)) Z.to, fun j' sk' e' => ?_, Z.out.trans (Outs.ext hs.extBut (by first | omega | exact ane (by intro z; omega)) (by first | omega | exact ane (by intro z; omega))), hs.1.trans Z.size⟩
  have hj := len_of e'
  exact (Z.it j' sk' e').over hs.extBut (by first | omega | exact ane (by intro z; omega))
theorem ZSt.mid {m i : Nat} {ss : List Sk} {h : Heap} {f0 : Value} {f : Bool} (Z : ZSt m ss i h) {vs : Array Value} (P : Nat → Value → Prop) (hz : ZipObj h (m + ss.length + 2) (m + ss.length) (m + ss.length + 1) f0 f) (sz : vs.size = ss.length) (to : TupAt h (m + ss.length + 1) vs) :
    ZMid m ss i 0 f0 f vs P h h := ⟨hz, Z.ti, sz, to, fun j sk e => by rw [if_neg (Nat.not_lt_zero j)]; exact Z.it j sk e, Outs.refl _ _ _, rfl⟩
theorem ZMid.ends {m i : Nat} {ss : List Sk} {h0 h h' : Heap} {f0 f1 : Value} {f f' : Bool} {vs : Array Value} {P : Nat → Value → Prop} (Z : ZMid m ss i ss.length f0 f vs P h0 h) (st : ZipObj h' (m + ss.length + 2) (m + ss.length) (m + ss.length + 1) f1 f')
    (hf : f1 = .none ∨ ∃ T : Nat, f1 = rawInt T) (hs : Heap.ExtBut (m + ss.length + 2 : Nat) h h') : ZSt m ss (i + 1) h' := by
  refine ⟨⟨f1, f', st, hf⟩, hs _ _ (by first | omega | exact ane (by intro z; omega)) Z.ti, ⟨vs, Z.sz, hs _ _ (by first | omega | exact ane (by intro z; omega)) Z.to⟩, fun j sk e => ?_⟩
  have hj := len_of e
  have q := (Z.it j sk e).over hs (by first | omega | exact ane (by intro z; omega))
  rw [if_pos hj] at q
  exact q
theorem gives_out {m k i : Nat} {sk : Sk} {h h' : Heap} {P : Value → Prop} (ap : ∀ c : Nat, m ≤ c → sk.apart c) (g : sk.gives h i P) (o : Outs m k h h') : sk.gives h' i P := by
  have lt : ∀ a : Nat, (∀ c : Nat, m ≤ c → a ≠ c) → a < m := fun a h => Nat.lt_of_not_le fun q => h a q rfl
  cases sk with
  | lst a =>
    obtain ⟨its, v, l, r⟩ := g
    exact ⟨its, v, l.at fun ob e => o a ob (.inl (lt a ap)) e, r⟩
  | tup a =>
    obtain ⟨its, v, l, r⟩ := g
    obtain ⟨ob, e, q⟩ := l
    exact ⟨its, v, ⟨ob, o a ob (.inl (lt a ap)) e, q⟩, r⟩
  | asc z t => exact g
  | wid z t => exact g
theorem ends_out {m k i : Nat} {sk : Sk} {h h' : Heap} (ap : ∀ c : Nat, m ≤ c → sk.apart c) (g : sk.ends h i) (o : Outs m k h h') : sk.ends h' i := by
  have lt : ∀ a : Nat, (∀ c : Nat, m ≤ c → a ≠ c) → a < m := fun a h => Nat.lt_of_not_le fun q => h a q rfl
  cases sk with
  | lst a =>
    obtain ⟨its, l, r⟩ := g
    exact ⟨its, l.at fun ob e => o a ob (.inl (lt a ap)) e, r⟩
  | tup a =>
    obtain ⟨its, l, r⟩ := g
    obtain ⟨ob, e, q⟩ := l
    exact ⟨its, ⟨ob, o a ob (.inl (lt a ap)) e, q⟩, r⟩
  | asc z t => exact g
  | wid z t => exact g
theorem zipIdx_get {α : Type} {l : List α} {j : Nat} {p : α × Nat} (h : l.zipIdx[j]? = some p) : l[j]? = some p.1 ∧ p.2 = j := by
  rw [List.getElem?_zipIdx] at h
  obtain ⟨a, e, rfl⟩ := Option.map_eq_some_iff.mp h
  exact ⟨e, by simp⟩
theorem tup_set {T k : Nat} {vs : Array Value} {x : Value} {Q : Unit → Shared → Prop} (hT : TupAt s.heap T vs) (hl : vs.size ≤ 1000)
    (h : ∀ h', TupAt h' T (vs.setIfInBounds k x) → Heap.SameBut T s.heap h' → Q () { s with heap := h' }) : wpAny (model prog w) A (updateSeq T (·.setIfInBounds k x)) Q E s := by
  refine wpAny_updateSeq hT rfl (h _ ?_ (Heap.SameBut.update ..)) (Nat.le_trans hl (by decide)) (by rw [Array.size_setIfInBounds]; exact Nat.le_trans hl (by decide))
  unfold TupAt
  rw [Heap.get?_update_self _ hT rfl]
  simp [Obj.mapSeq]

theorem zip_item {m i : Nat} {ss : List Sk} {P : Nat → Value → Prop} {Q : Value → Shared → Prop} (hk : 0 < ss.length) (hl : ss.length ≤ 1000) (ap : ∀ sk : Sk, sk ∈ ss → ∀ c : Nat, m ≤ c → sk.apart c) (Z : ZSt m ss i s.heap)
    (g : ∀ (j : Nat) (sk : Sk), ss[j]? = some sk → sk.gives s.heap i (P j))
    (hQ : ∀ vs h' tk, vs.size = ss.length → (∀ j u, vs[j]? = some u → P j u) → ZSt m ss (i + 1) h' → TupAt h' s.heap.objs.size vs → Outs m ss.length s.heap h' → Q (.ref s.heap.objs.size) { s with heap := h', toks := tk }) :
    wpAny (model prog w) A (Builtin.«zip.__next__» ⟨[.ref (m + ss.length + 2 : Nat)], []⟩) (fun fin s' => ∃ v, fin = .done (.ret v) ∧ Q v s') E s := by
  obtain ⟨hp, gg, d, tk0, os⟩ := s
  obtain ⟨f0, f, hz, hf⟩ := Z.z
  obtain ⟨vs0, sz0, to0⟩ := Z.to
  have hzl : (m + ss.length + 2 : Nat) < hp.objs.size := Heap.lt_size hz
  show wpAny _ _ (field (.ref (m + ss.length + 2 : Nat)) 2 >>= _) _ _ _
  refine wpAny_bind (wpAny_field hz rfl (x := .bool false) rfl ?_)
  show wpAny _ _ (field (.ref (m + ss.length + 2 : Nat)) 3 >>= _) _ _ _
  refine wpAny_bind (wpAny_field hz rfl (x := .ref (m + ss.length : Nat)) rfl ?_)
  refine wpAny_bind (wpAny_seqItems Z.ti rfl ?_)
  have hne : (itsAt m ss.length).isEmpty = false := by
    rw [Array.isEmpty_eq_false_iff]
    intro z
    have := itsAt_len (m := m) (k := ss.length)
    rw [z] at this
    simp at this
    omega
  simp only [hne, Bool.false_eq_true, if_false]
  refine wpAny_bind (free_any hz hf ?_ fun h1 hz1 hT hs1 => ?_)
  · -- the owned tuple
    simp only [if_true]
    refine wpAny_bind (wpAny_rule ?_)
    refine wpAny_bind (wpAny_field hz rfl (x := .ref (m + ss.length + 1 : Nat)) rfl ?_)
    refine wpAny_bind (wpAny_setField_rec hz (by simp) fun g0 hz0 hs0 => ?_)
    have M0 : ZMid m ss i 0 .ellipsis f vs0 P hp g0 := (Z.mid P hz sz0 to0).own hz0 hs0
    refine wpAny_bind ?_
    refine forIn_run (fun j b s' => b = _ ∧ ∃ h' tk vs, s' = ⟨h', gg, d, tk, os⟩ ∧ ZMid m ss i j .ellipsis f vs P hp h' ∧ ∀ j', j' < j → ∃ u, vs[j']? = some u ∧ P j' u) (j := 0) ⟨rfl, g0, tk0, vs0, rfl, M0, fun j' z => absurd z (Nat.not_lt_zero _)⟩ ?_ ?_
    · rintro n ⟨v, j⟩ b s' e ⟨rfl, h', tk, vs, rfl, M, hv⟩
      obtain ⟨e1, e2⟩ := zipIdx_get e
      obtain ⟨hj, ev⟩ := itsAt_get e1
      dsimp only at e2 ev
      subst e2 ev
      rw [Nat.zero_add] at M hv ⊢
      obtain ⟨sk, hsk⟩ : ∃ sk, ss[j]? = some sk := ⟨_, List.getElem?_eq_getElem hj⟩
      have st := M.it j sk hsk
      rw [if_neg (Nat.lt_irrefl _)] at st
      have gv := gives_out (ap sk (List.mem_of_getElem? hsk)) (g j sk hsk) M.out
      refine wpAny_bind (wpAny_onRaise ?_)
      show wpAny _ _ (Builtin.SmallTypes.nextOf (.ref (m + j : Nat)) >>= _) _ _ ⟨h', gg, d, tk, os⟩
      refine wpAny_bind (draw_item (s := ⟨h', gg, d, tk, os⟩) st gv fun u h1 tk1 pu st1 hs1 => wpAny_pure ?_)
      have M1 := M.drawn hsk st1 hs1
      refine wpAny_bind (wpAny_seqItems (s := ⟨h1, gg, d, tk1, os⟩) M1.to rfl ?_)
      refine wpAny_bind (tup_set (s := ⟨h1, gg, d, tk1, os⟩) M1.to (by rw [M1.sz]; exact hl) fun h2 hT2 hs2 => ?_)
      have M2 := M1.wrote hT2 (by rw [Array.size_setIfInBounds]; exact M1.sz) hs2
      refine wpAny_bind (wpAny_letGo (wpAny_pure ⟨_, rfl, rfl, h2, tk1, _, rfl, M2, fun j' hj' => ?_⟩))
      by_cases ej : j' = j
      · subst ej
        refine ⟨u, ?_, pu⟩
        rw [Array.getElem?_setIfInBounds, if_pos rfl, if_pos (by rw [M1.sz]; exact hj)]
      · obtain ⟨u', e', p'⟩ := hv j' (by omega)
        refine ⟨u', ?_, p'⟩
        rw [Array.getElem?_setIfInBounds, if_neg (Ne.symm ej)]
        exact e'
    · rintro b s' ⟨rfl, h', tk, vs, rfl, M, hv⟩
      rw [Nat.zero_add, List.length_zipIdx, itsAt_len] at M hv
      show wpAny _ _ (seqItems? (.ref (m + ss.length + 1 : Nat)) >>= _) _ _ _
      refine wpAny_bind (wpAny_seqItems (s := ⟨h', gg, d, tk, os⟩) M.to rfl ?_)
      refine wpAny_bind (wpAny_newTuple ?_ (by rw [Array.length_toList, M.sz]; exact Nat.le_trans hl (by decide)))
      show wpAny _ _ (Builtin.SmallTypes.ownedTupleHandOut (.ref (m + ss.length + 2 : Nat)) (.ref h'.objs.size) >>= _) _ _ _
      refine wpAny_bind ?_
      unfold Builtin.SmallTypes.ownedTupleHandOut
      have hz6 : ZipObj (h'.push { cls := .type "tuple", data := .seq vs.toList.toArray }) (m + ss.length + 2) (m + ss.length) (m + ss.length + 1) .ellipsis f := Heap.get?_push_of_some _ M.z
      refine wpAny_bind (wpAny_setField_rec hz6 (by simp) fun h7 hz7 hs7 => ?_)
      replace hz7 : ZipObj h7 (m + ss.length + 2) (m + ss.length) (m + ss.length + 1) (rawInt h'.objs.size) f := hz7
      refine wpAny_setField_rec hz7 (by simp) fun h8 hz8 hs8 => ?_
      replace hz8 : ZipObj h8 (m + ss.length + 2) (m + ss.length) (m + ss.length + 1) (rawInt h'.objs.size) false := hz8
      have up : Heap.ExtBut (m + ss.length + 2 : Nat) h' h8 := fun c o c1 e => hs8.extBut _ _ c1 (hs7.extBut _ _ c1 (Heap.get?_push_of_some _ e))
      have hsz : h'.objs.size = hp.objs.size := M.size
      have hT8 : TupAt h8 hp.objs.size vs := by
        have z : (h'.push { cls := .type "tuple", data := .seq vs.toList.toArray }).get? h'.objs.size = some { cls := .type "tuple", data := .seq vs.toList.toArray } := Heap.get?_push_size _ rfl
        rw [hsz] at z
        have z2 := hs8.extBut _ _ (show (hp.objs.size : Nat) ≠ m + ss.length + 2 by omega) (hs7.extBut _ _ (show (hp.objs.size : Nat) ≠ m + ss.length + 2 by omega) z)
        simpa using z2
      refine wpAny_pure ⟨_, rfl, ?_⟩
      show Q (.ref h'.objs.size) ⟨h8, gg, d, tk, os⟩
      rw [hsz]
      refine hQ vs h8 tk M.sz (fun j u e => ?_) (M.ends hz8 (.inr ⟨_, rfl⟩) up) hT8 (M.out.trans (Outs.ext up (by omega) (by omega)))
      obtain ⟨u', e', p'⟩ := hv j (by rw [← M.sz]; exact (Array.getElem?_eq_some_iff.mp e).1)
      rw [e] at e'
      cases e'
      exact p'
  · simp only [Bool.false_eq_true, if_false]
    have M0 : ZMid m ss i 0 f0 true vs0 P hp h1 := (Z.mid P hz sz0 to0).own hz1 hs1
    refine wpAny_bind ?_
    rw [← Array.forIn_toList]
    refine forIn_run (fun j b s' => ∃ (items : Array Value) (h' : Heap) (tk : Nat), b = (none, items) ∧ s' = ⟨h', gg, d, tk, os⟩ ∧ ZMid m ss i j f0 true vs0 P hp h' ∧ items.size = j ∧ ∀ j' u, items[j']? = some u → P j' u) (j := 0)
      ⟨#[], h1, tk0, rfl, rfl, M0, rfl, fun j' u z => by simp at z⟩ ?_ ?_
    · rintro j v b s' e ⟨items, h', tk, rfl, rfl, M, hsz, hv⟩
      obtain ⟨hj, rfl⟩ := itsAt_get e
      rw [Nat.zero_add] at M hsz ⊢
      obtain ⟨sk, hsk⟩ : ∃ sk, ss[j]? = some sk := ⟨_, List.getElem?_eq_getElem hj⟩
      have st := M.it j sk hsk
      rw [if_neg (Nat.lt_irrefl _)] at st
      have gv := gives_out (ap sk (List.mem_of_getElem? hsk)) (g j sk hsk) M.out
      refine wpAny_bind (wpAny_holding ?_)
      show wpAny _ _ (Builtin.SmallTypes.nextOf (.ref (m + j : Nat)) >>= _) _ _ ⟨h', gg, d, tk, os⟩
      refine wpAny_bind (draw_item (s := ⟨h', gg, d, tk, os⟩) st gv fun u h2 tk1 pu st1 hs2 => wpAny_pure ?_)
      have M1 := M.drawn hsk st1 hs2
      refine wpAny_pure ⟨_, rfl, items.push u, h2, tk1, rfl, rfl, M1, by rw [Array.size_push, hsz], fun j' u' e' => ?_⟩
      rw [Array.getElem?_push] at e'
      by_cases ej : j' = items.size
      · rw [if_pos ej] at e'
        cases e'
        rw [ej, hsz]
        exact pu
      · rw [if_neg ej] at e'
        exact hv j' u' e'
    · rintro b s' ⟨items, h', tk, rfl, rfl, M, hsz, hv⟩
      rw [Nat.zero_add, itsAt_len] at M hsz
      dsimp only
      refine wpAny_bind (wpAny_newTuple ?_ (by rw [Array.length_toList, hsz]; exact Nat.le_trans hl (by decide)))
      have es : h'.objs.size = hp.objs.size := M.size
      refine wpAny_pure ⟨_, rfl, ?_⟩
      show Q (.ref h'.objs.size) ⟨h'.push { cls := .type "tuple", data := .seq items.toList.toArray }, gg, d, tk, os⟩
      have up : Heap.ExtBut (m + ss.length + 2 : Nat) h' (h'.push { cls := .type "tuple", data := .seq items.toList.toArray }) := fun c o _ e => Heap.get?_push_of_some _ e
      have hT8 : TupAt (h'.push { cls := .type "tuple", data := .seq items.toList.toArray }) h'.objs.size items := by
        have z : (h'.push { cls := .type "tuple", data := .seq items.toList.toArray }).get? h'.objs.size = some { cls := .type "tuple", data := .seq items.toList.toArray } := Heap.get?_push_size _ rfl
        simpa using z
      rw [es] at hT8 ⊢
      exact hQ items _ tk hsz hv (M.ends (Heap.get?_push_of_some _ M.z) (.inr hT) up) hT8 (M.out.trans (Outs.ext up (by omega) (by omega)))

theorem zip_end {m i : Nat} {ss : List Sk} {Q : Fin → Shared → Prop} (hh : A.handled = none) (hl : ss.length ≤ 1000) (ap : ∀ sk : Sk, sk ∈ ss → ∀ c : Nat, m ≤ c → sk.apart c) (Z : ZSt m ss i s.heap)
    (j0 : Nat) (hj0 : j0 < ss.length) (g : ∀ (j : Nat) (sk : Sk), j < j0 → ss[j]? = some sk → sk.gives s.heap i (fun _ => True)) (ge : ∀ sk : Sk, ss[j0]? = some sk → sk.ends s.heap i)
    (hE : ∀ h' e tk, Outs m ss.length s.heap h' → (∃ o, h'.get? e = some o ∧ o.cls = .type "StopIteration") → E (.ref e) { s with heap := h', toks := tk }) :
    wpAny (model prog w) A (Builtin.«zip.__next__» ⟨[.ref (m + ss.length + 2 : Nat)], []⟩) Q E s := by
  obtain ⟨hp, gg, d, tk0, os⟩ := s
  obtain ⟨f0, f, hz, hf⟩ := Z.z
  obtain ⟨vs0, sz0, to0⟩ := Z.to
  have hzl : (m + ss.length + 2 : Nat) < hp.objs.size := Heap.lt_size hz
  show wpAny _ _ (field (.ref (m + ss.length + 2 : Nat)) 2 >>= _) _ _ _
  refine wpAny_bind (wpAny_field hz rfl (x := .bool false) rfl ?_)
  show wpAny _ _ (field (.ref (m + ss.length + 2 : Nat)) 3 >>= _) _ _ _
  refine wpAny_bind (wpAny_field hz rfl (x := .ref (m + ss.length : Nat)) rfl ?_)
  refine wpAny_bind (wpAny_seqItems Z.ti rfl ?_)
  have hne : (itsAt m ss.length).isEmpty = false := by
    rw [Array.isEmpty_eq_false_iff]
    intro z
    have := itsAt_len (m := m) (k := ss.length)
    rw [z] at this
    simp at this
    omega
  simp only [hne, Bool.false_eq_true, if_false]
  refine wpAny_bind (free_any hz hf ?_ fun h1 hz1 hT hs1 => ?_)
  · simp only [if_true]
    refine wpAny_bind (wpAny_rule ?_)
    refine wpAny_bind (wpAny_field hz rfl (x := .ref (m + ss.length + 1 : Nat)) rfl ?_)
    refine wpAny_bind (wpAny_setField_rec hz (by simp) fun g0 hz0 hs0 => ?_)
    have M0 : ZMid m ss i 0 .ellipsis f vs0 (fun _ _ => True) hp g0 := (Z.mid _ hz sz0 to0).own hz0 hs0
    refine wpAny_bind ?_
    refine forIn_raise (fun j b s' => b = _ ∧ ∃ h' tk vs, s' = ⟨h', gg, d, tk, os⟩ ∧ ZMid m ss i j .ellipsis f vs (fun _ _ => True) hp h') j0 (j := 0) ⟨rfl, g0, tk0, vs0, rfl, M0⟩ (Nat.zero_le _) (by rw [Nat.zero_add, List.length_zipIdx, itsAt_len]; exact hj0) ?_ ?_
    · rintro n ⟨v, j⟩ b s' e hlt ⟨rfl, h', tk, vs, rfl, M⟩
      obtain ⟨e1, e2⟩ := zipIdx_get e
      obtain ⟨hj, ev⟩ := itsAt_get e1
      dsimp only at e2 ev
      subst e2 ev
      rw [Nat.zero_add] at M hlt ⊢
      obtain ⟨sk, hsk⟩ : ∃ sk, ss[j]? = some sk := ⟨_, List.getElem?_eq_getElem hj⟩
      have st := M.it j sk hsk
      rw [if_neg (Nat.lt_irrefl _)] at st
      have gv := gives_out (ap sk (List.mem_of_getElem? hsk)) (g j sk hlt hsk) M.out
      refine wpAny_bind (wpAny_onRaise ?_)
      show wpAny _ _ (Builtin.SmallTypes.nextOf (.ref (m + j : Nat)) >>= _) _ _ ⟨h', gg, d, tk, os⟩
      refine wpAny_bind (draw_item (s := ⟨h', gg, d, tk, os⟩) st gv fun u h1 tk1 pu st1 hs1 => wpAny_pure ?_)
      have M1 := M.drawn hsk st1 hs1
      refine wpAny_bind (wpAny_seqItems (s := ⟨h1, gg, d, tk1, os⟩) M1.to rfl ?_)
      refine wpAny_bind (tup_set (s := ⟨h1, gg, d, tk1, os⟩) M1.to (by rw [M1.sz]; exact hl) fun h2 hT2 hs2 => ?_)
      have M2 := M1.wrote hT2 (by rw [Array.size_setIfInBounds]; exact M1.sz) hs2
      exact wpAny_bind (wpAny_letGo (wpAny_pure ⟨_, rfl, rfl, h2, tk1, _, rfl, M2⟩))
    · rintro n ⟨v, j⟩ b s' e hlt ⟨rfl, h', tk, vs, rfl, M⟩
      obtain ⟨e1, e2⟩ := zipIdx_get e
      obtain ⟨hj, ev⟩ := itsAt_get e1
      dsimp only at e2 ev
      subst e2 ev
      rw [Nat.zero_add] at hlt
      subst hlt
      obtain ⟨sk, hsk⟩ : ∃ sk, ss[j]? = some sk := ⟨_, List.getElem?_eq_getElem hj⟩
      have st := M.it j sk hsk
      rw [if_neg (Nat.lt_irrefl _)] at st
      have gv := ends_out (ap sk (List.mem_of_getElem? hsk)) (ge sk hsk) M.out
      refine wpAny_bind (wpAny_onRaise ?_)
      show wpAny _ _ (Builtin.SmallTypes.nextOf (.ref (m + j : Nat)) >>= _) _ _ ⟨h', gg, d, tk, os⟩
      refine wpAny_bind (draw_end (s := ⟨h', gg, d, tk, os⟩) hh st gv fun h1 ex he hx => ?_)
      obtain ⟨oe, hoe, hce⟩ := hx
      have hzq : ZipObj h1 (m + ss.length + 2) (m + ss.length) (m + ss.length + 1) .ellipsis f := he _ _ (by first | omega | exact ane (by intro z; omega)) M.z
      have hez : ex ≠ (m + ss.length + 2 : Nat) := fun x => by
        subst x
        rw [hzq] at hoe
        cases hoe
        simp at hce
      refine wpAny_setField_rec (s := ⟨h1, gg, d, tk, os⟩) hzq (by simp) fun q' _ hq' => ?_
      exact hE q' ex tk (M.out.trans ((Outs.ext he (by omega) (by omega)).trans (Outs.ext hq'.extBut (by omega) (by omega)))) ⟨oe, hq'.extBut _ _ hez hoe, hce⟩
  · simp only [Bool.false_eq_true, if_false]
    have M0 : ZMid m ss i 0 f0 true vs0 (fun _ _ => True) hp h1 := (Z.mid _ hz sz0 to0).own hz1 hs1
    refine wpAny_bind ?_
    rw [← Array.forIn_toList]
    refine forIn_raise (fun j b s' => ∃ (items : Array Value) (h' : Heap) (tk : Nat), b = (none, items) ∧ s' = ⟨h', gg, d, tk, os⟩ ∧ ZMid m ss i j f0 true vs0 (fun _ _ => True) hp h') j0 (j := 0)
      ⟨#[], h1, tk0, rfl, rfl, M0⟩ (Nat.zero_le _) (by rw [Nat.zero_add, itsAt_len]; exact hj0) ?_ ?_
    · rintro j v b s' e hlt ⟨items, h', tk, rfl, rfl, M⟩
      obtain ⟨hj, rfl⟩ := itsAt_get e
      rw [Nat.zero_add] at M hlt ⊢
      obtain ⟨sk, hsk⟩ : ∃ sk, ss[j]? = some sk := ⟨_, List.getElem?_eq_getElem hj⟩
      have st := M.it j sk hsk
      rw [if_neg (Nat.lt_irrefl _)] at st
      have gv := gives_out (ap sk (List.mem_of_getElem? hsk)) (g j sk hlt hsk) M.out
      refine wpAny_bind (wpAny_holding ?_)
      show wpAny _ _ (Builtin.SmallTypes.nextOf (.ref (m + j : Nat)) >>= _) _ _ ⟨h', gg, d, tk, os⟩
      refine wpAny_bind (draw_item (s := ⟨h', gg, d, tk, os⟩) st gv fun u h2 tk1 pu st1 hs2 => wpAny_pure ?_)
      exact wpAny_pure ⟨_, rfl, items.push u, h2, tk1, rfl, rfl, M.drawn hsk st1 hs2⟩
    · rintro n v b s' e hlt ⟨items, h', tk, rfl, rfl, M⟩
      obtain ⟨hj, rfl⟩ := itsAt_get e
      rw [Nat.zero_add] at hlt
      subst hlt
      obtain ⟨sk, hsk⟩ : ∃ sk, ss[n]? = some sk := ⟨_, List.getElem?_eq_getElem hj⟩
      have st := M.it n sk hsk
      rw [if_neg (Nat.lt_irrefl _)] at st
      have gv := ends_out (ap sk (List.mem_of_getElem? hsk)) (ge sk hsk) M.out
      refine wpAny_bind (wpAny_holding ?_)
      show wpAny _ _ (Builtin.SmallTypes.nextOf (.ref (m + n : Nat)) >>= _) _ _ ⟨h', gg, d, tk, os⟩
      refine wpAny_bind (draw_end (s := ⟨h', gg, d, tk, os⟩) hh st gv fun h2 ex he hx => ?_)
      exact hE h2 ex tk (M.out.trans (Outs.ext he (by omega) (by omega))) hx

theorem next_item {m i : Nat} {ss : List Sk} {P : Nat → Value → Prop} {Q : Option Value → Shared → Prop} (hk : 0 < ss.length) (hl : ss.length ≤ 1000) (ap : ∀ sk : Sk, sk ∈ ss → ∀ c : Nat, m ≤ c → sk.apart c) (Z : ZSt m ss i s.heap)
    (g : ∀ (j : Nat) (sk : Sk), ss[j]? = some sk → sk.gives s.heap i (P j))
    (hQ : ∀ vs h' tk, vs.size = ss.length → (∀ j u, vs[j]? = some u → P j u) → ZSt m ss (i + 1) h' → TupAt h' s.heap.objs.size vs → Outs m ss.length s.heap h' → Q (some (.ref s.heap.objs.size)) { s with heap := h', toks := tk }) :
    wpAny (model prog w) A (pyNext (.ref (m + ss.length + 2 : Nat))) Q E s := by
  have hT : s.TypeIs (.ref (m + ss.length + 2 : Nat)) "zip" := let ⟨f0, f, hz, _⟩ := Z.z; ⟨_, hz, rfl⟩
  unfold pyNext
  exact wpAny_bind (wpAny_attempt (wpAny_callSpecial?_slot (name := Str.ofString "__next__") hT F.slot_zip_next
    (wpAny_call_entry F.slot_zip_next hT F.entry_zip_next (zip_item hk hl ap Z g fun vs h' tk a b c d e => wpAny_pure (hQ vs h' tk a b c d e)) (F.args_zip_next_1 _))))
theorem next_end {m i : Nat} {ss : List Sk} {Q : Option Value → Shared → Prop} (hh : A.handled = none) (hl : ss.length ≤ 1000) (ap : ∀ sk : Sk, sk ∈ ss → ∀ c : Nat, m ≤ c → sk.apart c) (Z : ZSt m ss i s.heap)
    (j0 : Nat) (hj0 : j0 < ss.length) (g : ∀ (j : Nat) (sk : Sk), j < j0 → ss[j]? = some sk → sk.gives s.heap i (fun _ => True)) (ge : ∀ sk : Sk, ss[j0]? = some sk → sk.ends s.heap i)
    (hQ : ∀ h' tk, Outs m ss.length s.heap h' → Q none { s with heap := h', toks := tk }) :
    wpAny (model prog w) A (pyNext (.ref (m + ss.length + 2 : Nat))) Q E s := by
  have hT : s.TypeIs (.ref (m + ss.length + 2 : Nat)) "zip" := let ⟨f0, f, hz, _⟩ := Z.z; ⟨_, hz, rfl⟩
  unfold pyNext
  refine wpAny_bind (wpAny_attempt (wpAny_callSpecial?_slot (name := Str.ofString "__next__") hT F.slot_zip_next
    (wpAny_call_entry F.slot_zip_next hT F.entry_zip_next (zip_end hh hl ap Z j0 hj0 g ge fun h' e tk hk he => ?_) (F.args_zip_next_1 _))))
  obtain ⟨o, ho, hc⟩ := he
  refine wpAny_bind (wpAny_isInstance (T := "StopIteration") (b := true) ⟨o, ho, hc⟩ isSubtype_stop ?_)
  exact wpAny_pure (hQ _ _ hk)
/-- ahead of the store: the tuple that is unpacked is let go -/
theorem zip_go {tg : Expr} {m i : Nat} {ss : List Sk} {T : Addr} {Q : Unit → Shared → Prop} (Z : ZSt m ss i s.heap)
    (hQ : ∀ h', ZSt m ss i h' → Heap.SameBut (m + ss.length + 2 : Nat) s.heap h' → Q () { s with heap := h' }) : wpAny (model prog w) A (letOwnedTupleGo tg (.ref (m + ss.length + 2 : Nat)) (.ref T)) Q E s := by
  obtain ⟨f0, f, hz, hf⟩ := Z.z
  have q0 : Q () s := hQ s.heap Z (Heap.SameBut.refl _ _)
  have q1 : wpAny (model prog w) A (do
      let o ← load (m + ss.length + 2 : Nat)
      match o.cls, o.data with
      | .type n, .fields vs =>
        if ["enumerate", "zip", "dict_itemiterator", "dict_reverseitemiterator", "odict_iterator", "itertools.zip_longest", "itertools.pairwise"].contains n && vs[0]? == some (rawInt T) then
          rule "for.unpacks-the-owned-tuple"
          updateField (m + ss.length + 2 : Nat) 0 .none
      | _, _ => pure ()) Q E s := by
    refine wpAny_bind (wpAny_load hz ?_)
    show wpAny _ _ (if (true && (#[f0, Value.bool f, .bool false, .ref (m + ss.length : Nat), .ref (m + ss.length + 1 : Nat)] : Array Value)[0]? == some (rawInt T)) = true then _ else _) _ _ _
    by_cases hc : (true && (#[f0, Value.bool f, .bool false, .ref (m + ss.length : Nat), .ref (m + ss.length + 1 : Nat)] : Array Value)[0]? == some (rawInt T)) = true
    · rw [if_pos hc]
      refine wpAny_bind (wpAny_rule ?_)
      show wpAny _ _ (setField (.ref (m + ss.length + 2 : Nat)) 0 .none) Q E s
      refine wpAny_setField_rec hz (by simp) fun h' hz' hs' => hQ h' ?_ hs'
      refine ⟨⟨.none, f, hz', .inl rfl⟩, hs'.extBut _ _ (by first | omega | exact ane (by intro z; omega)) Z.ti, ?_, fun j sk e => ?_⟩
      · obtain ⟨vs, sz, to⟩ := Z.to
        exact ⟨vs, sz, hs'.extBut _ _ (by first | omega | exact ane (by intro z; omega)) to⟩
      · have hj := len_of e
        exact (Z.it j sk e).over hs'.extBut (by first | omega | exact ane (by intro z; omega))
    · rw [if_neg hc]
      exact wpAny_pure q0
  unfold letOwnedTupleGo
  cases tg <;> first
    | exact wpAny_pure q0
    | exact q1
end
end LZ

set_option Elab.async false
set_option linter.all false
set_option maxRecDepth 100000
set_option maxHeartbeats 2000000
namespace LZ
open PySem
open PySem.Sem (wp)
theorem typeCall_zip (us : List Value) : checkTypeCall "zip" ⟨us, []⟩ = pure () := by kernel_rfl
theorem newCall_zip (a : Value) (us : List Value) : checkBuiltinCall "zip.__new__" ⟨.type "zip" :: a :: us, []⟩ = pure () := by kernel_rfl
theorem args_init (a : Value) (us : List Value) : argsOk "object.__init__" ⟨a :: us, []⟩ := by
  unfold argsOk; rw [signature?_of (id := "object.__init__") (n := ['_', '_', 't', 'i', 'n', 'i', '_', '_']) (o := ['t', 'c', 'e', 'j', 'b', 'o']) (by kernel_rfl) F.owner_object]; kernel_rfl
/-- the value that is iterated over -/
def Sk.of : Sk → Value → Heap → Prop
  | .lst a, v, h => v = .ref a ∧ ∃ its, h.IsList a its
  | .tup a, v, h => v = .ref a ∧ ∃ its, h.IsTuple a its
  | .asc x t, v, _ => v = .str x t ∧ x.cps.all (· < 128) = true
  | .wid x t, v, _ => v = .str x t ∧ x.cps.all (· < 128) = false
theorem Sk.of.over {sk : Sk} {v : Value} {h h' : Heap} (p : sk.of v h) (k : ∀ c o, h.get? c = some o → h'.get? c = some o) : sk.of v h' := by
  cases sk with
  | lst a => exact let ⟨e, its, l⟩ := p; ⟨e, its, l.at fun o q => k _ o q⟩
  | tup a => exact let ⟨e, its, ⟨o, q, r⟩⟩ := p; ⟨e, its, ⟨o, k _ o q, r⟩⟩
  | asc z t => exact p
  | wid z t => exact p
section
variable {prog : Program} {w : World} {A : Around} {E : Value → Shared → Prop} {s : Shared}
theorem iter_any {sk : Sk} {v : Value} {Q : Value → Shared → Prop} (p : sk.of v s.heap) (h : ∀ o : Obj, sk.at s.heap.objs.size 0 (s.heap.push o) → (s.heap.push o).objs.size = s.heap.objs.size + 1 → Q (.ref s.heap.objs.size) { s with heap := s.heap.push o }) :
    wpAny (model prog w) A (pyIter v) Q E s := by
  have sz : ∀ o : Obj, (s.heap.push o).objs.size = s.heap.objs.size + 1 := fun o => Heap.size_push ..
  cases sk with
  | lst a =>
    obtain ⟨rfl, its, l⟩ := p
    exact wpAny_pyIter_list l (h _ ⟨_, Heap.get?_push_size _ rfl, rfl, rfl⟩ (sz _))
  | tup a =>
    obtain ⟨rfl, its, l⟩ := p
    exact wpAny_pyIter_tuple l (h _ ⟨_, Heap.get?_push_size _ rfl, rfl, rfl⟩ (sz _))
  | asc z t =>
    obtain ⟨rfl, l⟩ := p
    exact wpAny_pyIter_ascii l (h _ ⟨_, Heap.get?_push_size _ rfl, rfl, rfl⟩ (sz _))
  | wid z t =>
    obtain ⟨rfl, l⟩ := p
    exact wpAny_pyIter_wide l (h _ ⟨_, Heap.get?_push_size _ rfl, rfl, rfl⟩ (sz _))
theorem itsAt_push (m k : Nat) : (itsAt m k).push (.ref (m + k : Nat)) = itsAt m (k + 1) := by
  unfold itsAt
  rw [List.range_succ, List.map_append]
  simp
theorem iterAll_any {ss : List Sk} {us : List Value} {Q : List Value → Shared → Prop} (hl : ss.length = us.length) (hp : ∀ (j : Nat) (sk : Sk) v, ss[j]? = some sk → us[j]? = some v → sk.of v s.heap)
    (h : ∀ h', h'.objs.size = s.heap.objs.size + ss.length → (∀ (j : Nat) (sk : Sk), ss[j]? = some sk → sk.at (s.heap.objs.size + j) 0 h') → (∀ c o, s.heap.get? c = some o → h'.get? c = some o) → Q (itsAt s.heap.objs.size ss.length).toList { s with heap := h' }) :
    wpAny (model prog w) A (Builtin.SmallTypes.iterAll us) Q E s := by
  obtain ⟨hp0, gg, d, tk0, os⟩ := s
  unfold Builtin.SmallTypes.iterAll
  refine wpAny_bind ?_
  refine forIn_run (fun j b s' => b = itsAt hp0.objs.size j ∧ ∃ h', s' = ⟨h', gg, d, tk0, os⟩ ∧ h'.objs.size = hp0.objs.size + j ∧ (∀ c o, hp0.get? c = some o → h'.get? c = some o) ∧ ∀ (j' : Nat) (sk : Sk), j' < j → ss[j']? = some sk → sk.at (hp0.objs.size + j') 0 h') (j := 0)
    ⟨rfl, hp0, rfl, rfl, fun _ _ e => e, fun j' sk z => absurd z (Nat.not_lt_zero _)⟩ ?_ ?_
  · rintro j v b s' e ⟨rfl, h', rfl, hsz, hk, ha⟩
    rw [Nat.zero_add] at hsz ha ⊢
    have hj : j < ss.length := by rw [hl]; exact len_of e
    obtain ⟨sk, hsk⟩ : ∃ sk, ss[j]? = some sk := ⟨_, List.getElem?_eq_getElem hj⟩
    refine wpAny_bind (wpAny_holding (iter_any (sk := sk) (s := ⟨h', gg, d, tk0, os⟩) ((hp j sk v hsk e).over hk) fun o st sz => wpAny_pure ⟨_, rfl, ?_, h'.push o, rfl, ?_, fun c ob q => Heap.get?_push_of_some _ (hk c ob q), fun j' sk' hj' e' => ?_⟩))
    · show (itsAt hp0.objs.size j).push (.ref h'.objs.size) = _
      rw [hsz]
      exact itsAt_push _ _
    · rw [sz]
      show h'.objs.size + 1 = _
      rw [hsz]
      omega
    · by_cases ej : j' = j
      · subst ej
        rw [hsk] at e'
        cases e'
        rw [← hsz]
        exact st
      · have q := ha j' sk' (by omega) e'
        have lt : hp0.objs.size + j' ≠ h'.objs.size := by rw [hsz]; omega
        exact q.over (x := h'.objs.size) (fun c ob _ z => Heap.get?_push_of_some _ z) lt
  · rintro b s' ⟨rfl, h', rfl, hsz, hk, ha⟩
    rw [Nat.zero_add, ← hl] at hsz ha ⊢
    exact wpAny_pure (h h' hsz (fun j sk e => ha j sk (len_of e) e) hk)
theorem size_itsAt {m k : Nat} : (itsAt m k).size = k := by simp [itsAt]
theorem meets_zip {ss : List Sk} (us : List Value) :
    Meets (Builtin.«zip.__new__» ⟨.type "zip" :: us, []⟩) (fun _ R s => (ss.length = us.length ∧ ss.length ≤ 1000) ∧ (∀ (j : Nat) (sk : Sk) v, ss[j]? = some sk → us[j]? = some v → sk.of v s.heap) ∧
      ∀ h', ZSt s.heap.objs.size ss 0 h' → (∀ c o, s.heap.get? c = some o → h'.get? c = some o) → R (.ok (.ret (.ref (s.heap.objs.size + ss.length + 2 : Nat)))) { s with heap := h' }) :=
  .of_wp fun prog w A R s h => by
    obtain ⟨⟨hl, h1000⟩, hp, h⟩ := h
    obtain ⟨hp0, gg, d, tk0, os⟩ := s
    have hsub := sub_zip
    have e0 : Builtin.SmallTypes.newClass "zip" ⟨.type "zip" :: us, []⟩ = pure (.type "zip", us) := by
      unfold Builtin.SmallTypes.newClass
      simp only [show isType (.type "zip") = pure true from rfl, pure_bind, hsub]
      rfl
    unfold Builtin.«zip.__new__»
    refine wpAny_bind (wpAny_of_eq e0 ?_)
    dsimp only
    refine wpAny_bind (iterAll_any (s := ⟨hp0, gg, d, tk0, os⟩) hl hp fun h' hsz ha hk => ?_)
    refine wpAny_bind (wpAny_newTuple ?_ (by rw [Array.length_toList, size_itsAt]; exact Nat.le_trans h1000 (by decide)))
    refine wpAny_bind (wpAny_newTuple ?_ (by rw [List.length_map, Array.length_toList, size_itsAt]; exact Nat.le_trans h1000 (by decide)))
    show wpAny _ _ (newObj (.type "zip") (.fields #[.none, .bool false, .bool false, _, _]) >>= _) _ _ _
    refine wpAny_bind (wpAny_newObj_type (wpAny_pure ⟨_, rfl, ?_⟩) (by size_fits))
    have s1 : ∀ o : Obj, (h'.push o).objs.size = hp0.objs.size + ss.length + 1 := fun o => by rw [Heap.size_push, hsz]
    have s2 : ∀ o o2 : Obj, ((h'.push o).push o2).objs.size = hp0.objs.size + ss.length + 2 := fun o o2 => by rw [Heap.size_push, s1]
    have k3 : ∀ (o o2 o3 : Obj) c ob, h'.get? c = some ob → (((h'.push o).push o2).push o3).get? c = some ob := fun o o2 o3 c ob q => Heap.get?_push_of_some _ (Heap.get?_push_of_some _ (Heap.get?_push_of_some _ q))
    have g3 : ∀ o o2 o3 : Obj, o3.isFreed = false → (((h'.push o).push o2).push o3).get? (hp0.objs.size + ss.length + 2 : Nat) = some o3 := fun o o2 o3 hf => by
      rw [← s2 o o2]
      exact Heap.get?_push_size _ hf
    have g2 : ∀ o o2 o3 : Obj, o2.isFreed = false → (((h'.push o).push o2).push o3).get? (hp0.objs.size + ss.length + 1 : Nat) = some o2 := fun o o2 o3 hf => by
      refine Heap.get?_push_of_some _ ?_
      rw [← s1 o]
      exact Heap.get?_push_size _ hf
    have g1 : ∀ o o2 o3 : Obj, o.isFreed = false → (((h'.push o).push o2).push o3).get? (hp0.objs.size + ss.length : Nat) = some o := fun o o2 o3 hf => by
      refine Heap.get?_push_of_some _ (Heap.get?_push_of_some _ ?_)
      rw [← hsz]
      exact Heap.get?_push_size _ hf
    have r := h (((h'.push { cls := .type "tuple", data := .seq (itsAt hp0.objs.size ss.length).toList.toArray }).push { cls := .type "tuple", data := .seq ((itsAt hp0.objs.size ss.length).toList.map fun _ => Value.none).toArray }).push
      { cls := .type "zip", data := .fields #[.none, .bool false, .bool false, .ref (hp0.objs.size + ss.length : Nat), .ref (hp0.objs.size + ss.length + 1 : Nat)] })
      ⟨⟨.none, false, g3 _ _ _ rfl, .inl rfl⟩, by have z := g1 { cls := .type "tuple", data := .seq (itsAt hp0.objs.size ss.length).toList.toArray } { cls := .type "tuple", data := .seq ((itsAt hp0.objs.size ss.length).toList.map fun _ => Value.none).toArray } { cls := .type "zip", data := .fields #[.none, .bool false, .bool false, .ref (hp0.objs.size + ss.length : Nat), .ref (hp0.objs.size + ss.length + 1 : Nat)] } rfl; simpa using z,
        ⟨_, by rw [List.size_toArray, List.length_map, Array.length_toList, size_itsAt], g2 _ _ _ rfl⟩, fun j sk e => (ha j sk e).over (x := (hp0.objs.size + ss.length : Nat)) (fun c ob _ q => k3 _ _ _ c ob q) (by have := len_of e; show (hp0.objs.size + j : Nat) ≠ _; omega)⟩
      (fun c o q => k3 _ _ _ c o (hk c o q))
    simp only [s1, s2, hsz]
    exact r
theorem call_zipN {ss : List Sk} {us : List Value} {Q : Value → Shared → Prop} (hl : ss.length = us.length) (h0 : 0 < ss.length) (h1000 : ss.length ≤ 1000) (hp : ∀ (j : Nat) (sk : Sk) v, ss[j]? = some sk → us[j]? = some v → sk.of v s.heap)
    (h : ∀ h', ZSt s.heap.objs.size ss 0 h' → (∀ c o, s.heap.get? c = some o → h'.get? c = some o) → Q (.ref (s.heap.objs.size + ss.length + 2 : Nat)) { s with heap := h' }) :
    wpAny (model prog w) A (call (.type "zip") us) Q E s := by
  obtain ⟨u, us', rfl⟩ : ∃ u us', us = u :: us' := by
    cases us with
    | nil => rw [List.length_nil] at hl; omega
    | cons u us' => exact ⟨u, us', rfl⟩
  refine callType_new F.called_zip (by decide) (typeCall_zip _) (newCall_zip _ _) (fun obj => args_init obj _) F.entry_zip_new (meets_zip (ss := ss) _) ⟨⟨hl, h1000⟩, hp, fun h' Z k => ?_⟩
  obtain ⟨f0, f, hz, _⟩ := id Z.z
  exact ⟨⟨_, hz, rfl⟩, h h' Z k⟩
theorem iter_zip {m i : Nat} {ss : List Sk} {Q : Value → Shared → Prop} (Z : ZSt m ss i s.heap) (h : Q (.ref (m + ss.length + 2 : Nat)) s) : wpAny (model prog w) A (pyIter (.ref (m + ss.length + 2 : Nat))) Q E s := by
  have hT : s.TypeIs (.ref (m + ss.length + 2 : Nat)) "zip" := let ⟨f0, f, hz, _⟩ := Z.z; ⟨_, hz, rfl⟩
  refine wpAny_pyIter_slot hT F.slot_zip_iter (wpAny_call_entry F.slot_zip_iter hT F.entry_zip_iter ?_ (F.args_zip_iter_1 _))
  show wpAny _ _ (ret (.ref (m + ss.length + 2 : Nat))) _ _ s
  exact wpAny_pure ⟨_, rfl, "zip", _, hT, F.slot_zip_next.lookup, h⟩
end
end LZ

set_option Elab.async false
set_option linter.all false
set_option maxRecDepth 100000
set_option maxHeartbeats 2000000
/-! ZN3: zip of any number of lists, tuples and texts, in for and comprehensions, any target; zip( *e). -/
namespace LZ
open PySem PySem.Spec L2 LP
open PyProof.Rows hiding St signs

inductive Sv
  | lst (a : Addr)
  | tup (a : Addr)
  | str (x : Str)
def Sv.v : Sv → V
  | .lst a => .ref a
  | .tup a => .ref a
  | .str x => .str x
def Sv.has (K : PySem.W.Frag) (H : Hp) : Sv → List V → Prop
  | .lst a, xs => SqL K H a xs
  | .tup a, xs => SqT K H a xs
  | .str x, xs => xs = signs x
inductive Skv : Sv → Sk → Prop
  | lst (a : Addr) : Skv (.lst a) (.lst a)
  | tup (a : Addr) : Skv (.tup a) (.tup a)
  | asc (x : Str) (t : Tok) : Skv (.str x) (.asc x t)
  | wid (x : Str) (t : Tok) : Skv (.str x) (.wid x t)
theorem sign_at {x : Str} {i : Nat} {v : V} (h : (signs x)[i]? = some v) : ∃ c, x.cps[i]? = some c ∧ v = .str ⟨#[c]⟩ := by
  unfold signs at h
  rw [List.getElem?_map] at h
  obtain ⟨c, e, rfl⟩ := Option.map_eq_some_iff.mp h
  exact ⟨c, by simpa using e, rfl⟩
theorem sign_len (x : Str) : (signs x).length = x.cps.size := by simp [signs]
section
variable {X : Cx} {pins : List (Addr × Obj)} {σ : L2.St} {H : Hp} {s : Shared} {sv : Sv} {sk : Sk} {xs ys : List V} {i : Nat}
theorem sv_gives (I : Inv X pins σ H s) (r : Skv sv sk) (h : sv.has X.K H xs) {x : V} (e : xs[i]? = some x) : sk.gives s.heap i (fun u => RelV x u) := by
  cases r with
  | lst a =>
    obtain ⟨its, rv, p, _⟩ := I.list h
    obtain ⟨u, hu, ru⟩ := rv.get e
    exact ⟨_, u, p.isList, by simpa using hu, ru⟩
  | tup a =>
    obtain ⟨its, rv, p, _⟩ := I.tuple h
    obtain ⟨u, hu, ru⟩ := rv.get e
    exact ⟨_, u, p, by simpa using hu, ru⟩
  | asc x t =>
    cases (show xs = signs x from h)
    obtain ⟨c, q, rfl⟩ := sign_at e
    exact ⟨c, q, fun u => ⟨u, rfl⟩⟩
  | wid x t =>
    cases (show xs = signs x from h)
    obtain ⟨c, q, rfl⟩ := sign_at e
    exact ⟨c, q, fun u => ⟨u, rfl⟩⟩
theorem sv_ends (I : Inv X pins σ H s) (r : Skv sv sk) (h : sv.has X.K H xs) (e : xs.length ≤ i) : sk.ends s.heap i := by
  cases r with
  | lst a =>
    obtain ⟨its, rv, p, _⟩ := I.list h
    have l := rv.length
    exact ⟨_, p.isList, by simp; omega⟩
  | tup a =>
    obtain ⟨its, rv, p, _⟩ := I.tuple h
    have l := rv.length
    exact ⟨_, p, by simp; omega⟩
  | asc x t =>
    cases (show xs = signs x from h)
    rw [sign_len] at e
    exact Array.getElem?_eq_none e
  | wid x t =>
    cases (show xs = signs x from h)
    rw [sign_len] at e
    exact Array.getElem?_eq_none e
theorem sv_inj (I : Inv X pins σ H s) (h : sv.has X.K H xs) (h' : sv.has X.K H ys) : xs = ys := by
  cases sv with
  | lst a => exact I.list_inj h h'
  | tup a => exact I.tuple_inj h h'
  | str x => exact h.trans h'.symm
theorem sv_of (I : Inv X pins σ H s) (h : sv.has X.K H xs) {u : Value} (ru : RelV sv.v u) : ∃ sk, Skv sv sk ∧ sk.of u s.heap ∧ ∀ c : Nat, s.heap.objs.size ≤ c → sk.apart c := by
  cases sv with
  | lst a =>
    cases ru
    obtain ⟨its, rv, p, _⟩ := I.list h
    refine ⟨.lst a, .lst a, ⟨rfl, _, p.isList⟩, fun c hc z => ?_⟩
    exact Nat.ne_of_lt (Nat.lt_of_lt_of_le p.lt hc) z
  | tup a =>
    cases ru
    obtain ⟨its, rv, p, _⟩ := I.tuple h
    obtain ⟨o, ho, _⟩ := id p
    refine ⟨.tup a, .tup a, ⟨rfl, _, p⟩, fun c hc z => ?_⟩
    exact Nat.ne_of_lt (Nat.lt_of_lt_of_le (Heap.lt_size ho) hc) z
  | str x =>
    obtain ⟨t, rfl⟩ := ru
    cases ha : x.cps.all (· < 128)
    · exact ⟨.wid x t, .wid x t, ⟨rfl, ha⟩, fun _ _ => True.intro⟩
    · exact ⟨.asc x t, .asc x t, ⟨rfl, ha⟩, fun _ _ => True.intro⟩
end
/-- one for each -/
theorem pick_each {α β : Type} {P : Nat → β → Prop} : ∀ {l : List α}, (∀ (j : Nat) a, l[j]? = some a → ∃ b, P j b) → ∃ bs : List β, bs.length = l.length ∧ ∀ (j : Nat) b, bs[j]? = some b → P j b
  | [], _ => ⟨[], rfl, fun j b z => by simp at z⟩
  | a :: l, h => by
    obtain ⟨b, hb⟩ := h 0 a rfl
    obtain ⟨bs, hl, hp⟩ := pick_each (P := fun j b => P (j + 1) b) (l := l) fun j a e => h (j + 1) a e
    refine ⟨b :: bs, by rw [List.length_cons, List.length_cons, hl], fun j c e => ?_⟩
    cases j with
    | zero => cases e; exact hb
    | succ j => exact hp j c e
theorem vals_each : ∀ {xs : List V} {us : List Value}, xs.length = us.length → (∀ (j : Nat) x u, xs[j]? = some x → us[j]? = some u → RelV x u) → Vals xs us
  | [], [], _, _ => .nil
  | x :: xs, u :: us, hl, h => .cons (h 0 x u rfl rfl) (vals_each (by simpa using hl) fun j x u e1 e2 => h (j + 1) x u e1 e2)
  | [], u :: us, hl, _ => by simp at hl
  | x :: xs, [], hl, _ => by simp at hl

/-- the things as they stand at each turn, their items in a new tuple -/
def ItzN (K : PySem.W.Frag) (ss : List Sv) : It :=
  ⟨fun i H => ∀ (j : Nat) (s : Sv), ss[j]? = some s → ∃ xs x, s.has K H xs ∧ xs[i]? = some x,
    fun i H v H' => ∃ T xs, v = .ref T ∧ H T = none ∧ H' = upd H T (.tup xs) ∧ xs.length = ss.length ∧ ∀ (j : Nat) (s : Sv) ys, ss[j]? = some s → s.has K H ys → xs[j]? = ys[i]?,
    fun i H => ∃ j0, j0 < ss.length ∧ (∀ s : Sv, ss[j0]? = some s → ∃ xs, s.has K H xs ∧ xs.length ≤ i) ∧ ∀ (j : Nat) (s : Sv), j < j0 → ss[j]? = some s → ∃ xs x, s.has K H xs ∧ xs[i]? = some x⟩
def cellsOf (m k : Nat) : List Addr := (List.range (k + 3)).map (m + ·)
theorem mem_cells {m k : Nat} {c : Addr} : c ∈ cellsOf m k ↔ ∃ j : Nat, j < k + 3 ∧ c = m + j := by
  unfold cellsOf
  simp only [List.mem_map, List.mem_range]
  exact ⟨fun ⟨a, h, e⟩ => ⟨a, h, e.symm⟩, fun ⟨a, h, e⟩ => ⟨a, h, e.symm⟩⟩
theorem turn_zipN {P : Program} {w : World} {K : PySem.W.Frag} {tg : Expr} {m : Nat} {ss : List Sv} {ks : List Sk} (hl : ss.length = ks.length) (h0 : 0 < ks.length) (h1000 : ks.length ≤ 1000)
    (hr : ∀ (j : Nat) sv sk, ss[j]? = some sv → ks[j]? = some sk → Skv sv sk) (ap : ∀ sk : Sk, sk ∈ ks → ∀ c : Nat, m ≤ c → sk.apart c) :
    Turn P w K tg (ItzN K ss) (cellsOf m ks.length) (m + ks.length + 2 : Nat) (fun i h => ZSt m ks i h) where
  mem := mem_cells.mpr ⟨ks.length + 2, by omega, by show (_ : Nat) = _; omega⟩
  obj := fun i h st c hc => by
    obtain ⟨j, hj, rfl⟩ := mem_cells.mp hc
    by_cases h1 : j < ks.length
    · exact (st.it j _ (List.getElem?_eq_getElem h1)).obj
    · by_cases h2 : j = ks.length
      · subst h2
        exact ⟨_, st.ti, fun v q => nomatch q⟩
      · by_cases h3 : j = ks.length + 1
        · subst h3
          obtain ⟨vs, _, to⟩ := st.to
          exact ⟨_, to, fun v q => nomatch q⟩
        · obtain rfl : j = ks.length + 2 := by omega
          obtain ⟨f0, f, hz, _⟩ := st.z
          exact ⟨_, hz, fun v q => nomatch q⟩
  keep := fun i h h' st k => by
    have kk : ∀ j : Nat, j < ks.length + 3 → ∀ o, h.get? (m + j : Nat) = some o → h'.get? (m + j : Nat) = some o := fun j hj o e => k _ (mem_cells.mpr ⟨j, hj, rfl⟩) o e
    obtain ⟨f0, f, hz, hf⟩ := st.z
    obtain ⟨vs, sz, to⟩ := st.to
    refine ⟨⟨f0, f, kk (ks.length + 2) (by omega) _ hz, hf⟩, kk ks.length (by omega) _ st.ti, ⟨vs, sz, kk (ks.length + 1) (by omega) _ to⟩, fun j sk e => ?_⟩
    have hj := len_of e
    have q := st.it j sk e
    obtain ⟨o, ho, _⟩ := q.obj
    refine q.over' fun o e => kk j (by omega) o e
  item := by
    intro X hP hw hK hc i pins s σ H E I hf st hg
    subst hP hw hK
    obtain ⟨xs, hxl, hxs⟩ := pick_each (l := ss) (P := fun j x => ∀ sv : Sv, ss[j]? = some sv → ∃ ys, sv.has X.K H ys ∧ ys[i]? = some x) fun j a e => by
      obtain ⟨ys, x, h1, h2⟩ := hg j a e
      exact ⟨x, fun sv e' => by rw [e] at e'; cases e'; exact ⟨ys, h1, h2⟩⟩
    refine next_item (P := fun j u => ∀ x, xs[j]? = some x → RelV x u) h0 h1000 ap st (fun j sk e => ?_) fun vs h' tk hvs hp Z hT out => ?_
    · have hj : j < ss.length := by rw [hl]; exact len_of e
      have e1 : ss[j]? = some ss[j] := List.getElem?_eq_getElem hj
      have hj2 : j < xs.length := by omega
      have e2 : xs[j]? = some xs[j] := List.getElem?_eq_getElem hj2
      obtain ⟨ys, h1, h2⟩ := hxs j _ e2 _ e1
      have g := sv_gives I (hr j _ _ e1 e) h1 h2
      have mono : ∀ {sk : Sk} {P Q : Value → Prop}, (∀ u, P u → Q u) → sk.gives s.heap i P → sk.gives s.heap i Q := fun {sk P Q} hpq g => by
        cases sk with
        | lst a => obtain ⟨its, v, l, e, p⟩ := g; exact ⟨its, v, l, e, hpq _ p⟩
        | tup a => obtain ⟨its, v, l, e, p⟩ := g; exact ⟨its, v, l, e, hpq _ p⟩
        | asc z t => obtain ⟨c, e, p⟩ := g; exact ⟨c, e, fun u => hpq _ (p u)⟩
        | wid z t => obtain ⟨c, e, p⟩ := g; exact ⟨c, e, fun u => hpq _ (p u)⟩
      refine mono (fun u ru x ex => ?_) g
      rw [e2] at ex
      cases ex
      exact ru
    · refine ⟨_, rfl, zip_go (s := { s with heap := h', toks := tk }) Z fun h'' Z' sb => ?_⟩
      have hzl : (m + ks.length + 2 : Nat) < s.heap.objs.size := by
        obtain ⟨f0, f, hz, _⟩ := st.z
        exact Heap.lt_size hz
      have hT2 : TupAt h'' s.heap.objs.size vs := (sb.2 _ (Nat.ne_of_gt hzl)).trans hT
      have hlen : xs.length = vs.toList.length := (hxl.trans (hl.trans hvs.symm)).trans Array.length_toList.symm
      have rv : Vals xs vs.toList := vals_each hlen fun j x u e1 e2 => hp j u (by simpa using e2) x e1
      have new : ObjOk X.prog X.w (upd H s.heap.objs.size (.tup xs)) h'' s.heap.objs.size (.tup xs) :=
        ⟨by rw [hxl, hl]; exact Nat.le_trans h1000 (by decide), vs.toList, rv, ⟨_, hT2, rfl, 0, by simp⟩⟩
      have I1 : Inv X pins σ (upd H s.heap.objs.size (.tup xs)) { s with heap := h'', toks := tk } :=
        I.turnedNew (t' := tk) (ch := cellsOf m ks.length) (fun (c : Nat) o hb q => by
          have no : ∀ j : Nat, j < ks.length + 3 → c ≠ m + j := fun j hj z => hb (mem_cells.mpr ⟨j, hj, z⟩)
          refine (sb.2 c (no (ks.length + 2) (by omega))).trans (out c o ?_ q)
          by_cases hcm : c < m
          · exact .inl hcm
          · by_cases hcm2 : c < m + ks.length + 3
            · refine absurd ?_ (no (c - m) (by omega))
              show (c : Nat) = m + (c - m)
              omega
            · exact .inr (by omega)) hf (Nat.le_refl _) new
      refine ⟨.ref s.heap.objs.size, _, I1, rfl, ⟨_, xs, rfl, I.hok.fresh (Nat.le_refl _), rfl, hxl, fun j sv ys e1 e2 => ?_⟩, Z', fun c hcm => ?_⟩
      · have hj2 : j < xs.length := by rw [hxl]; exact len_of e1
        have e3 : xs[j]? = some xs[j] := List.getElem?_eq_getElem hj2
        obtain ⟨ys', h1, h2⟩ := hxs j _ e3 _ e1
        rw [sv_inj I e2 h1, h2, e3]
      · have hlt : c < s.heap.objs.size := by
          obtain ⟨j, hj, rfl⟩ := mem_cells.mp hcm
          show m + j < _
          omega
        rw [upd_ne (Nat.ne_of_lt hlt)]
        exact (hf c hcm).1
  done := by
    intro X hP hw hK hc i pins s σ H E I hf st hg
    subst hP hw hK
    obtain ⟨j0, hj0, he, hg⟩ := hg
    refine next_end (I.ok.hd hc) h1000 ap st j0 (by omega) (fun j sk hj e => ?_) (fun sk e => ?_) fun h' tk out => ⟨rfl, I.turnedL (t' := tk) (ch := cellsOf m ks.length) (fun (c : Nat) o hb q => ?_) hf⟩
    · have hj1 : j < ss.length := by omega
      have e1 : ss[j]? = some ss[j] := List.getElem?_eq_getElem hj1
      obtain ⟨ys, x, h1, h2⟩ := hg j _ hj e1
      have g := sv_gives I (hr j _ _ e1 e) h1 h2
      cases sk with
      | lst a => obtain ⟨its, v, l, e, p⟩ := g; exact ⟨its, v, l, e, True.intro⟩
      | tup a => obtain ⟨its, v, l, e, p⟩ := g; exact ⟨its, v, l, e, True.intro⟩
      | asc z t => obtain ⟨c, e, p⟩ := g; exact ⟨c, e, fun u => True.intro⟩
      | wid z t => obtain ⟨c, e, p⟩ := g; exact ⟨c, e, fun u => True.intro⟩
    · have e1 : ss[j0]? = some ss[j0] := List.getElem?_eq_getElem hj0
      obtain ⟨ys, h1, h2⟩ := he _ e1
      exact sv_ends I (hr j0 _ _ e1 e) h1 h2
    · have no : ∀ j : Nat, j < ks.length + 3 → c ≠ m + j := fun j hj z => hb (mem_cells.mpr ⟨j, hj, z⟩)
      refine out c o ?_ q
      by_cases hcm : c < m
      · exact .inl hcm
      · by_cases hcm2 : c < m + ks.length + 3
        · refine absurd ?_ (no (c - m) (by omega))
          show (c : Nat) = m + (c - m)
          omega
        · exact .inr (by omega)
  self := fun A i s Q E st h => iter_zip st h

/-! ### the rules -/
/-- the values are such things -/
inductive Svs (K : PySem.W.Frag) (H : Hp) : List V → List Sv → Prop
  | nil : Svs K H [] []
  | cons {v : V} {vs : List V} {s : Sv} {ss : List Sv} {xs : List V} (h : v = s.v) (h2 : s.has K H xs) (r : Svs K H vs ss) : Svs K H (v :: vs) (s :: ss)
theorem Svs.at {K : PySem.W.Frag} {H : Hp} : ∀ {vs : List V} {ss : List Sv}, Svs K H vs ss → vs.length = ss.length ∧ ∀ (j : Nat) s, ss[j]? = some s → vs[j]? = some s.v ∧ ∃ xs, s.has K H xs
  | _, _, .nil => ⟨rfl, fun j s z => by simp at z⟩
  | _, _, .cons (xs := xs) h h2 r => by
    obtain ⟨h3, h4⟩ := Svs.at r
    refine ⟨by rw [List.length_cons, List.length_cons, h3], fun j s e => ?_⟩
    cases j with
    | zero => cases e; exact ⟨by rw [h]; rfl, xs, h2⟩
    | succ j => exact h4 j s e
section
variable {X : Cx} {pins : List (Addr × Obj)} {σ : L2.St} {H : Hp} {s : Shared}
/-- zip has been called -/
theorem made_zip {tg : Expr} {vs : List V} {us : List Value} {ss : List Sv} {R : It → Hp → Prop} (I : Inv X pins σ H s) (r : Vals vs us) (hs : Svs X.K H vs ss) (h0 : 0 < ss.length) (h1000 : ss.length ≤ 1000) (q : R (ItzN X.K ss) H) :
    wpAny (model X.prog X.w) X.A (call (.type "zip") us) (fun v s1 => wpAny (model X.prog X.w) X.A (pyIter v) (PIE X pins σ tg R) X.xe s1) X.xe s := by
  obtain ⟨hl, hat⟩ := hs.at
  have hl2 := r.length
  obtain ⟨ks, hk, hks⟩ := pick_each (l := ss) (P := fun j sk => ∀ sv u, ss[j]? = some sv → us[j]? = some u → Skv sv sk ∧ sk.of u s.heap ∧ ∀ c : Nat, s.heap.objs.size ≤ c → sk.apart c) fun j a e => by
    obtain ⟨e1, xs, h2⟩ := hat j a e
    obtain ⟨u, hu, ru⟩ := r.get e1
    obtain ⟨sk, h3, h4, h5⟩ := sv_of I h2 ru
    refine ⟨sk, fun sv u' e3 e4 => ?_⟩
    rw [e] at e3
    rw [hu] at e4
    cases e3
    cases e4
    exact ⟨h3, h4, h5⟩
  have full : ∀ (j : Nat) sk, ks[j]? = some sk → ∃ sv u, ss[j]? = some sv ∧ us[j]? = some u ∧ Skv sv sk ∧ sk.of u s.heap ∧ ∀ c : Nat, s.heap.objs.size ≤ c → sk.apart c := fun j sk e => by
    have hj : j < ss.length := by rw [← hk]; exact len_of e
    have hj2 : j < us.length := by rw [← hl2, hl]; exact hj
    have e1 : ss[j]? = some ss[j] := List.getElem?_eq_getElem hj
    have e2 : us[j]? = some us[j] := List.getElem?_eq_getElem hj2
    obtain ⟨a, b, c⟩ := hks j sk e _ _ e1 e2
    exact ⟨_, _, e1, e2, a, b, c⟩
  have ap : ∀ sk : Sk, sk ∈ ks → ∀ c : Nat, s.heap.objs.size ≤ c → sk.apart c := fun sk hm c hc => by
    obtain ⟨j, hj, e⟩ := List.mem_iff_getElem.mp hm
    obtain ⟨_, _, _, _, _, _, h⟩ := full j sk (by rw [← e]; exact List.getElem?_eq_getElem hj)
    exact h c hc
  refine call_zipN (ss := ks) (by rw [hk, ← hl, hl2]) (by omega) (by omega) (fun j sk v e1 e2 => ?_) fun h' Z k => iter_zip (s := { s with heap := h' }) Z ?_
  · obtain ⟨sv, u, h1, h2, _, h4, _⟩ := full j sk e1
    rw [h2] at e2
    cases e2
    exact h4
  · have I2 : Inv X pins σ H { s with heap := h' } := I.kept (t' := s.toks) k
    refine ⟨_, cellsOf s.heap.objs.size ks.length, _, _, H, rfl, I2, turn_zipN hk.symm (by omega) (by omega) (fun j sv sk e1 e2 => ?_) ap, Z, fun c hc => ?_, q⟩
    · obtain ⟨sv', u, h1, _, h3, _⟩ := full j sk e2
      rw [h1] at e1
      cases e1
      exact h3
    · obtain ⟨j, hj, rfl⟩ := mem_cells.mp hc
      exact I.fpOk (Nat.le_add_right _ _) (I.hok.fresh (Nat.le_add_right _ _))
end
/-- zip(e, ..) -/
def iZipN (K : PySem.W.Frag) (ta : TA) : TI := fun σ H R => ta σ H fun vs H1 => ∃ ss, Svs K H1 vs ss ∧ 0 < ss.length ∧ ss.length ≤ 1000 ∧ R (ItzN K ss) H1
theorem pi_zipN {X : Cx} {tg e : Expr} {es : List Expr} {ta : TA} {p pos : Pos} (hg : Gl X "zip") (hm : X.mg "zip" = none) (ha : PA X (e :: es) ta)
    (hs : starEach (e :: es) X.env = (false, eval e X.env) :: starEach es X.env := by rfl) (hpl : (backTo pos (starEach es X.env)).any (·.1) = false := by rfl) :
    PI X tg (.Call (.Name "zip" p) (e :: es) [] pos) (iZipN X.K ta) := by
  refine ⟨fun pins s σ H R I h => ?_⟩
  refine Call_ (ld_blt I hg hm PyProof.Rows.boot_zip (PyProof.Rows.callWith_type1 (thn (ha.run pos pins s σ H _ I h) fun us s1 ⟨vs, H1, I1, r1, ss, q1, q2, q3, q4⟩ => ?_) hs hpl))
  exact made_zip I1 r1 q1 q2 q3 q4
theorem keeper_type {M : Model} {T : String} (h : Heap) : ∃ k, (k = Keeper.frame ∨ k = Keeper.machine ∨ k = Keeper.boundFrame) ∧ PySem.W.Looks M h (keeperOf (.type T)) k := by
  exact ⟨.machine, .inr (.inl rfl), PySem.W.Looks.of_pure rfl⟩
/-- zip( *e) -/
def iZipS (K : PySem.W.Frag) (te : TE) : TI := fun σ H R => te σ H fun y H1 => ∃ a xs ss, y = V.ref a ∧ (SqT K H1 a xs ∨ SqL K H1 a xs) ∧ Svs K H1 xs ss ∧ 0 < ss.length ∧ ss.length ≤ 1000 ∧ R (ItzN K ss) H1
theorem pi_zipS {X : Cx} {tg e : Expr} {te : TE} {p sp_ pos : Pos} (hg : Gl X "zip") (hm : X.mg "zip" = none) (he : PE X e te)
    (hst : starEach [.Starred e sp_] X.env = [(true, eval e X.env)] := by rfl) :
    PI X tg (.Call (.Name "zip" p) [.Starred e sp_] [] pos) (iZipS X.K te) := by
  refine ⟨fun pins s σ H R I h => ?_⟩
  refine Call_ (ld_blt I hg hm PyProof.Rows.boot_zip ?_)
  rw [hst]
  refine PySem.W.ks_call (P := fun _ => True) rfl (fun h _ => keeper_type h) (PySem.W.ks_lone ?_)
  refine thn (he.run pins s σ H _ I h) fun v s1 ⟨y, H1, I1, ry, a, xs, ss, ey, hxs, q1, q2, q3, q4⟩ => ?_
  subst ey
  obtain rfl : v = Value.ref a := ry
  exact StX.star_any I1 hxs fun us s2 I2 rv => ⟨True.intro, made_zip I2 rv q1 q2 q3 q4⟩
end LZ

set_option Elab.async false
set_option linter.all false
set_option maxRecDepth 100000
set_option maxHeartbeats 2000000
/-! EN: enumerate of a list, a tuple, a text. -/
namespace LZ
open PySem PySem.Spec L2 LP
open PyProof.Rows hiding St signs

abbrev EnObj (h : Heap) (e it : Nat) (f0 : Value) (f : Bool) (i : Int) (old : Value) : Prop :=
  h.get? e = some { cls := .type "enumerate", dict := none, data := .fields #[f0, .bool f, .ref it, rawInt i, .none, old], slots := #[] }
structure ESt (m : Nat) (sk : Sk) (i : Nat) (h : Heap) : Prop where
  e : ∃ f0 f old, EnObj h (m + 1) m f0 f (i : Nat) old ∧ (f0 = .none ∨ ∃ T : Nat, f0 = rawInt T)
  it : sk.at m i h
section
variable {prog : Program} {w : World} {A : Around} {E : Value → Shared → Prop} {s : Shared}
theorem efree_any {e it : Nat} {f0 old : Value} {f : Bool} {i : Int} {Q : Bool → Shared → Prop} (hz : EnObj s.heap e it f0 f i old) (h0 : f0 = .none ∨ ∃ T : Nat, f0 = rawInt T)
    (h1 : Q true s) (h2 : ∀ h', EnObj h' e it f0 true i old → Heap.SameBut e s.heap h' → Q false { s with heap := h' }) : wpAny (model prog w) A (Builtin.SmallTypes.ownedTupleIsFree (.ref e)) Q E s := by
  unfold Builtin.SmallTypes.ownedTupleIsFree
  rcases h0 with rfl | ⟨T, rfl⟩
  · exact wpAny_bind (wpAny_field hz rfl (x := .none) rfl (wpAny_pure h1))
  · refine wpAny_bind (wpAny_field hz rfl (x := rawInt T) rfl ?_)
    show wpAny _ _ (loadIfAlive ((T : Int).toNat) >>= _) _ _ _
    rw [Int.toNat_natCast]
    refine wpAny_bind (alive_any ?_)
    cases s.heap.get? T with
    | none =>
      simp only [Option.isNone_none, if_true]
      exact wpAny_pure h1
    | some o =>
      simp only [Option.isNone_some, Bool.false_eq_true, if_false]
      refine wpAny_bind (wpAny_field hz rfl (x := .bool f) rfl ?_)
      cases f with
      | true =>
        rw [if_neg (show ¬ ((Value.bool true != Value.bool true) = true) from Bool.false_ne_true)]
        exact wpAny_pure (h2 s.heap hz (Heap.SameBut.refl _ _))
      | false =>
        rw [if_pos (show (Value.bool false != Value.bool true) = true from rfl)]
        exact wpAny_bind (wpAny_setField_rec hz (by simp) fun h₁ hz₁ hs₁ => wpAny_pure (h2 h₁ hz₁ hs₁))
theorem enum_item {m i : Nat} {sk : Sk} {P : Value → Prop} {Q : Value → Shared → Prop} (Z : ESt m sk i s.heap) (g : sk.gives s.heap i P)
    (hQ : ∀ u t h' tk, P u → ESt m sk (i + 1) h' → TupAt h' s.heap.objs.size #[.int i t, u] → (∀ (c : Nat) o, c ≠ m → c ≠ m + 1 → s.heap.get? c = some o → h'.get? c = some o) → Q (.ref s.heap.objs.size) { s with heap := h', toks := tk }) :
    wpAny (model prog w) A (Builtin.«enumerate.__next__» ⟨[.ref (m + 1 : Nat)], []⟩) (fun fin s' => ∃ v, fin = .done (.ret v) ∧ Q v s') E s := by
  obtain ⟨hp, gg, d, tk0, os⟩ := s
  obtain ⟨f0, f, old, he, hf⟩ := Z.e
  have hel : (m + 1 : Nat) < hp.objs.size := Heap.lt_size he
  show wpAny _ _ (field (.ref (m + 1 : Nat)) 2 >>= _) _ _ _
  refine wpAny_bind (wpAny_field he rfl (x := .ref m) rfl ?_)
  refine wpAny_bind (draw_item Z.it g fun u h1 tk1 pu st1 hs1 => ?_)
  replace hs1 : Heap.SameBut m hp h1 := hs1
  have he1 : EnObj h1 (m + 1) m f0 f i old := (hs1.2 (m + 1 : Nat) (Nat.succ_ne_self _)).trans he
  show wpAny _ _ (field (.ref (m + 1 : Nat)) 3 >>= _) _ _ ⟨h1, gg, d, tk1, os⟩
  refine wpAny_bind (wpAny_field he1 rfl (x := rawInt i) rfl ?_)
  show wpAny _ _ (field (.ref (m + 1 : Nat)) 4 >>= _) _ _ ⟨h1, gg, d, tk1, os⟩
  refine wpAny_bind (wpAny_field he1 rfl (x := .none) rfl ?_)
  show wpAny _ _ (mkInt i >>= _) _ _ ⟨h1, gg, d, tk1, os⟩
  refine wpAny_bind (wpAny_mkInt ?_)
  show wpAny _ _ (setField (.ref (m + 1 : Nat)) 3 (rawInt ((i : Int) + 1)) >>= _) _ _ ⟨h1, gg, d, tk1 + 1, os⟩
  refine wpAny_bind (wpAny_setField_rec he1 (by simp) fun h2 he2 hs2 => ?_)
  replace hs2 : Heap.SameBut (m + 1 : Nat) h1 h2 := hs2
  replace he2 : EnObj h2 (m + 1) m f0 f ((i : Int) + 1) old := he2
  show wpAny _ _ (setField (.ref (m + 1 : Nat)) 4 .none >>= _) _ _ ⟨h2, gg, d, tk1 + 1, os⟩
  refine wpAny_bind (wpAny_setField_rec he2 (by simp) fun h3 he3 hs3 => ?_)
  replace hs3 : Heap.SameBut (m + 1 : Nat) h2 h3 := hs3
  replace he3 : EnObj h3 (m + 1) m f0 f ((i : Int) + 1) old := he3
  show wpAny _ _ (newTuple [.int i tk1, u] >>= _) _ _ ⟨h3, gg, d, tk1 + 1, os⟩
  refine wpAny_bind (wpAny_newTuple ?_)
  have hsz : h3.objs.size = hp.objs.size := by rw [hs3.1, hs2.1, hs1.1]
  have ex : ((i + 1 : Nat) : Int) = (i : Int) + 1 := by omega
  have he4 : EnObj (h3.push { cls := .type "tuple", data := .seq #[.int i tk1, u] }) (m + 1) m f0 f ((i : Int) + 1) old := Heap.get?_push_of_some _ he3
  have ht4 : TupAt (h3.push { cls := .type "tuple", data := .seq #[.int i tk1, u] }) hp.objs.size #[.int i tk1, u] := by rw [← hsz]; exact Heap.get?_push_size _ rfl
  have hk4 : ∀ (c : Nat) o, c ≠ m → c ≠ m + 1 → hp.get? c = some o → (h3.push { cls := .type "tuple", data := .seq #[.int i tk1, u] }).get? c = some o := fun c o c1 c2 e =>
    Heap.get?_push_of_some _ (hs3.extBut _ _ c2 (hs2.extBut _ _ c2 (hs1.extBut _ _ c1 e)))
  have st4 : sk.at m (i + 1) (h3.push { cls := .type "tuple", data := .seq #[.int i tk1, u] }) :=
    st1.over' fun o e => Heap.get?_push_of_some _ (hs3.extBut _ _ (Nat.ne_of_lt (Nat.lt_succ_self _)) (hs2.extBut _ _ (Nat.ne_of_lt (Nat.lt_succ_self _)) e))
  generalize h3.push { cls := .type "tuple", data := .seq #[.int i tk1, u] } = h4 at he4 ht4 hk4 st4
  show wpAny _ _ (Builtin.SmallTypes.ownedTupleIsFree (.ref (m + 1 : Nat)) >>= _) _ _ ⟨h4, gg, d, tk1 + 1, os⟩
  rw [hsz]
  clear he3 hs3 he2 hs2 he1 hs1 st1 hsz h3 h2 h1
  refine wpAny_bind (efree_any (s := ⟨h4, gg, d, tk1 + 1, os⟩) he4 hf ?_ fun h5 he5 hs5 => ?_)
  · simp only [if_true]
    refine wpAny_bind (wpAny_rule ?_)
    refine wpAny_bind (wpAny_field he4 rfl (x := old) rfl ?_)
    refine wpAny_bind (wpAny_setField_rec he4 (by simp) fun h5 he5 hs5 => ?_)
    replace he5 : EnObj h5 (m + 1) m f0 f ((i : Int) + 1) u := he5
    show wpAny _ _ (Builtin.SmallTypes.ownedTupleHandOut (.ref (m + 1 : Nat)) (.ref hp.objs.size) >>= _) _ _ ⟨h5, gg, d, tk1 + 1, os⟩
    refine wpAny_bind ?_
    unfold Builtin.SmallTypes.ownedTupleHandOut
    refine wpAny_bind (wpAny_setField_rec he5 (by simp) fun h6 he6 hs6 => ?_)
    replace he6 : EnObj h6 (m + 1) m (rawInt hp.objs.size) f ((i : Int) + 1) u := he6
    refine wpAny_setField_rec he6 (by simp) fun h7 he7 hs7 => ?_
    replace he7 : EnObj h7 (m + 1) m (rawInt hp.objs.size) false ((i : Int) + 1) u := he7
    have up : Heap.ExtBut (m + 1 : Nat) h4 h7 := fun c o hc e => hs7.extBut _ _ hc (hs6.extBut _ _ hc (hs5.extBut _ _ hc e))
    refine wpAny_bind (wpAny_letGo (wpAny_pure ⟨_, rfl, hQ u tk1 h7 _ pu ⟨⟨rawInt hp.objs.size, false, u, by rw [ex]; exact he7, .inr ⟨_, rfl⟩⟩, ?_⟩ (up _ _ (Nat.ne_of_gt hel) ht4) fun c o c1 c2 e => up _ _ c2 (hk4 c o c1 c2 e)⟩))
    exact st4.over' fun o e => up _ _ (Nat.ne_of_lt (Nat.lt_succ_self _)) e
  · simp only [Bool.false_eq_true, if_false]
    have up : Heap.ExtBut (m + 1 : Nat) h4 h5 := fun c o hc e => hs5.extBut _ _ hc e
    refine wpAny_pure ⟨_, rfl, hQ u tk1 h5 _ pu ⟨⟨f0, true, old, by rw [ex]; exact he5, hf⟩, ?_⟩ (up _ _ (Nat.ne_of_gt hel) ht4) fun c o c1 c2 e => up _ _ c2 (hk4 c o c1 c2 e)⟩
    exact st4.over' fun o e => up _ _ (Nat.ne_of_lt (Nat.lt_succ_self _)) e
theorem enext_item {m i : Nat} {sk : Sk} {P : Value → Prop} {Q : Option Value → Shared → Prop} (Z : ESt m sk i s.heap) (g : sk.gives s.heap i P)
    (hQ : ∀ u t h' tk, P u → ESt m sk (i + 1) h' → TupAt h' s.heap.objs.size #[.int i t, u] → (∀ (c : Nat) o, c ≠ m → c ≠ m + 1 → s.heap.get? c = some o → h'.get? c = some o) → Q (some (.ref s.heap.objs.size)) { s with heap := h', toks := tk }) :
    wpAny (model prog w) A (pyNext (.ref (m + 1 : Nat))) Q E s := by
  have hT : s.TypeIs (.ref (m + 1 : Nat)) "enumerate" := let ⟨f0, f, old, hz, _⟩ := Z.e; ⟨_, hz, rfl⟩
  unfold pyNext
  exact wpAny_bind (wpAny_attempt (wpAny_callSpecial?_slot (name := Str.ofString "__next__") hT F.slot_enumerate_next
    (wpAny_call_entry F.slot_enumerate_next hT F.entry_enumerate_next (enum_item Z g fun u t h' tk a b c d => wpAny_pure (hQ u t h' tk a b c d)) (F.args_enumerate_next_1 _))))
theorem enext_end {m i : Nat} {sk : Sk} {Q : Option Value → Shared → Prop} (hh : A.handled = none) (Z : ESt m sk i s.heap) (ge : sk.ends s.heap i)
    (hQ : ∀ h', Heap.ExtBut m s.heap h' → Q none { s with heap := h' }) : wpAny (model prog w) A (pyNext (.ref (m + 1 : Nat))) Q E s := by
  obtain ⟨f0, f, old, he, hf⟩ := Z.e
  have hT : s.TypeIs (.ref (m + 1 : Nat)) "enumerate" := ⟨_, he, rfl⟩
  unfold pyNext
  refine wpAny_bind (wpAny_attempt (wpAny_callSpecial?_slot (name := Str.ofString "__next__") hT F.slot_enumerate_next
    (wpAny_call_entry F.slot_enumerate_next hT F.entry_enumerate_next ?_ (F.args_enumerate_next_1 _))))
  show wpAny _ _ (field (.ref (m + 1 : Nat)) 2 >>= _) _ _ _
  refine wpAny_bind (wpAny_field he rfl (x := .ref m) rfl ?_)
  refine wpAny_bind (draw_end hh Z.it ge fun h' x he' hx' => ?_)
  obtain ⟨o, ho, hc⟩ := hx'
  refine wpAny_bind (wpAny_isInstance (T := "StopIteration") (b := true) ⟨o, ho, hc⟩ isSubtype_stop ?_)
  exact wpAny_pure (hQ _ he')
theorem enum_go {tg : Expr} {m i : Nat} {sk : Sk} {T : Addr} {Q : Unit → Shared → Prop} (Z : ESt m sk i s.heap)
    (hQ : ∀ h', ESt m sk i h' → Heap.SameBut (m + 1 : Nat) s.heap h' → Q () { s with heap := h' }) : wpAny (model prog w) A (letOwnedTupleGo tg (.ref (m + 1 : Nat)) (.ref T)) Q E s := by
  obtain ⟨f0, f, old, hz, hf⟩ := Z.e
  have q0 : Q () s := hQ s.heap Z (Heap.SameBut.refl _ _)
  have q1 : wpAny (model prog w) A (do
      let o ← load (m + 1 : Nat)
      match o.cls, o.data with
      | .type n, .fields vs =>
        if ["enumerate", "zip", "dict_itemiterator", "dict_reverseitemiterator", "odict_iterator", "itertools.zip_longest", "itertools.pairwise"].contains n && vs[0]? == some (rawInt T) then
          rule "for.unpacks-the-owned-tuple"
          updateField (m + 1 : Nat) 0 .none
      | _, _ => pure ()) Q E s := by
    refine wpAny_bind (wpAny_load hz ?_)
    show wpAny _ _ (if (true && (#[f0, Value.bool f, .ref m, rawInt i, .none, old] : Array Value)[0]? == some (rawInt T)) = true then _ else _) _ _ _
    by_cases hc : (true && (#[f0, Value.bool f, .ref m, rawInt i, .none, old] : Array Value)[0]? == some (rawInt T)) = true
    · rw [if_pos hc]
      refine wpAny_bind (wpAny_rule ?_)
      show wpAny _ _ (setField (.ref (m + 1 : Nat)) 0 .none) Q E s
      refine wpAny_setField_rec hz (by simp) fun h' hz' hs' => hQ h' ?_ hs'
      exact ⟨⟨.none, f, old, hz', .inl rfl⟩, Z.it.over' fun o e => hs'.extBut _ _ (Nat.ne_of_lt (Nat.lt_succ_self _)) e⟩
    · rw [if_neg hc]
      exact wpAny_pure q0
  unfold letOwnedTupleGo
  cases tg <;> first
    | exact wpAny_pure q0
    | exact q1
theorem iter_enum {m i : Nat} {sk : Sk} {Q : Value → Shared → Prop} (Z : ESt m sk i s.heap) (h : Q (.ref (m + 1 : Nat)) s) : wpAny (model prog w) A (pyIter (.ref (m + 1 : Nat))) Q E s := by
  have hT : s.TypeIs (.ref (m + 1 : Nat)) "enumerate" := let ⟨f0, f, old, hz, _⟩ := Z.e; ⟨_, hz, rfl⟩
  refine wpAny_pyIter_slot hT F.slot_enumerate_iter (wpAny_call_entry F.slot_enumerate_iter hT F.entry_enumerate_iter ?_ (F.args_enumerate_iter_1 _))
  show wpAny _ _ (ret (.ref (m + 1 : Nat))) _ _ s
  exact wpAny_pure ⟨_, rfl, "enumerate", _, hT, F.slot_enumerate_next.lookup, h⟩
end
open PySem.AutoSeq1 (wpAny_loadPart') in
theorem meets_enumT (t : Addr) (o : Obj) (items : Array Value) :
    Meets (Builtin.«enumerate.__new__» ⟨[.type "enumerate", .ref t], []⟩) (fun _ R s => s.heap.get? t = some o ∧ s.heap.IsTuple t items ∧
      R (.ok (.ret (.ref (s.heap.push { cls := .type "tuple_iterator", data := .fields #[.ref t, .int 0 0] }).objs.size)))
        { s with heap := (s.heap.push { cls := .type "tuple_iterator", data := .fields #[.ref t, .int 0 0] }).push { cls := .type "enumerate", data := .fields #[.none, .bool false, .ref s.heap.objs.size, rawInt 0, .none, .none] } }) :=
  .of_wp fun prog w A R s h => by
    obtain ⟨hp, g, d, tk, os⟩ := s
    obtain ⟨hl, hL, h⟩ := h
    have hsub := sub_enumerate
    wp_walk using wpAny_loadPart' hl
    refine wpAny_stack_any fun st => wpAny_pure ?_
    split
    · rename_i c _ _ _ _ _
      cases (c == Value.type "enumerate")
      · wp_walk using wpAny_loadPart' hl, wpAny_pyIter_tuple hL
        exact ⟨_, rfl, h⟩
      · wp_walk using wpAny_loadPart' hl, wpAny_pyIter_tuple hL
        exact ⟨_, rfl, h⟩
    · wp_walk using wpAny_loadPart' hl, wpAny_pyIter_tuple hL
      exact ⟨_, rfl, h⟩
section
variable {prog : Program} {w : World} {A : Around} {E : Value → Shared → Prop} {s : Shared}
theorem call_enumN {sk : Sk} {u : Value} {Q : Value → Shared → Prop} (p : sk.of u s.heap)
    (h : ∀ h', ESt s.heap.objs.size sk 0 h' → (∀ b o, s.heap.get? b = some o → h'.get? b = some o) → Q (.ref (s.heap.objs.size + 1 : Nat)) { s with heap := h' }) :
    wpAny (model prog w) A (call (.type "enumerate") [u]) Q E s := by
  cases sk with
  | lst a =>
    obtain ⟨rfl, its, l⟩ := p
    exact call_enumerate_list l fun h' he hit _ k => h h' ⟨⟨_, _, _, he, .inl rfl⟩, hit⟩ k
  | asc x t =>
    obtain ⟨rfl, ha⟩ := p
    refine call_enumerate_str fun h' he hit _ k => h h' ⟨⟨_, _, _, he, .inl rfl⟩, ?_⟩ k
    rw [show strIterType x = "str_ascii_iterator" by simp [strIterType, ha]] at hit
    exact hit
  | wid x t =>
    obtain ⟨rfl, ha⟩ := p
    refine call_enumerate_str fun h' he hit _ k => h h' ⟨⟨_, _, _, he, .inl rfl⟩, ?_⟩ k
    rw [show strIterType x = "str_iterator" by simp [strIterType, ha]] at hit
    exact hit
  | tup a =>
    obtain ⟨rfl, its, l⟩ := p
    obtain ⟨o, ho, hc, n, hd⟩ := id l
    refine callType_new F.called_enumerate (by decide) (F.typeCall_enumerate_1 _) (F.newCall_enumerate_1 _) (fun obj => F.args_object_init_2 obj _) F.entry_enumerate_new (meets_enumT a o its) ⟨ho, l, ?_⟩
    have hz : (s.heap.push { cls := .type "tuple_iterator", data := .fields #[.ref a, .int 0 0] }).objs.size = s.heap.objs.size + 1 := Heap.size_push ..
    have he := Heap.get?_push_size (s.heap.push { cls := .type "tuple_iterator", data := .fields #[.ref a, .int 0 0] })
      (o := { cls := .type "enumerate", data := .fields #[.none, .bool false, .ref s.heap.objs.size, rawInt 0, .none, .none] }) rfl
    show _ ∧ _
    rw [hz] at he ⊢
    exact ⟨⟨_, he, rfl⟩, h _ ⟨⟨_, _, _, he, .inl rfl⟩, ⟨_, Heap.get?_push_of_some _ (Heap.get?_push_size _ rfl), rfl, rfl⟩⟩ fun b o x => Heap.get?_push_of_some _ (Heap.get?_push_of_some _ x)⟩
end

/-- the thing as it stands at each turn, each item in a new pair -/
def ItnE (K : PySem.W.Frag) (sv : Sv) : It :=
  ⟨fun i H => ∃ xs x, sv.has K H xs ∧ xs[i]? = some x,
    fun i H v H' => ∃ T x, v = .ref T ∧ H T = none ∧ H' = upd H T (.tup [.int (i : Nat), x]) ∧ ∀ ys, sv.has K H ys → ys[i]? = some x,
    fun i H => ∃ xs, sv.has K H xs ∧ xs.length ≤ i⟩
theorem turn_enumN {P : Program} {w : World} {K : PySem.W.Frag} {tg : Expr} {m : Nat} {sv : Sv} {sk : Sk} (hr : Skv sv sk) :
    Turn P w K tg (ItnE K sv) [(m : Addr), m + 1] (m + 1 : Nat) (fun i h => ESt m sk i h) where
  mem := by simp
  obj := fun i h st c hc => by
    have e' : c = m ∨ c = m + 1 := by simpa using hc
    rcases e' with rfl | rfl
    · exact st.it.obj
    · obtain ⟨f0, f, old, hz, _⟩ := st.e
      exact ⟨_, hz, fun v q => nomatch q⟩
  keep := fun i h h' st k => by
    obtain ⟨f0, f, old, hz, hf⟩ := st.e
    exact ⟨⟨f0, f, old, k _ (by simp) _ hz, hf⟩, st.it.over' fun o e => k _ (by simp) o e⟩
  item := by
    intro X hP hw hK hc i pins s σ H E I hf st hg
    subst hP hw hK
    obtain ⟨xs, x, h1, h2⟩ := hg
    have hel : (m + 1 : Nat) < s.heap.objs.size := by
      obtain ⟨f0, f, old, hz, _⟩ := st.e
      exact Heap.lt_size hz
    refine enext_item st (sv_gives I hr h1 h2) fun u t h' tk ru Z hT k => ⟨_, rfl, enum_go (s := { s with heap := h', toks := tk }) Z fun h'' Z' sb => ?_⟩
    have hT2 : TupAt h'' s.heap.objs.size #[.int i t, u] := (sb.2 _ (Nat.ne_of_gt hel)).trans hT
    have new : ObjOk X.prog X.w (upd H s.heap.objs.size (.tup [.int (i : Nat), x])) h'' s.heap.objs.size (.tup [.int (i : Nat), x]) :=
      ⟨by show 2 ≤ sizeLine; decide, [.int i t, u], .cons ⟨_, rfl⟩ (.cons ru .nil), ⟨_, hT2, rfl, _, rfl⟩⟩
    have I1 : Inv X pins σ (upd H s.heap.objs.size (.tup [.int (i : Nat), x])) { s with heap := h'', toks := tk } :=
      I.turnedNew (t' := tk) (ch := [(m : Addr), m + 1]) (fun b ob hb q => (sb.2 b (fun z => hb (by simp [z]))).trans (k b ob (fun z => hb (by simp [z])) (fun z => hb (by simp [z])) q)) hf (Nat.le_refl _) new
    refine ⟨.ref s.heap.objs.size, _, I1, rfl, ⟨_, x, rfl, I.hok.fresh (Nat.le_refl _), rfl, fun ys hy => by rw [sv_inj I hy h1]; exact h2⟩, Z', fun b hb => ?_⟩
    have hb' : b < s.heap.objs.size := by
      have e' : b = m ∨ b = m + 1 := by simpa using hb
      rcases e' with rfl | rfl
      · exact Nat.lt_of_succ_lt hel
      · exact hel
    rw [upd_ne (Nat.ne_of_lt hb')]
    exact (hf b hb).1
  done := by
    intro X hP hw hK hc i pins s σ H E I hf st hg
    subst hP hw hK
    obtain ⟨xs, h1, h2⟩ := hg
    exact enext_end (I.ok.hd hc) st (sv_ends I hr h1 h2) fun h' k => ⟨rfl, I.turnedL (t' := s.toks) (ch := [(m : Addr), m + 1]) (fun c o hb q => k c o (fun z => hb (by simp [z])) q) hf⟩
  self := fun A i s Q E st h => iter_enum st h
def iEnumN (K : PySem.W.Frag) (ta : TA) : TI := fun σ H R => ta σ H fun vs H1 => ∃ sv xs, vs = [Sv.v sv] ∧ sv.has K H1 xs ∧ R (ItnE K sv) H1
theorem pi_enumN {X : Cx} {tg e : Expr} {ta : TA} {p pos : Pos} (hg : Gl X "enumerate") (hm : X.mg "enumerate" = none) (ha : PA X [e] ta) (hs : starEach [e] X.env = [(false, eval e X.env)] := by rfl) :
    PI X tg (.Call (.Name "enumerate" p) [e] [] pos) (iEnumN X.K ta) := by
  refine ⟨fun pins s σ H R I h => ?_⟩
  refine Call_ (ld_blt I hg hm boot_enumerate (PyProof.Rows.callWith_type1 (thn (ha.run pos pins s σ H _ I h) fun us s1 ⟨vs, H1, I1, r1, q1⟩ => ?_) hs rfl))
  obtain ⟨sv, xs, rfl, hq, q⟩ := q1
  cases r1 with
  | cons r rr =>
    cases rr
    obtain ⟨sk, hr, ho, _⟩ := sv_of I1 hq r
    refine call_enumN ho fun h' Z k => iter_enum (s := { s1 with heap := h' }) Z ?_
    have I2 : Inv X pins σ H1 { s1 with heap := h' } := I1.kept (t' := s1.toks) k
    refine ⟨_, [(s1.heap.objs.size : Addr), s1.heap.objs.size + 1], _, _, H1, rfl, I2, turn_enumN hr, Z, fun b hb => ?_, q⟩
    have hle : s1.heap.objs.size ≤ b := by
      have e' : b = s1.heap.objs.size ∨ b = s1.heap.objs.size + 1 := by simpa using hb
      rcases e' with rfl | rfl
      · exact Nat.le_refl _
      · exact Nat.le_add_right _ _
    exact I1.fpOk hle (I1.hok.fresh hle)

/-! ### walks -/
theorem walk_enumN {K : PySem.W.Frag} {sv : Sv} {xs : List V} : Walk (ItnE K sv) xs.length (fun H => sv.has K H xs) (YPair (fun i => some (.int (i : Nat))) (fun i => xs[i]?)) := by
  refine ⟨fun i _ hi q => ⟨xs, xs[i], q, by simp [hi]⟩, fun _ q => ⟨xs, q, Nat.le_refl _⟩, fun i H v H' _ q y => ?_⟩
  obtain ⟨T, x, h1, h2, h3, h4⟩ := y
  exact ⟨T, .int (i : Nat), x, h1, h2, h3, rfl, h4 xs q⟩
/-- a new tuple of the i-th of each -/
def YTup (xss : List (List V)) : Nat → Hp → V → Hp → Prop := fun i H v H' => ∃ T xs, v = .ref T ∧ H T = none ∧ H' = upd H T (.tup xs) ∧ xs.length = xss.length ∧ ∀ (j : Nat) ys, xss[j]? = some ys → xs[j]? = ys[i]?
/-- all of them are there -/
def Alls (K : PySem.W.Frag) (ss : List Sv) (xss : List (List V)) (H : Hp) : Prop := ss.length = xss.length ∧ ∀ (j : Nat) s xs, ss[j]? = some s → xss[j]? = some xs → Sv.has K H s xs
theorem walk_zipN {K : PySem.W.Frag} {ss : List Sv} {xss : List (List V)} {n : Nat} (hn : ∀ xs, xs ∈ xss → xs.length = n) (h0 : 0 < xss.length) : Walk (ItzN K ss) n (fun H => Alls K ss xss H) (YTup xss) := by
  have atx : ∀ {j : Nat} {xs : List V}, xss[j]? = some xs → xs.length = n := fun e => hn _ (List.mem_of_getElem? e)
  refine ⟨fun i H hi q j s e => ?_, fun H q => ⟨0, by rw [q.1]; exact h0, fun s e => ?_, fun j s z => absurd z (Nat.not_lt_zero _)⟩, fun i H v H' hi q y => ?_⟩
  · have hj : j < xss.length := by rw [← q.1]; exact len_of e
    have e2 := List.getElem?_eq_getElem hj
    have hl := atx e2
    exact ⟨_, _, q.2 j s _ e e2, List.getElem?_eq_getElem (by omega)⟩
  · have e2 := List.getElem?_eq_getElem h0
    exact ⟨_, q.2 0 s _ e e2, by rw [atx e2]; exact Nat.le_refl _⟩
  · obtain ⟨T, xs, h1, h2, h3, h4, h5⟩ := y
    refine ⟨T, xs, h1, h2, h3, by rw [h4, q.1], fun j ys e => ?_⟩
    have hj : j < ss.length := by rw [q.1]; exact len_of e
    have e2 := List.getElem?_eq_getElem hj
    exact h5 j _ ys e2 (q.2 j _ ys e2 e)
/-- two of them -/
theorem walk_zip2 {K : PySem.W.Frag} {s1 s2 : Sv} {xs ys : List V} (hl : xs.length = ys.length) : Walk (ItzN K [s1, s2]) xs.length (fun H => s1.has K H xs ∧ s2.has K H ys) (YPair (fun i => xs[i]?) (fun i => ys[i]?)) := by
  refine (walk_zipN (K := K) (ss := [s1, s2]) (xss := [xs, ys]) (n := xs.length) (fun zs h => ?_) (Nat.succ_pos _)).mono (fun H h => ⟨rfl, fun j s zs e1 e2 => ?_⟩) (fun i H x H' hi h y => ?_)
  · rcases List.mem_cons.mp h with rfl | h
    · rfl
    · rw [List.mem_singleton.mp h, hl]
  · match j with
    | 0 => cases e1; cases e2; exact h.1
    | 1 => cases e1; cases e2; exact h.2
    | j + 2 => cases e1
  · obtain ⟨T, zs, h1, h2, h3, h4, h5⟩ := y
    have a := h5 0 xs rfl
    have b := h5 1 ys rfl
    have hx := List.getElem?_eq_getElem hi
    have hy := List.getElem?_eq_getElem (show i < ys.length by omega)
    rw [hx] at a
    rw [hy] at b
    obtain ⟨z1, z2, rfl⟩ : ∃ z1 z2, zs = [z1, z2] := by
      match zs, h4 with
      | [z1, z2], _ => exact ⟨z1, z2, rfl⟩
    have a' : z1 = xs[i] := Option.some.inj a
    have b' : z2 = ys[i] := Option.some.inj b
    exact ⟨T, z1, z2, h1, h2, h3, by rw [a']; exact hx, by rw [b']; exact hy⟩
end LZ

set_option Elab.async false
set_option linter.all false
set_option maxRecDepth 100000
set_option maxHeartbeats 2000000
/-! LPO: own operators of slotted instances: !=, binary operators, str(x), len(x), in. -/
namespace LPO
open PySem PySem.Spec PySem.W PyProof.Rows
section
variable {prog : Program} {w : World} {A : Around} {E : Value → Shared → Prop} {s : Shared} {K : Frag} {x C f : Addr} {ox : Obj} {od : Option Obj} {b tb : Value}
theorem bound_b {M : Model} {name : Str} {id : String} {args : List Value} {Q : Option Value → Shared → Prop} (X : K.In s.heap) (I : InstAt s.heap x ox C od) (hs : findIn K (.ref C) name = some (some (.builtin id)))
    (hb : ∀ self, bindSpecial (.builtin id) self = pure (.builtin id, [self])) (h : wpAny M A (call (.builtin id) (.ref x :: args)) (fun v => Q (some v)) E s) : wpAny M A (callSpecialIfBound? (.ref x) name args) Q E s := by
  simp only [callSpecialIfBound?, bindSpecialIfBound?]
  refine wpAny_holding (wpAny_bind (wpAny_bind (wpAny_bind (I.type.here ((looks_findIn X hs).here ?_)))))
  refine wpAny_bind (wpAny_askSetting (wpAny_ite ?_))
  have fin : wpAny M A (call (.builtin id) ([.ref x] ++ args) >>= fun v => pure (some v)) Q E s := wpAny_bind (wpAny_mono h (fun v s' h' => wpAny_pure h') fun _ _ h' => h')
  split
  · exact wpAny_bind ((Looks.of_pure (hb _)).here (wpAny_pure (by exact fin)))
  · exact wpAny_tryCatch (wpAny_bind ((Looks.of_pure (hb _)).here (wpAny_pure (by exact fin))))
theorem bind_ne (self : Value) : bindSpecial (.builtin "object.__ne__") self = pure (.builtin "object.__ne__", [self]) := by kernel_rfl
theorem plain_ne : plainId "object.__ne__" = true := by decide +kernel
/-- x != b by an own == -/
theorem ne_own {Q : Value → Shared → Prop} (hu : A.units + 1 < cLine) (X : K.In s.heap) (I : InstAt s.heap x ox C od) (hb : Looks (model prog w) s.heap (typeOf b) tb) (hn : notFirst K C tb = true) (hm : mroIn K C (.type "object") = some true)
    (hne : findIn K (.ref C) "__ne__" = some (some (.builtin "object.__ne__"))) (hs : findIn K (.ref C) "__eq__" = some (some (.ref f))) (hf : isFn K (.ref f) = true)
    (h : wpAny (model prog w) A.in1 (call (.ref f) [.ref x, b]) (fun v s' => ∃ c, v = .bool c ∧ Q (.bool (!c)) s') E s) : wpAny (model prog w) A (compareOp .NotEq (.ref x) b) Q E s := by
  have one : wpAny (model prog w) A (tryCompare (.ref x) "__ne__" b) (fun r s' => ∃ v, r = some v ∧ Q v s') E s := by
    unfold tryCompare
    refine wpAny_bind (bound_b X I hne bind_ne (wpAny_call (codeAny_call_builtin plain_ne F.cmpEntry_ne (check_slot (i := "object.__ne__") (owner := "object") (n := "__ne__") F.cmpKind_ne F.cmpSplit_ne (I.type.andThen (looks_mroIn X hm)) (F.cmpArgs_ne _ _) ?_))))
    unfold Builtin.«object.__ne__»
    refine wpAny_bind (m := slotArgs "__ne__" 1 _) (wpAny_pure ?_)
    refine wpAny_bind (m := cRoomFor _ _) (wpAny_cRoomFor hu ?_)
    refine wpAny_bind (m := callSpecialIfBound? (.ref x) (Str.ofString "__eq__") _) (ifBound_K X I hs hf (wpAny_mono h (fun v s' hq => ?_) fun _ _ y => y))
    obtain ⟨c, rfl, q⟩ := hq
    refine wpAny_bind (wpAny_truthy_bool (wpAny_pure ?_))
    exact wpAny_pure ⟨_, rfl, q⟩
  show wpAny (model prog w) A (richCompare .NotEq (.ref x) b) Q E s
  unfold richCompare
  simp only [oneThing_ref]
  refine wpAny_holding (wpAny_bind (wpAny_cRoomFor (Nat.lt_of_succ_lt hu) ?_))
  rw [cmpInfo_NotEq]
  refine wpAny_bind (I.type.here (wpAny_bind (hb.here ?_)))
  split
  · rename_i q
    have e : subIn K tb (.ref C) = some false := by
      rcases Bool.or_eq_true_iff.mp hn with e | e
      · rw [beq_iff_eq.mp e] at q; simp at q
      · exact beq_iff_eq.mp e
    refine wpAny_bind ((looks_subIn X e).here ?_)
    simp only [Bool.false_eq_true, if_false]
    refine wpAny_bind (wpAny_mono one (fun r s' z => ?_) fun _ _ e => e)
    obtain ⟨v, rfl, hq⟩ := z
    exact wpAny_pure hq
  · refine wpAny_bind (wpAny_pure ?_)
    simp only [Bool.false_eq_true, if_false]
    refine wpAny_bind (wpAny_mono one (fun r s' z => ?_) fun _ _ e => e)
    obtain ⟨v, rfl, hq⟩ := z
    exact wpAny_pure hq
end
end LPO
namespace LP
open PySem PySem.Spec L2 SlX
open PyProof.Rows hiding St signs
theorem toR {P : Program} {w : World} {K : PySem.W.Frag} {mg : Str → Option Value} {base : Heap} {CX : CXT} {k : Nat} {f : Addr} {sp : Sp} {fd : FuncData} {ps : List Str} (F : FnOk P w K mg base CX k f fd ps sp) (hb : Binds K fd ps []) :
    FnR P w K mg base CX k f sp := (F.raw hb .nil).imp fun vs H Q E h => by rw [List.append_nil]; exact h
section
variable {X : Cx} {CX : CXT} {C g : Addr} {n : Nat} {sp : Sp} {E : XK}
/-- x != y, x an instance of the class at C with an own == at g -/
def rOwnNe (K : PySem.W.Frag) (C : Addr) (sp : Sp) (E : XK) : R2 := fun x y H Q => ∃ a dx vs b C' dy ws, x = .ref a ∧ y = .ref b ∧ Slt H a C dx vs ∧ Slt H b C' dy ws ∧ PySem.W.notFirst K C (.ref C') = true ∧ sp [x, y] H (fun z H' => ∃ c, z = .bl c ∧ Q (.bl (!c)) H') E
theorem op_ownNe (hm : PySem.W.mroIn X.K C (.type "object") = some true) (hne : PySem.W.findIn X.K (.ref C) "__ne__" = some (some (.builtin "object.__ne__"))) (hs : PySem.W.findIn X.K (.ref C) "__eq__" = some (some (.ref g))) (hf : PySem.W.isFn X.K (.ref g) = true)
    (F : FnR X.prog X.w X.K X.mg X.base CX n g sp) (hr : Room (n + 1) X.A) (hx : Passes CX X E) : OpR X (compareOp .NotEq) (rOwnNe X.K C sp E) := by
  intro pins s σ H x y v u Q I rx ry h
  obtain ⟨a, dx, vs, b, C', dy, ws, rfl, rfl, ha, hb, hn, q⟩ := h
  cases (show v = Value.ref a from rx)
  cases (show u = Value.ref b from ry)
  obtain ⟨sl, od, _, J, _⟩ := slt_inst I ha
  obtain ⟨sl', od', _, J', _⟩ := slt_inst I hb
  refine LPO.ne_own (tb := .ref C') (by have := hr.units; omega) I.kIn J J'.type hn hm hne hs hf ?_
  refine wpAny_mono (wpAny_call (run_at (us := [.ref a, .ref b]) (ws := [.ref a, .ref b]) F hr.in1 I.env0.in1 hx I (.cons rfl (.cons rfl .nil)) q)) (fun w s' z => ?_) fun _ _ x => x
  obtain ⟨z', H', I', rz, c, ez, qz⟩ := z
  subst ez
  cases (show w = Value.bool c from rz)
  exact ⟨c, rfl, .bl (!c), H', I', rfl, qz⟩
/-- x op y, both instances of the class at C whose def for op is at g -/
def rOwnB (C : Addr) (sp : Sp) (E : XK) : R2 := fun x y H Q => ∃ a dx vs b dy ws, x = .ref a ∧ y = .ref b ∧ Slt H a C dx vs ∧ Slt H b C dy ws ∧ sp [x, y] H Q E
theorem op_ownB {op : Operator} (hc : PySem.W.selfFirst X.K C = true) (hs : PySem.W.findIn X.K (.ref C) (PySem.dunder op.info.2) = some (some (.ref g))) (hf : PySem.W.isFn X.K (.ref g) = true)
    (F : FnR X.prog X.w X.K X.mg X.base CX n g sp) (hr : Room n X.A) (hx : Passes CX X E) : OpR X (binaryOp op) (rOwnB C sp E) := by
  intro pins s σ H x y v u Q I rx ry h
  obtain ⟨a, dx, vs, b, dy, ws, rfl, rfl, ha, hb, q⟩ := h
  cases (show v = Value.ref a from rx)
  cases (show u = Value.ref b from ry)
  obtain ⟨sl, od, _, J, _⟩ := slt_inst I ha
  obtain ⟨sl', od', _, J', _⟩ := slt_inst I hb
  obtain ⟨m, hF⟩ := I.fr
  refine PySem.W.binop_K (op := op) hF I.ok.mod.kin J J'.type hc hs hf ?_
  refine wpAny_mono (wpAny_call (run_fnR (us := [.ref a, .ref b]) (vs := [.ref a, .ref b]) F hr hx I (.cons rfl (.cons rfl .nil)) q)) (fun w s' z => ?_) fun _ _ x => x
  obtain ⟨z', H', I', rz, qz⟩ := z
  exact cmpback rz ⟨z', H', I', rz, qz⟩
/-- str(x) by an own __str__ -/
def rStrOwn (C : Addr) (sp : Sp) (E : XK) : List V → Hp → VK → Prop := fun xs H Q => ∃ a dx vs, xs = [V.ref a] ∧ Slt H a C dx vs ∧ sp [.ref a] H (fun z H' => ∃ y, z = .str y ∧ Q z H') E
theorem call_strOwn (hs : PySem.W.findIn X.K (.ref C) "__str__" = some (some (.ref g))) (hf : PySem.W.isFn X.K (.ref g) = true) (F : FnR X.prog X.w X.K X.mg X.base CX n g sp) (hr : Room (n + 2) X.A) (hx : Passes CX X E) : CallR X (.type "str") (rStrOwn C sp E) := by
  intro pins s σ H xs us Q I r h
  obtain ⟨a, dx, vs, rfl, hsl, q⟩ := h
  obtain ⟨u, rfl, ru⟩ := r.one
  cases (show u = Value.ref a from ru)
  obtain ⟨sl, od, _, J, _⟩ := slt_inst I hsl
  have hr2 : Room n X.A.in1.in1 := (show Room (n + 1) X.A.in1 from Room.in1 hr).in1
  refine PySem.W.kso_call hr2.units0 I.kIn J hs hf (wpAny_mono (wpAny_call (run_at (us := [.ref a]) (ws := [.ref a]) F hr2 I.env0.in1.in1 hx I (.cons rfl .nil) q)) (fun w s' z => ?_) fun _ _ x => x)
  obtain ⟨z', H', I', rz, y, ey, qz⟩ := z
  subst ey
  obtain ⟨t, e⟩ := (show ∃ t, w = Value.str y t from rz)
  cases e
  exact ⟨.str y, H', I', ⟨t, rfl⟩, qz⟩
end
end LP

set_option Elab.async false
set_option linter.all false
set_option maxRecDepth 100000
set_option maxHeartbeats 2000000
/-! LPR: comprehensions whose items are told by a relation that new objects keep; two generators; s.index(t) that is found. -/
namespace LP
open PySem PySem.Spec L2
open PyProof.Rows hiding St signs

/-- all but lists stays -/
def NL (H H' : Hp) : Prop := ∀ b o, (∀ xs, o ≠ HO.lst xs) → H b = some o → H' b = some o
theorem Same.nl {H H' : Hp} (h : Same H H') : NL H H' := fun b o _ e => h b o e
theorem NL.refl (H : Hp) : NL H H := fun _ _ _ e => e
theorem NL.trans {A B C : Hp} (h : NL A B) (k : NL B C) : NL A C := fun b o n e => k b o n (h b o n e)
theorem NL.put {H : Hp} {a : Addr} {xs ys : List V} (h : H a = some (.lst xs)) : NL H (upd H a (.lst ys)) := fun b o n e => by
  rw [upd_ne (fun z => ?_)]
  · exact e
  · rw [z, h] at e
    cases e
    exact n xs rfl
theorem NL.tup {K : PySem.W.Frag} {H H' : Hp} {a : Addr} {xs : List V} (e : NL H H') (h : SqT K H a xs) : SqT K H' a xs := by
  rcases h with (h | ⟨o, h⟩) | h
  · exact .inl (.inl (e _ _ (fun _ z => nomatch z) h))
  · exact .inl (.inr ⟨o, e _ _ (fun _ z => nomatch z) h⟩)
  · exact .inr h
/-- the list that is being written is new -/
theorem Same.lay {H H' : Hp} {D : Addr} {o : HO} (h : Same H H') (hD : H D = none) : Same H (upd H' D o) := fun b u e => by
  rw [upd_ne (ne_of_none e hD)]
  exact h b u e
theorem lc_rel {J : It} {n : Nat} {G : Hp → Prop} {Y : Nat → Hp → V → Hp → Prop} (W : Walk J n G Y) {g : TG} {te : TE} {vs : List Nat} {σ : St} {H : Hp} {Q : VK} (Rl : Nat → V → Hp → Prop)
    (mono : ∀ i y H1 H2, NL H1 H2 → Rl i y H1 → Rl i y H2) (hG : ∀ H1, Same H H1 → G H1) (hn : n ≤ 1000000)
    (he : ∀ i x H1 H2, i < n → Same H H1 → Y i H1 x H2 → ∀ R : VK, (∀ y H3, Same H1 H3 → Rl i y H3 → R y H3) → g x (wipe σ vs) H2 fun σ2 H3 => wipe σ2 vs = wipe σ vs ∧ te σ2 H3 R)
    (q : ∀ p ys H2, H p = none → Same H H2 → H2 p = some (.lst ys) → ys.length = n → (∀ i y, ys[i]? = some y → Rl i y H2) → Q (.ref p) H2) : LcLoop J g tYes te vs σ H Q := by
  intro D hD
  obtain ⟨Pv, hP⟩ : ∃ Pv : Nat → Hp → Prop, ∀ i H', Pv i H' ↔ (Same H H' ∧ ∃ ys, H' D = some (.lst ys) ∧ ys.length = i ∧ ∀ (j : Nat) y, ys[j]? = some y → Rl j y H') := ⟨_, fun _ _ => Iff.rfl⟩
  refine lc_it W Pv ((hP _ _).mpr ⟨Same.new hD, [], upd_same, rfl, fun j y z => by simp at z⟩) (fun i H' _ p => hG H' ((hP _ _).mp p).1) ?_ ?_
  · intro i x H1 H2 hi p hy
    obtain ⟨sm, ys, hd, hl, hr⟩ := (hP _ _).mp p
    refine he i x H1 H2 hi sm hy (fun y H4 => ∃ acc, H4 D = some (.lst acc) ∧ acc.length < sizeLine ∧ Pv (i + 1) (upd H4 D (.lst (acc ++ [y])))) fun y H3 s3 r => ⟨ys, s3 _ _ hd, ?_, (hP _ _).mpr ?_⟩
    · exact Nat.lt_of_le_of_lt (by omega : ys.length ≤ 1000000) (by decide)
    · have nl : NL H3 (upd H3 D (.lst (ys ++ [y]))) := NL.put (s3 _ _ hd)
      refine ⟨Same.lay (sm.trans s3) hD, ys ++ [y], upd_same, by rw [List.length_append, hl]; rfl, fun j z e => ?_⟩
      rw [List.getElem?_append] at e
      by_cases hj : j < ys.length
      · rw [if_pos hj] at e
        exact mono j z _ _ ((Same.nl s3).trans nl) (hr j z e)
      · rw [if_neg hj] at e
        have hz : j - ys.length = 0 := by
          have := (List.getElem?_eq_some_iff.mp e).1
          rw [List.length_singleton] at this
          omega
        rw [hz] at e
        have ej : j = i := by omega
        rw [ej]
        have ey : y = z := Option.some.inj e
        rw [← ey]
        exact mono i y _ _ nl r
  · intro H' p
    obtain ⟨sm, ys, hd, hl, hr⟩ := (hP _ _).mp p
    exact q D ys H' hD sm hd hl hr
/-- items that are values: the i-th is f i -/
theorem lc_val {J : It} {n : Nat} {G : Hp → Prop} {Y : Nat → Hp → V → Hp → Prop} (W : Walk J n G Y) {g : TG} {te : TE} {vs : List Nat} {σ : St} {H : Hp} {Q : VK} (f : Nat → V)
    (hG : ∀ H1, Same H H1 → G H1) (hn : n ≤ 1000000)
    (he : ∀ i x H1 H2, i < n → Same H H1 → Y i H1 x H2 → ∀ R : VK, (∀ H3, Same H1 H3 → R (f i) H3) → g x (wipe σ vs) H2 fun σ2 H3 => wipe σ2 vs = wipe σ vs ∧ te σ2 H3 R)
    (q : ∀ p H2, H p = none → Same H H2 → H2 p = some (.lst ((List.range n).map f)) → Q (.ref p) H2) : LcLoop J g tYes te vs σ H Q := by
  refine lc_rel W (fun i y _ => y = f i) (fun _ _ _ _ _ h => h) hG hn (fun i x H1 H2 hi sm hy R hR => he i x H1 H2 hi sm hy R fun H3 s3 => hR _ _ s3 rfl) fun p ys H2 hp sm hl hlen hr => q p H2 hp sm ?_
  rw [hl]
  congr 2
  refine List.ext_getElem? fun j => ?_
  rw [List.getElem?_map]
  by_cases hj : j < n
  · rw [List.getElem?_range hj]
    have e : ys[j]? = some ys[j] := List.getElem?_eq_getElem (by omega)
    rw [e, hr j _ e]
    rfl
  · rw [List.getElem?_eq_none (by omega), List.getElem?_eq_none (by rw [List.length_range]; omega)]
    rfl
/-- two generators, the test of each item true: all(..) of it -/
def Lc2Loop (J : It) (g : TG) (wi1 : TI) (g1 : TG) (te : TE) (vs vs1 : List Nat) (σ : St) (H1 : Hp) (Q : VK) : Prop := ∀ D, H1 D = none → ∃ W : Nat → Nat → Hp → Prop, (∃ m, W 0 m (upd H1 D (.lst []))) ∧ ∀ i m H, W i m H →
  (J.stop i H ∧ Q (.ref D) H) ∨ (J.go i H ∧ ∃ Nx : Hp → Prop, (∀ H', Nx H' → ∃ m', m' < m ∧ W (i + 1) m' H') ∧ ∀ x H', J.yld i H x H' → g x (wipe σ vs) H' fun σ2 H2 => wipe σ2 vs = wipe σ vs ∧ tYes σ2 H2 fun b H3 =>
    if b = true then wi1 σ2 H3 fun J1 H4 => ∃ W1 : Nat → Nat → Hp → Prop, (∃ m, W1 0 m H4) ∧ ∀ j k H, W1 j k H →
      (J1.stop j H ∧ Nx H) ∨ (J1.go j H ∧ ∃ Nx1 : Hp → Prop, (∀ H', Nx1 H' → ∃ k', k' < k ∧ W1 (j + 1) k' H') ∧ ∀ x H', J1.yld j H x H' → g1 x (wipe σ2 vs1) H' fun σ3 H5 => wipe σ3 vs1 = wipe σ2 vs1 ∧ tYes σ3 H5 fun b H6 =>
        if b = true then te σ3 H6 fun y H7 => ∃ acc, H7 D = some (.lst acc) ∧ acc.length < sizeLine ∧ Nx1 (upd H7 D (.lst (acc ++ [y]))) else Nx1 H6)
    else Nx H3)
theorem tLc2_eq (wi : TI) (g : TG) (wi1 : TI) (g1 : TG) (te : TE) (vs vs1 : List Nat) (σ : St) (H : Hp) (Q : VK) : tLc2 wi g tYes wi1 g1 tYes te vs vs1 σ H Q = wi σ H fun J H1 => Lc2Loop J g wi1 g1 te vs vs1 σ H1 Q := rfl
/-- every item is v -/
theorem lc2_all {J : It} {k : Nat} {G : Hp → Prop} {xs : List V} (W : Walk J xs.length G (YAt xs)) {j j1 : Nat} {wi1 : TI} {te : TE} {vs vs1 : List Nat} {σ : St} {H : Hp} {Q : VK} (v : V)
    (hG : ∀ H1, Same H H1 → G H1) (hn : xs.length * k ≤ 1000000) (hw : ∀ x, wipe ((wipe σ vs).set j (some x)) vs = wipe σ vs) (hw1 : ∀ x y, wipe ((wipe ((wipe σ vs).set j (some x)) vs1).set j1 (some y)) vs1 = wipe ((wipe σ vs).set j (some x)) vs1)
    (he : ∀ x, x ∈ xs → ∀ H1, Same H H1 → ∀ R : It → Hp → Prop, (∀ J1 G1 ys, Walk J1 ys.length G1 (YAt ys) → ys.length = k → (∀ H5, Same H H5 → G1 H5) →
      (∀ y, y ∈ ys → ∀ H5, Same H H5 → ∀ R' : VK, (∀ H7, Same H5 H7 → R' v H7) → te ((wipe ((wipe σ vs).set j (some x)) vs1).set j1 (some y)) H5 R') → R J1 H1) → wi1 ((wipe σ vs).set j (some x)) H1 R)
    (q : ∀ p H2, H p = none → Same H H2 → H2 p = some (.lst (List.replicate (xs.length * k) v)) → Q (.ref p) H2) : Lc2Loop J (gName j) wi1 (gName j1) te vs vs1 σ H Q := by
  intro D hD
  obtain ⟨Pv, hP⟩ : ∃ Pv : Nat → Hp → Prop, ∀ i H', Pv i H' ↔ (Same H H' ∧ H' D = some (.lst (List.replicate (i * k) v))) := ⟨_, fun _ _ => Iff.rfl⟩
  refine ⟨fun i m H' => m = xs.length - i ∧ i ≤ xs.length ∧ Pv i H', ⟨xs.length, rfl, Nat.zero_le _, (hP _ _).mpr ⟨Same.new hD, by rw [Nat.zero_mul]; exact upd_same⟩⟩, ?_⟩
  rintro i m H1 ⟨rfl, hi, p⟩
  obtain ⟨sm, hd⟩ := (hP _ _).mp p
  by_cases hlt : i < xs.length
  · refine .inr ⟨W.goes i H1 hlt (hG H1 sm), Pv (i + 1), fun H' p' => ⟨xs.length - (i + 1), by omega, rfl, hlt, p'⟩, fun x H' y => ?_⟩
    obtain ⟨rfl, ex⟩ := W.yields i H1 x H' hlt (hG H1 sm) y
    refine ⟨hw x, he x (List.mem_of_getElem? ex) H' sm _ fun J1 G1 ys W1 hl hG1 hte => ?_⟩
    obtain ⟨P1, hP1⟩ : ∃ P1 : Nat → Hp → Prop, ∀ j' H'', P1 j' H'' ↔ (Same H H'' ∧ H'' D = some (.lst (List.replicate (i * k + j') v))) := ⟨_, fun _ _ => Iff.rfl⟩
    refine ⟨fun j' m' H'' => m' = ys.length - j' ∧ j' ≤ ys.length ∧ P1 j' H'', ⟨ys.length, rfl, Nat.zero_le _, (hP1 _ _).mpr ⟨sm, hd⟩⟩, ?_⟩
    rintro j' m' H2 ⟨rfl, hj, p1⟩
    obtain ⟨sm2, hd2⟩ := (hP1 _ _).mp p1
    by_cases hlt2 : j' < ys.length
    · refine .inr ⟨W1.goes j' H2 hlt2 (hG1 H2 sm2), P1 (j' + 1), fun H'' p'' => ⟨ys.length - (j' + 1), by omega, rfl, hlt2, p''⟩, fun y' H'' y2 => ?_⟩
      obtain ⟨rfl, ey⟩ := W1.yields j' H2 y' H'' hlt2 (hG1 H2 sm2) y2
      refine ⟨hw1 x y', hte y' (List.mem_of_getElem? ey) H'' sm2 _ fun H7 s7 => ⟨_, s7 _ _ hd2, ?_, (hP1 _ _).mpr ⟨Same.lay (sm2.trans s7) hD, ?_⟩⟩⟩
      · rw [List.length_replicate]
        refine Nat.lt_of_le_of_lt (?_ : i * k + j' ≤ 1000000) (by decide)
        have h1 : i * k + k ≤ xs.length * k := by
          have := Nat.mul_le_mul_right k (show i + 1 ≤ xs.length from hlt)
          rw [Nat.succ_mul] at this
          exact this
        omega
      · rw [upd_same, show i * k + (j' + 1) = (i * k + j') + 1 by omega, List.replicate_succ']
    · have e : j' = ys.length := by omega
      subst e
      refine .inl ⟨W1.stops H2 (hG1 H2 sm2), (hP _ _).mpr ⟨sm2, ?_⟩⟩
      rw [hd2, hl, Nat.succ_mul]
  · have e : i = xs.length := by omega
    subst e
    exact .inl ⟨W.stops H1 (hG H1 sm), q D H1 hD sm hd⟩

/-! ### s.index(t), found -/
def rIxOf : V → List V → Hp → VK → Prop := fun x xs H Q => ∃ (a b : Str) (k : Nat), x = .str a ∧ xs = [.str b] ∧ Txt.index0 a b = some k ∧ Q (.int (k : Nat)) H
theorem mt_ixOf {X : Cx} : MtR X "str.index" rIxOf := by
  intro pins s σ H x xs v us Q I rx rs h
  obtain ⟨a, b, k, rfl, rfl, hk, q⟩ := h
  obtain ⟨t, rfl⟩ := rx
  cases rs with
  | cons r1 rs =>
    cases rs
    obtain ⟨u, rfl⟩ := r1
    unfold Txt.index0 at hk
    cases e : Builtin.Str.occurrences a b 0 a.length 1 with
    | nil =>
      rw [e] at hk
      cases hk
    | cons k' rest =>
      rw [e] at hk
      cases hk
      exact PySem.SC.index e ⟨.int (k : Nat), H, I.tok _, ⟨_, rfl⟩, q⟩
end LP

set_option Elab.async false
set_option linter.all false
set_option maxRecDepth 100000
set_option maxHeartbeats 2000000
/-! LPB: a slotted class of the text with its methods and properties, in short. -/
namespace LP
open PySem PySem.Spec L2 SlX
open PyProof.Rows hiding St signs

/-- both ways; simp does not see it -/
structure Bi (a b : Prop) : Prop where
  mp : a → b
  mpr : b → a
theorem inv_bi {α : Type} (P : α → L2.St → Hp → Prop) : ∃ Pv : α → L2.St → Hp → Prop, ∀ i σ H, Bi (Pv i σ H) (P i σ H) := ⟨P, fun _ _ _ => ⟨id, id⟩⟩
theorem inv_bi2 {α : Type} (P : α → Hp → Prop) : ∃ Pv : α → Hp → Prop, ∀ i H, Bi (Pv i H) (P i H) := ⟨P, fun _ _ => ⟨id, id⟩⟩
theorem ps_dead {X : Cx} {st : Stmt} : PS X st (fun _ _ _ => False) := ⟨fun _ _ _ _ _ _ h => h.elim⟩
theorem pe_dead {X : Cx} {e : Expr} : PE X e (fun _ _ _ => False) := ⟨fun _ _ _ _ _ _ h => h.elim⟩
/-- a slotted class -/
structure Ob (K : PySem.W.Frag) (mg : Str → Option Value) (x : Str) (C : Addr) : Prop where
  g : mg x = some (.ref C)
  sc : SCls K C
  si : SIsi K C
  kp : PySem.W.keepIn K (.ref C) = true
  mks : PySem.W.makesIn K C = true
  ne : PySem.W.findIn K (.ref C) "__ne__" = some (some (.builtin "object.__ne__"))
  sf : PySem.W.selfFirst K C = true
  nf : PySem.W.notFirst K C (.ref C) = true
  kit : PySem.W.kitOne K (.ref C) (.ref C) = some true
def obB (K : PySem.W.Frag) (C : Addr) : Bool :=
  PySem.W.plainGet K C Str.empty && PySem.W.isClsIn K C && PySem.W.plainOver K C &&
  decide (PySem.W.findIn K (.ref C) "__setattr__" = some (some (.builtin "object.__setattr__"))) &&
  decide (PySem.W.findIn K (.ref C) "__class__" = some (some (.builtin "object.__class__"))) &&
  decide (PySem.W.specialIn K (.builtin "object.__class__") "__get__" = some (some (.builtin "getset_descriptor.__get__"))) &&
  decide (PySem.W.takesIn K (.builtin "object.__class__") = some true) && decide (PySem.W.mroIn K C (.type "object") = some true) &&
  PySem.W.keepIn K (.ref C) && PySem.W.makesIn K C && decide (PySem.W.findIn K (.ref C) "__ne__" = some (some (.builtin "object.__ne__"))) &&
  PySem.W.selfFirst K C && PySem.W.notFirst K C (.ref C) && decide (PySem.W.kitOne K (.ref C) (.ref C) = some true)
theorem ob_of {K : PySem.W.Frag} {mg : Str → Option Value} {x : Str} {C : Addr} (g : mg x = some (.ref C)) (h : obB K C = true) : Ob K mg x C := by
  unfold obB at h
  simp only [Bool.and_eq_true, decide_eq_true_eq] at h
  obtain ⟨⟨⟨⟨⟨⟨⟨⟨⟨⟨⟨⟨⟨h1, h2⟩, h3⟩, h4⟩, h5⟩, h6⟩, h7⟩, h8⟩, h9⟩, h10⟩, h11⟩, h12⟩, h13⟩, h14⟩ := h
  exact ⟨g, ⟨h1, h2, h3, h4⟩, ⟨h5, h6, h7, h8⟩, h9, h10, h11, h12, h13, h14⟩
/-- the slot f at the place i -/
def slB (K : PySem.W.Frag) (C p : Addr) (f : Str) (i : Nat) : Bool :=
  decide (PySem.W.findIn K (.ref C) f = some (some (.ref p))) && decide (PySem.W.specialIn K (.ref p) "__get__" = some (some (.builtin "member_descriptor.__get__"))) &&
  decide (PySem.W.takesIn K (.ref p) = some true) && decide (PySem.W.typeIn K (.ref p) = some (.type "member_descriptor")) && decide (PySem.W.slotIn K p C = some i) && decide (i < 1000)
theorem sl_of {K : PySem.W.Frag} {C p : Addr} {f : Str} {i : Nat} (h : slB K C p f i = true) : Slot1 K C f p i := by
  unfold slB at h
  simp only [Bool.and_eq_true, decide_eq_true_eq] at h
  obtain ⟨⟨⟨⟨⟨h1, h2⟩, h3⟩, h4⟩, h5⟩, h6⟩ := h
  exact ⟨h1, h2, h3, h4, h5, h6⟩
/-- a def of the class -/
structure Mt (K : PySem.W.Frag) (C : Addr) (m q : Str) (st : Stmt) (ps : List Str) (f : Addr) (fd : FuncData) : Prop where
  F : Fun K m q st f fd
  at_ : PySem.W.findIn K (.ref C) m = some (some (.ref f))
  fn : PySem.W.isFn K (.ref f) = true
  b : Binds K fd ps []
theorem Mt.m {K : PySem.W.Frag} {C : Addr} {m q : Str} {st : Stmt} {ps : List Str} {f : Addr} {fd : FuncData} (D : Mt K C m q st ps f fd) : Meth K C m f := ⟨D.at_, D.fn, D.F.kp⟩
/-- a property of the class -/
structure Pt (K : PySem.W.Frag) (C : Addr) (m q : Str) (st : Stmt) (ps : List Str) (p f : Addr) (fd : FuncData) : Prop where
  F : Fun K m q st f fd
  at_ : PySem.W.findIn K (.ref C) m = some (some (.ref p))
  get : PySem.W.specialIn K (.ref p) "__get__" = some (some (.builtin "property.__get__"))
  tk : PySem.W.takesIn K (.ref p) = some true
  rc : ∃ rest, PySem.W.recIn K p "property" = some (.ref f :: rest)
  b : Binds K fd ps []

section
variable {X : Cx} {k : Nat} {C f p : Addr} {fd : FuncData} {ps : List Str} {sp : Sp} {x m q : Str} {st : Stmt} {np pos apos : Pos} {e o : Expr} {es : List Expr} {ta : TE} {t : TA}
/-- o.f, the i-th slot of an instance of the class at C -/
def tSlot (C : Addr) (i : Nat) (ta : TE) : TE := fun σ H Q => ta σ H fun x H1 => ∃ a dx vs v, x = .ref a ∧ Slt H1 a C dx vs ∧ vs[i]? = some (some v) ∧ Q v H1
theorem pe_slot {g : Str} {i : Nat} (O : Ob X.K X.mg x C) (S : Slot1 X.K C g p i) (he : PE X e ta) (hb : attributeBase e g X.env (eval e X.env) = eval e X.env := by rfl) : PE X (.Attribute e g pos) (tSlot C i ta) := by
  refine ⟨fun pins s σ H Q I h => ?_⟩
  refine attr_of hb (thn (he.run pins s σ H _ I h) fun u s1 ⟨x, H1, I1, rx, a, dx, vs, v, ex, hs, l, q⟩ => ?_)
  subst ex
  obtain rfl : u = Value.ref a := rx
  exact getslot_ok I1 hs O.sc S l fun u' s2 I2 ru => ⟨v, H1, I2, ru, q⟩
/-- o.m, a property -/
theorem pe_pr (O : Ob X.K X.mg x C) (D : Pt X.K C m q st ps p f fd) (G : FnOk X.prog X.w X.K X.mg X.base CX0 k f fd ps sp) (hr : Room (k + 1) X.A) (he : PE X o ta) (hb : attributeBase o m X.env (eval o X.env) = eval o X.env := by rfl) :
    PE X (.Attribute o m pos) (tPropSl C sp E0 ta) := pe_propSl he O.sc D.at_ D.get D.tk D.rc (toR G D.b) hr (fun _ _ _ _ z => z) hb
/-- o.m(e, ..) -/
theorem pe_mt {pl : Sem Bool} (O : Ob X.K X.mg x C) (D : Mt X.K C m q st ps f fd) (G : FnOk X.prog X.w X.K X.mg X.base CX0 k f fd ps sp) (hr : Room k X.A) (he : PE X o ta) (ha : PA X (e :: es) t)
    (hst : starEach (e :: es) X.env = (false, eval e X.env) :: starEach es X.env := by rfl) (hpl : (backTo pos (starEach es X.env)).any (·.1) = false := by rfl)
    (ht : eval (.Call (.Attribute o m apos) (e :: es) [] pos) X.env = (do
      let ov ← eval o X.env
      standAt apos.atName
      let (f, first) ← holding [ov] (getMethod ov m pl)
      callWith pos f first (backTo pos (starEach (e :: es) X.env)) (backToKw pos (keywordEach [] X.env))) := by rfl) :
    PE X (.Call (.Attribute o m apos) (e :: es) [] pos) (tMethSl C sp E0 ta t) := pe_methSl he O.sc D.m (toR G D.b) hr pass0 ha hst hpl ht
theorem pe_mt0 {pl : Sem Bool} (O : Ob X.K X.mg x C) (D : Mt X.K C m q st ps f fd) (G : FnOk X.prog X.w X.K X.mg X.base CX0 k f fd ps sp) (hr : Room k X.A) (he : PE X o ta)
    (ht : eval (.Call (.Attribute o m apos) [] [] pos) X.env = (do
      let ov ← eval o X.env
      standAt apos.atName
      let (f, first) ← holding [ov] (getMethod ov m pl)
      callWith pos f first (backTo pos (starEach [] X.env)) (backToKw pos (keywordEach [] X.env))) := by rfl) :
    PE X (.Call (.Attribute o m apos) [] [] pos) (tMethSl C sp E0 ta tNil) := pe_methSl0 he O.sc D.m (toR G D.b) hr pass0 ht
/-- C(e, ..) -/
theorem pe_mkS (O : Ob X.K X.mg x C) (D : Mt X.K C "__init__" q st ps f fd) (G : FnOk X.prog X.w X.K X.mg X.base CX0 k f fd ps sp) (hr : Room (k + 1) X.A) (hg : Gl X x) (ha : PA X (e :: es) t) (hdb : (x == ("__debug__" : Str)) = false := by decide)
    (he : starEach (e :: es) X.env = (false, eval e X.env) :: starEach es X.env := by rfl) (hpl : (backTo pos (starEach es X.env)).any (·.1) = false := by rfl) : PE X (.Call (.Name x np) (e :: es) [] pos) (StX.tMakeR C sp E0 t) :=
  StX.pe_makeR ⟨O.mks, D.at_, D.fn, O.kp⟩ (toR G D.b) hr hg O.g pass0 ha hdb he hpl
theorem op_eqS (O : Ob X.K X.mg x C) (D : Mt X.K C "__eq__" q st ps f fd) (G : FnOk X.prog X.w X.K X.mg X.base CX0 k f fd ps sp) (hr : Room k X.A) : OpR X (compareOp .Eq) (rOwn X.K C sp E0) :=
  op_own (fun _ _ => rfl) D.at_ D.fn (toR G D.b) hr pass0
theorem op_neS (O : Ob X.K X.mg x C) (D : Mt X.K C "__eq__" q st ps f fd) (G : FnOk X.prog X.w X.K X.mg X.base CX0 k f fd ps sp) (hr : Room (k + 1) X.A) : OpR X (compareOp .NotEq) (rOwnNe X.K C sp E0) :=
  op_ownNe O.si.cm O.ne D.at_ D.fn (toR G D.b) hr pass0
theorem op_binS {op : Operator} (O : Ob X.K X.mg x C) (D : Mt X.K C (PySem.dunder op.info.2) q st ps f fd) (G : FnOk X.prog X.w X.K X.mg X.base CX0 k f fd ps sp) (hr : Room k X.A) : OpR X (binaryOp op) (rOwnB C sp E0) :=
  op_ownB O.sf D.at_ D.fn (toR G D.b) hr pass0
theorem call_strS (D : Mt X.K C "__str__" q st ps f fd) (G : FnOk X.prog X.w X.K X.mg X.base CX0 k f fd ps sp) (hr : Room (k + 2) X.A) : CallR X (.type "str") (rStrOwn C sp E0) :=
  call_strOwn D.at_ D.fn (toR G D.b) hr pass0
/-- isinstance(x, C), x of the class itself -/
def rIsS (C : Addr) : List V → Hp → VK → Prop := fun xs H Q => ∃ a dx vs, xs = [V.ref a, .ref C] ∧ Slt H a C dx vs ∧ Q (.bl true) H
theorem call_isS (O : Ob X.K X.mg x C) : CallR X (.builtin "isinstance") (rIsS C) := by
  intro pins s σ H xs us Q I r h
  obtain ⟨a, dx, vs, rfl, hs, q⟩ := h
  exact call_isiSl (.ref C) pins s σ H _ us Q I r ⟨a, C, dx, vs, .ref C, true, rfl, rfl, fun w e => e, hs, O.sc, O.si, O.kit, q⟩
/-- x(e, ..) by a promise by positional values -/
theorem pe_dfR (F : FnR X.prog X.w X.K X.mg X.base CX0 k f sp) (hr : Room k X.A) (hk : PySem.W.keepIn X.K (.ref f) = true) (hg : Gl X x) (hm : X.mg x = some (.ref f)) (ha : PA X (e :: es) t) (hdb : (x == ("__debug__" : Str)) = false := by decide)
    (he : starEach (e :: es) X.env = (false, eval e X.env) :: starEach es X.env := by rfl) (hpl : (backTo pos (starEach es X.env)).any (·.1) = false := by rfl) :
    PE X (.Call (.Name x np) (e :: es) [] pos) (fun σ H Q => t σ H fun vs H1 => sp vs H1 Q E0) := by
  refine ⟨fun pins s σ H Q I h => ?_⟩
  refine wpAny_Call_Name_kw (ld_glob I hg hm ?_ hdb)
  refine PySem.W.callWith_K (h₀ := X.base) I.ok.mod.kin hk (thn (ha.run pos pins s σ H _ I h) fun us s1 ⟨vs, H1, I1, r, q⟩ => ⟨I1.kIn, ?_⟩) he hpl
  exact wpAny_call (run_fnR F hr pass0 I1 r q)
end
/-- def f( *v) of the text -/
structure Sf (K : PySem.W.Frag) (mg : Str → Option Value) (x : Str) (st : Stmt) (pv : Str) (f : Addr) (fd : FuncData) : Prop where
  F : Fun K x x st f fd
  g : mg x = some (.ref f)
  b : ∀ rest : List Value, bindArgs fd ⟨rest, []⟩ = (newTuple rest >>= fun t => pure [(pv, t)])
theorem Sf.ok {P : Program} {w : World} {K : PySem.W.Frag} {mg : Str → Option Value} {base : Heap} {x : Str} {st : Stmt} {pv : Str} {f : Addr} {fd : FuncData} {N : List Str} {k : Nat} {sp : Sp} (D : Sf K mg x st pv f fd) (S : FnScope N [pv] (defScope st))
    (hbody : ∀ (cdv : Value) (A : Around) (outer : List Env) (s : Shared) (H : Hp) (vs : List V) (Q : VK) (E : XK), Room k (A.deeper (envOfC x (defScope st) s.heap.objs.size f cdv)) → sp vs H Q E →
      ∃ t, PSs (cxOf CX0 P w K mg base N x (defScope st) f cdv A outer s H E).nox (defBody st) t ∧ t { nx := fun _ H' => Q .non H', rt := Q } (start N vs) H) :
    FnR P w K mg base CX0 (k + 1) f (fun vs H Q E => vs.length ≤ sizeLine ∧ ∀ p, H p = none → sp [V.ref p] (upd H p (.tup vs)) Q E) := by
  obtain ⟨oc, od, kV, doc, pm, an, cdv, ct, osl, rfl, lk, hcd⟩ := D.F.ex
  refine (StX.fn_star (ps := []) (pv := pv) (sp := sp) lk hcd S StX.cxUp_none (fun us rest hl => ?_) fun A outer s H vs Q E hr hsp => ?_).imp fun vs H Q E h => ⟨[], vs, rfl, rfl, h.1, h.2⟩
  · have e : us = [] := List.length_eq_zero_iff.mp hl
    subst e
    exact D.b rest
  · obtain ⟨t, h, q⟩ := hbody cdv A outer s H vs Q E hr hsp
    exact ⟨t, h.nox, q⟩
theorem Same.slt {H H' : Hp} {a C dx : Addr} {vs : List (Option V)} (e : Same H H') (h : Slt H a C dx vs) : Slt H' a C dx vs := by
  rcases h with ⟨h1, h2⟩ | ⟨h1, h2⟩
  · exact .inl ⟨e _ _ h1, h2⟩
  · exact .inr ⟨e _ _ h1, e _ _ h2⟩
/-- behind a store into a new instance: all that was there stays -/
theorem Same.made {H : Hp} {x dx C : Addr} {vs : List (Option V)} (hx : H x = none) (hd : H dx = none) : Same H (slH (upd (upd H dx (.own x)) x (.ins C dx [])) x C dx vs) := fun b o e => by
  have h1 := ne_of_none e hx
  have h2 := ne_of_none e hd
  rw [slH_ne h1 h2, upd_ne h1, upd_ne h2]
  exact e
end LP
/-! ### the same rules with the written part told: for use within comprehensions -/
namespace LP
open PySem PySem.Spec L2 SlX
open PyProof.Rows hiding St signs
section
variable {X : Cx} {K : PySem.W.Frag}
def rLenS (K : PySem.W.Frag) : List V → Hp → VK → Prop := fun xs H Q => ∃ p ys, xs = [.ref p] ∧ (SqL K H p ys ∨ SqT K H p ys) ∧ Q (.int ys.length) H
theorem call_lenK (hK : X.K = K) : CallR X (.builtin "len") (rLenS K) := by subst hK; exact call_len_seq
theorem ix_tupK (hK : X.K = K) : IxR X (rIxT K) := by subst hK; exact ix_tup
theorem ix_listK (hK : X.K = K) : IxR X (rIxL K) := by subst hK; exact ix_list
def rTupOf (K : PySem.W.Frag) : List V → Hp → VK → Prop := fun xs H Q => ∃ p ys, xs = [.ref p] ∧ ((SqL K H p ys ∧ ∀ l, H l = none → Q (.ref l) (upd H l (.tup ys))) ∨ (SqT K H p ys ∧ Q (.ref p) H))
theorem call_tupleK (hK : X.K = K) : CallR X (.type "tuple") (rTupOf K) := by subst hK; exact call_tuple_of
theorem cr_minK' (hK : X.K = K) (hc : X.calm = true) : CallR X (.builtin "min") (rMin K) := by subst hK; exact cr_min hc
theorem cr_maxK' (hK : X.K = K) (hc : X.calm = true) : CallR X (.builtin "max") (rMax K) := by subst hK; exact cr_max hc
theorem pi_tupK {tg l : Expr} {tl : TE} (hK : X.K = K) (hl : PE X l tl) : PI X tg l (iTup K tl) := by subst hK; exact pi_tup hl
theorem pi_listK {tg l : Expr} {tl : TE} (hK : X.K = K) (hl : PE X l tl) : PI X tg l (iList K tl) := by subst hK; exact pi_list hl
theorem pi_zipNK {tg e : Expr} {es : List Expr} {ta : TA} {p pos : Pos} (hK : X.K = K) (hg : Gl X "zip") (hm : X.mg "zip" = none) (ha : PA X (e :: es) ta)
    (hs : starEach (e :: es) X.env = (false, eval e X.env) :: starEach es X.env := by rfl) (hpl : (backTo pos (starEach es X.env)).any (·.1) = false := by rfl) :
    PI X tg (.Call (.Name "zip" p) (e :: es) [] pos) (LZ.iZipN K ta) := by subst hK; exact LZ.pi_zipN hg hm ha hs hpl
theorem pi_zipSK {tg e : Expr} {te : TE} {p sp_ pos : Pos} (hK : X.K = K) (hg : Gl X "zip") (hm : X.mg "zip" = none) (he : PE X e te)
    (hst : starEach [.Starred e sp_] X.env = [(true, eval e X.env)] := by rfl) :
    PI X tg (.Call (.Name "zip" p) [.Starred e sp_] [] pos) (LZ.iZipS K te) := by subst hK; exact LZ.pi_zipS hg hm he hst
theorem pi_enumNK {tg e : Expr} {ta : TA} {p pos : Pos} (hK : X.K = K) (hg : Gl X "enumerate") (hm : X.mg "enumerate" = none) (ha : PA X [e] ta) (hs : starEach [e] X.env = [(false, eval e X.env)] := by rfl) :
    PI X tg (.Call (.Name "enumerate" p) [e] [] pos) (LZ.iEnumN K ta) := by subst hK; exact LZ.pi_enumN hg hm ha hs
def rLenTM : List V → Hp → VK → Prop := fun xs H Q => ∃ p ys, xs = [.ref p] ∧ H p = some (.tup ys) ∧ Q (.int ys.length) H
theorem call_lenT : CallR X (.builtin "len") rLenTM := call_imp call_len_seq fun xs H Q ⟨p, ys, h1, h2, q⟩ => ⟨p, ys, h1, .inr (SqT.of h2), q⟩
def rIxTM : R2 := fun x y H Q => ∃ p xs i v, x = .ref p ∧ y = .int i ∧ H p = some (.tup xs) ∧ atI xs i = some v ∧ Q v H
theorem ix_TM : IxR X rIxTM := ix_imp ix_tup fun x y H Q ⟨p, xs, i, v, h1, h2, h3, h4, q⟩ => ⟨p, xs, i, v, h1, h2, SqT.of h3, h4, q⟩
def rTupM : List V → Hp → VK → Prop := fun xs H Q => ∃ p ys, xs = [.ref p] ∧ H p = some (.lst ys) ∧ ∀ l, H l = none → Q (.ref l) (upd H l (.tup ys))
theorem call_tupM : CallR X (.type "tuple") rTupM := call_imp call_tuple_of fun xs H Q ⟨p, ys, h1, h2, q⟩ => ⟨p, ys, h1, .inl ⟨SqL.of h2, q⟩⟩
def rJoin (K : PySem.W.Frag) : V → List V → Hp → VK → Prop := fun x xs H Q => ∃ a p, ∃ ys : List Str, x = .str a ∧ xs = [.ref p] ∧ (SqL K H p (ys.map V.str) ∨ SqT K H p (ys.map V.str)) ∧
    (ys.map (·.length)).sum + ys.length * a.length ≤ 16777216 ∧ Q (.str (Txt.join a ys)) H
theorem mt_joinK (hK : X.K = K) : MtR X "str.join" (rJoin K) := by subst hK; exact mt_join
theorem pg_tupK {es : List Expr} {k : Nat} {t : TGs} {n : Nat} {pos : Pos} (hK : X.K = K) (hc : X.calm = true) (h : PGs X es t)
    (hn : (assignEach es X.env).length = n := by rfl) (hst : (assignEach es X.env).findIdx? (·.1) = none := by rfl) : PG X (.Tuple es k pos) (gTup K n t) := by subst hK; exact pg_tup hc h hn hst
theorem pg_lstK {es : List Expr} {k : Nat} {t : TGs} {n : Nat} {pos : Pos} (hK : X.K = K) (hc : X.calm = true) (h : PGs X es t)
    (hn : (assignEach es X.env).length = n := by rfl) (hst : (assignEach es X.env).findIdx? (·.1) = none := by rfl) : PG X (.Tuple es k pos) (gLst K n t) := by subst hK; exact pg_lst hc h hn hst
theorem pe_slK {e : Expr} {f : Str} {pos : Pos} {ta : TE} (hK : X.K = K) (he : PE X e ta) (hb : attributeBase e f X.env (eval e X.env) = eval e X.env := by rfl) : PE X (.Attribute e f pos) (tSl K ta f) := by subst hK; exact pe_sl he hb
theorem op_eqSK {C f : Addr} {fd : FuncData} {ps : List Str} {sp : Sp} {x q : Str} {st : Stmt} {k : Nat} (hK : X.K = K) (O : Ob X.K X.mg x C) (D : Mt X.K C "__eq__" q st ps f fd) (G : FnOk X.prog X.w X.K X.mg X.base CX0 k f fd ps sp) (hr : Room k X.A) : OpR X (compareOp .Eq) (rOwn K C sp E0) := by
  subst hK; exact op_eqS O D G hr
theorem op_neSK {C f : Addr} {fd : FuncData} {ps : List Str} {sp : Sp} {x q : Str} {st : Stmt} {k : Nat} (hK : X.K = K) (O : Ob X.K X.mg x C) (D : Mt X.K C "__eq__" q st ps f fd) (G : FnOk X.prog X.w X.K X.mg X.base CX0 k f fd ps sp) (hr : Room (k + 1) X.A) : OpR X (compareOp .NotEq) (rOwnNe K C sp E0) := by
  subst hK; exact op_neS O D G hr
end
end LP

set_option Elab.async false
set_option linter.all false
set_option maxRecDepth 100000
set_option maxHeartbeats 2000000
/-! LPD: plain instances (with a dict), own in, len, call; own == beside a plain value; isinstance of both kinds. -/
namespace LP
open PySem PySem.Spec L2 SlX
open PyProof.Rows hiding St signs
/-- a plain class -/
structure Oq (K : PySem.W.Frag) (mg : Str → Option Value) (x : Str) (C : Addr) : Prop where
  g : mg x = some (.ref C)
  cl : Cls K C
  kp : PySem.W.keepIn K (.ref C) = true
  mks : PySem.W.makesIn K C = true
def oqB (K : PySem.W.Frag) (C : Addr) : Bool :=
  PySem.W.plainGet K C Str.empty && PySem.W.hasDictIn K C && PySem.W.plainOver K C &&
  decide (PySem.W.findIn K (.ref C) "__setattr__" = some (some (.builtin "object.__setattr__"))) && PySem.W.keepIn K (.ref C) && PySem.W.makesIn K C
theorem oq_of {K : PySem.W.Frag} {mg : Str → Option Value} {x : Str} {C : Addr} (g : mg x = some (.ref C)) (h : oqB K C = true) : Oq K mg x C := by
  unfold oqB at h
  simp only [Bool.and_eq_true, decide_eq_true_eq] at h
  obtain ⟨⟨⟨⟨⟨h1, h2⟩, h3⟩, h4⟩, h5⟩, h6⟩ := h
  exact ⟨g, ⟨h1, h2, h3, h4⟩, h5, h6⟩
section
variable {X : Cx} {k : Nat} {C f p : Addr} {fd : FuncData} {ps : List Str} {sp : Sp} {x m q : Str} {st : Stmt} {np pos apos : Pos} {e o value : Expr} {es : List Expr} {ta tv : TE} {t : TA}
/-- o.f, an attribute of an instance of the class at C -/
def tFldC (C : Addr) (f : Str) (ta : TE) : TE := fun σ H Q => ta σ H fun x H1 => ∃ a dx fs v, x = .ref a ∧ H1 a = some (.ins C dx fs) ∧ fs.lookup f = some v ∧ Q v H1
theorem pe_fldC {g : Str} (O : Oq X.K X.mg x C) (n : NoAttr X.K C g) (he : PE X e ta) (hb : attributeBase e g X.env (eval e X.env) = eval e X.env := by rfl) : PE X (.Attribute e g pos) (tFldC C g ta) := by
  refine ⟨fun pins s σ H Q I h => ?_⟩
  refine attr_of hb (thn (he.run pins s σ H _ I h) fun u s1 ⟨x, H1, I1, rx, a, dx, fs, v, ex, hs, l, q⟩ => ?_)
  subst ex
  obtain rfl : u = Value.ref a := rx
  exact getattr_ok I1 hs O.cl n l fun u' s2 I2 ru => ⟨v, H1, I2, ru, q⟩
def sFldC (C : Addr) (f : Str) (ta tv : TE) : TS := fun D σ H => tv σ H fun y H1 => ta σ H1 fun x H2 => ∃ a dx fs, x = .ref a ∧ H2 a = some (.ins C dx fs) ∧ fs.length < 1000 ∧ D.nx σ (upd H2 a (.ins C dx (putF f y fs)))
theorem ps_fldC {g : Str} {pos' : Pos} (O : Oq X.K X.mg x C) (n : NoAttr X.K C g) (ha : PE X o ta) (hv : PE X value tv) (hs : swapsWith value (some (.Attribute o g pos')) pos.line X.env = pure false := by rfl) : PS X (.Assign [.Attribute o g pos'] value pos) (sFldC C g ta tv) := by
  refine ⟨fun pins s σ H D I h => ?_⟩
  refine plainObj_wpAny_Assign_Attribute (thn (hv.run pins s σ H _ I h) fun u s1 ⟨y, H1, I1, ry, q⟩ => thn (ha.run pins s1 σ H1 _ I1 q) fun ov s2 ⟨x, H2, I2, rx, a, dx, fs, ex, ea, l, q2⟩ => ?_) hs
  subst ex
  obtain rfl : ov = Value.ref a := rx
  exact setattr_ok I2 ea O.cl n l ry fun s3 I3 => ⟨σ, _, I3, q2⟩
theorem pe_mtP {pl : Sem Bool} (O : Oq X.K X.mg x C) (D : Mt X.K C m q st ps f fd) (G : FnOk X.prog X.w X.K X.mg X.base CX0 k f fd ps sp) (hr : Room k X.A) (he : PE X o ta) (ha : PA X (e :: es) t)
    (hst : starEach (e :: es) X.env = (false, eval e X.env) :: starEach es X.env := by rfl) (hpl : (backTo pos (starEach es X.env)).any (·.1) = false := by rfl)
    (ht : eval (.Call (.Attribute o m apos) (e :: es) [] pos) X.env = (do
      let ov ← eval o X.env
      standAt apos.atName
      let (f, first) ← holding [ov] (getMethod ov m pl)
      callWith pos f first (backTo pos (starEach (e :: es) X.env)) (backToKw pos (keywordEach [] X.env))) := by rfl) :
    PE X (.Call (.Attribute o m apos) (e :: es) [] pos) (tMeth C m sp [] E0 ta t) := pe_meth he O.cl D.m G hr D.b .nil pass0 ha hst hpl ht
theorem pe_mkP (O : Oq X.K X.mg x C) (D : Mt X.K C "__init__" q st ps f fd) (G : FnOk X.prog X.w X.K X.mg X.base CX0 k f fd ps sp) (hr : Room (k + 1) X.A) (hg : Gl X x) (ha : PA X (e :: es) t) (hdb : (x == ("__debug__" : Str)) = false := by decide)
    (he : starEach (e :: es) X.env = (false, eval e X.env) :: starEach es X.env := by rfl) (hpl : (backTo pos (starEach es X.env)).any (·.1) = false := by rfl) : PE X (.Call (.Name x np) (e :: es) [] pos) (StX.tMakeR C sp E0 t) :=
  StX.pe_makeR ⟨O.mks, D.at_, D.fn, O.kp⟩ (toR G D.b) hr hg O.g pass0 ha hdb he hpl
/-- x in y, y an instance with an own __contains__ -/
def rInOwn (C : Addr) (sp : Sp) (E : XK) : R2 := fun x y H Q => ∃ a dx vs, y = .ref a ∧ Slt H a C dx vs ∧ sp [y, x] H (fun z H' => ∃ b, z = .bl b ∧ Q (.bl b) H') E
theorem op_inS (D : Mt X.K C "__contains__" q st ps f fd) (G : FnOk X.prog X.w X.K X.mg X.base CX0 k f fd ps sp) (hr : Room k X.A) : OpR X (compareOp .In) (rInOwn C sp E0) := by
  intro pins s σ H x y v u Q I rx ry h
  obtain ⟨a, dx, vs, rfl, ha, q⟩ := h
  cases (show u = Value.ref a from ry)
  obtain ⟨sl, od, _, J, _⟩ := slt_inst I ha
  obtain ⟨m, hF⟩ := I.fr
  refine PySem.W.in_K hF I.ok.mod.kin J D.at_ D.fn ?_
  refine wpAny_mono (wpAny_call (run_fnR (us := [.ref a, v]) (vs := [.ref a, x]) (toR G D.b) hr pass0 I (.cons rfl (.cons rx .nil)) q)) (fun w s' z => ?_) fun _ _ x => x
  obtain ⟨z', H', I', rz, b, eb, qz⟩ := z
  subst eb
  cases (show w = Value.bool b from rz)
  exact wpAny_truthy_bool ⟨.bl b, H', I', rfl, qz⟩
/-- len(x) by an own __len__ -/
def rLenOwn (C : Addr) (sp : Sp) (E : XK) : List V → Hp → VK → Prop := fun xs H Q => ∃ a dx vs, xs = [V.ref a] ∧ Slt H a C dx vs ∧ sp [.ref a] H (fun z H' => ∃ n : Nat, z = .int (n : Int) ∧ n < 2 ^ 63 ∧ Q z H') E
theorem call_lenS (D : Mt X.K C "__len__" q st ps f fd) (G : FnOk X.prog X.w X.K X.mg X.base CX0 k f fd ps sp) (hr : Room (k + 1) X.A) : CallR X (.builtin "len") (rLenOwn C sp E0) := by
  intro pins s σ H xs us Q I r h
  obtain ⟨a, dx, vs, rfl, hsl, q⟩ := h
  obtain ⟨u, rfl, ru⟩ := r.one
  cases (show u = Value.ref a from ru)
  obtain ⟨sl, od, _, J, _⟩ := slt_inst I hsl
  obtain ⟨m, hF⟩ := I.fr
  refine PySem.W.len_K hF I.ok.mod.kin J D.at_ D.fn (wpAny_mono (wpAny_call (run_at (us := [.ref a]) (ws := [.ref a]) (toR G D.b) hr.in1 I.env0.in1 pass0 I (.cons rfl .nil) q)) (fun w s' z => ?_) fun _ _ x => x)
  obtain ⟨z', H', I', rz, n, ez, hn, qz⟩ := z
  subst ez
  obtain ⟨t, e⟩ := (show ∃ t, w = Value.int n t from rz)
  cases e
  exact ⟨⟨by omega, by omega⟩, .int n, H', I'.tok _, ⟨_, rfl⟩, qz⟩
/-- f(e, ..), f gives an instance of the class at C -/
def tCallS (C : Addr) (sp : Sp) (tf : TE) (t : TA) : TE := fun σ H Q => tf σ H fun y H1 => ∃ a, y = V.ref a ∧ t σ H1 fun vs H2 => (∃ dx ws, Slt H2 a C dx ws) ∧ sp (V.ref a :: vs) H2 Q E0
theorem pe_callS {fe : Expr} {tf : TE} (D : Mt X.K C "__call__" q st ps f fd) (hfi : PySem.W.fnIn X.K f = true) (G : FnOk X.prog X.w X.K X.mg X.base CX0 k f fd ps sp) (hr : Room k X.A) (hf : PE X fe tf) (ha : PA X (e :: es) t)
    (ht : eval (.Call fe (e :: es) [] pos) X.env = (do callWith pos (← eval fe X.env) [] (backTo pos (starEach (e :: es) X.env)) (backToKw pos (keywordEach [] X.env))) := by rfl)
    (he : starEach (e :: es) X.env = (false, eval e X.env) :: starEach es X.env := by rfl) (hpl : (backTo pos (starEach es X.env)).any (·.1) = false := by rfl) : PE X (.Call fe (e :: es) [] pos) (tCallS C sp tf t) := by
  refine ⟨fun pins s σ H Q I h => ?_⟩
  have c : StX.CallO X.K C f := ⟨D.at_, D.fn, hfi⟩
  refine Call_ (thn (hf.run pins s σ H _ I h) fun u s1 ⟨y, H1, I1, ry, a, ey, q⟩ => ?_) ht
  subst ey
  obtain rfl : u = Value.ref a := ry
  refine StX.callO_with (thn (ha.run pos pins s1 σ H1 _ I1 q) fun us s2 ⟨vs, H2, I2, r, hi, q2⟩ => ?_) he hpl
  obtain ⟨ox, od, J, hd⟩ := StX.insC_at I2 (.inl hi)
  exact ⟨⟨C, ox, od, J, hd⟩, StX.run_callO c (toR G D.b) hr pass0 I2 (.inl hi) r q2⟩
/-- which built-in classes the class is none of -/
def kitN (K : PySem.W.Frag) (C : Addr) : Bool := ["NoneType", "bool", "int", "str", "list", "tuple", "dict"].all fun t => decide (PySem.W.kitOne K (.type t) (.ref C) = some false) && PySem.W.notFirst K C (.type t)
theorem kitN_at {K : PySem.W.Frag} {C : Addr} (h : kitN K C = true) {H : Hp} {v : V} {t : String} (p : Pl K H v t) : PySem.W.kitOne K (.type t) (.ref C) = some false ∧ PySem.W.notFirst K C (.type t) = true := by
  unfold kitN at h
  simp only [List.all_cons, List.all_nil, Bool.and_eq_true, decide_eq_true_eq, Bool.and_true] at h
  obtain ⟨h1, h2, h3, h4, h5, h6, h7⟩ := h
  cases p
  · exact h1
  · exact h2
  · exact h3
  · exact h4
  · exact h5
  · exact h6
  · exact h7
/-- isinstance(x, C), x of the class itself or a plain value -/
def rIsE (K : PySem.W.Frag) (C : Addr) : List V → Hp → VK → Prop := fun xs H Q => (∃ a dx vs, xs = [V.ref a, .ref C] ∧ Slt H a C dx vs ∧ Q (.bl true) H) ∨ (∃ v t, xs = [v, .ref C] ∧ Pl K H v t ∧ Q (.bl false) H)
theorem call_isE {K : PySem.W.Frag} (hK : X.K = K) (O : Ob X.K X.mg x C) (kn : kitN X.K C = true) : CallR X (.builtin "isinstance") (rIsE K C) := by
  subst hK
  intro pins s σ H xs us Q I r h
  rcases h with h | ⟨v, t, rfl, p, q⟩
  · exact call_isS O pins s σ H xs us Q I r h
  · exact call_isiK' (K := X.K) rfl pins s σ H _ us Q I r ⟨v, .ref C, .type t, .ref C, false, rfl, .own C, p.ty, (kitN_at kn p).1, q⟩
/-- the built-in class of a plain value, as the machine finds it -/
theorem pl_looks {pins : List (Addr × Obj)} {σ : L2.St} {H : Hp} {s : Shared} {v : V} {u : Value} {t : String} (I : Inv X pins σ H s) (h : Pl X.K H v t) (r : RelV v u) : PySem.W.Looks (model X.prog X.w) s.heap (typeOf u) (.type t) := by
  have ref : ∀ (a : Addr) (o : Obj), s.heap.get? a = some o → o.cls = .type t → PySem.W.Looks (model X.prog X.w) s.heap (typeOf (.ref a)) (.type t) := fun a o e c A Q E s' k q => by
    refine wpAny_typeOf_ref (k a o e) ?_
    rw [c]
    exact q
  cases h with
  | non => cases (show u = Value.none from r); exact PySem.W.Looks.of_pure rfl
  | bl b => cases (show u = Value.bool b from r); exact PySem.W.Looks.of_pure rfl
  | int i => obtain ⟨t, e⟩ := (show ∃ t, u = Value.int i t from r); cases e; exact PySem.W.Looks.of_pure rfl
  | str x => obtain ⟨t, e⟩ := (show ∃ t, u = Value.str x t from r); cases e; exact PySem.W.Looks.of_pure rfl
  | @lst a xs h =>
    cases (show u = Value.ref a from r)
    obtain ⟨its, rv, p, _⟩ := I.list (SqL.of h)
    obtain ⟨o, ho, hc, _⟩ := p.isList
    exact ref a o ho hc
  | @tup a xs h =>
    cases (show u = Value.ref a from r)
    obtain ⟨its, rv, ⟨o, ho, hc, _⟩, _⟩ := I.tuple (SqT.of h)
    exact ref a o ho hc
  | @dct a xs h =>
    cases (show u = Value.ref a from r)
    obtain ⟨_, _, vs, _, o, es, ep, h1, h2, _⟩ := (show ObjOk X.prog X.w H s.heap a (.dK xs) from I.hok a _ h)
    exact ref a o h1 h2.1
/-- x op y, x an instance of the class at C with an own def for op, y a plain value -/
def rOwnE (K : PySem.W.Frag) (C : Addr) (sp : Sp) (E : XK) : R2 := fun x y H Q => rOwn K C sp E x y H Q ∨ ∃ a dx vs t, x = .ref a ∧ Slt H a C dx vs ∧ Pl K H y t ∧ sp [x, y] H Q E
theorem op_eqE {K : PySem.W.Frag} (hK : X.K = K) (O : Ob X.K X.mg x C) (kn : kitN X.K C = true) (D : Mt X.K C "__eq__" q st ps f fd) (G : FnOk X.prog X.w X.K X.mg X.base CX0 k f fd ps sp) (hr : Room k X.A) : OpR X (compareOp .Eq) (rOwnE K C sp E0) := by
  subst hK
  intro pins s σ H x y v u Q I rx ry h
  rcases h with h | ⟨a, dx, vs, t, rfl, ha, p, q⟩
  · exact op_eqS O D G hr pins s σ H x y v u Q I rx ry h
  · cases (show v = Value.ref a from rx)
    obtain ⟨sl, od, _, J, _⟩ := slt_inst I ha
    obtain ⟨m, hF⟩ := I.fr
    show wpAny _ _ (richCompare .Eq (.ref a) u) _ _ _
    refine PySem.W.cmp_K (op := .Eq) (tb := .type t) hr.units0 hF I.ok.mod.kin J (pl_looks I p ry) (kitN_at kn p).2 D.at_ D.fn ?_
    refine wpAny_mono (wpAny_call (run_fnR (us := [.ref a, u]) (vs := [.ref a, y]) (toR G D.b) hr pass0 I (.cons rfl (.cons ry .nil)) q)) (fun w s' z => ?_) fun _ _ x => x
    obtain ⟨z', H', I', rz, qz⟩ := z
    exact cmpback rz ⟨z', H', I', rz, qz⟩
def rOwnNeE (K : PySem.W.Frag) (C : Addr) (sp : Sp) (E : XK) : R2 := fun x y H Q => rOwnNe K C sp E x y H Q ∨ ∃ a dx vs t, x = .ref a ∧ Slt H a C dx vs ∧ Pl K H y t ∧ sp [x, y] H (fun z H' => ∃ c, z = .bl c ∧ Q (.bl (!c)) H') E
theorem op_neE {K : PySem.W.Frag} (hK : X.K = K) (O : Ob X.K X.mg x C) (kn : kitN X.K C = true) (D : Mt X.K C "__eq__" q st ps f fd) (G : FnOk X.prog X.w X.K X.mg X.base CX0 k f fd ps sp) (hr : Room (k + 1) X.A) : OpR X (compareOp .NotEq) (rOwnNeE K C sp E0) := by
  subst hK
  intro pins s σ H x y v u Q I rx ry h
  rcases h with h | ⟨a, dx, vs, t, rfl, ha, p, q⟩
  · exact op_neS O D G hr pins s σ H x y v u Q I rx ry h
  · cases (show v = Value.ref a from rx)
    obtain ⟨sl, od, _, J, _⟩ := slt_inst I ha
    refine LPO.ne_own (tb := .type t) (by have := hr.units; omega) I.kIn J (pl_looks I p ry) (kitN_at kn p).2 O.si.cm O.ne D.at_ D.fn ?_
    refine wpAny_mono (wpAny_call (run_at (us := [.ref a, u]) (ws := [.ref a, y]) (toR G D.b) hr.in1 I.env0.in1 pass0 I (.cons rfl (.cons ry .nil)) q)) (fun w s' z => ?_) fun _ _ x => x
    obtain ⟨z', H', I', rz, c, ez, qz⟩ := z
    subst ez
    cases (show w = Value.bool c from rz)
    exact ⟨c, rfl, .bl (!c), H', I', rfl, qz⟩
/-- l.m() of a tracked list -/
def tLM0 (r : V → List V → Hp → VK → Prop) (to : TE) : TE := fun σ H Q => to σ H fun x H1 => ∃ p ys, x = .ref p ∧ H1 p = some (.lst ys) ∧ r x [] H1 Q
theorem pe_lm0 {name : Str} {cpos : Pos} {id : String} {r : V → List V → Hp → VK → Prop} {to : TE} (pa : PlainAttrs "list") (slot : Slot "list" name id) (hty : typeOf (.builtin id) = pure (.type "method_descriptor")) (hm : MtR X id r) (ho : PE X o to)
    (hbase : attributeBase o name X.env (eval o X.env) = eval o X.env := by rfl) (hline : (apos.endLine == cpos.line) = true := by rfl) : PE X (.Call (.Attribute o name apos) [] [] cpos) (tLM0 r to) := by
  refine pe_imp (pe_bm0 pa slot hty hm (pe_up ho) hbase hline) ?_
  intro σ H Q h
  refine ⟨_, h, ?_⟩
  rintro v H1 ⟨p, ys, rfl, hp, q⟩
  exact ⟨.inl ⟨rfl, ys, SqL.of hp⟩, q⟩
/-- x in a tracked tuple, in a tracked list, of flat values -/
def rInT (neg : Bool) : R2 := fun x y H Q => ∃ p xs, y = .ref p ∧ H p = some (.tup xs) ∧ flatV x = true ∧ xs.all flatV = true ∧ Q (.bl (if neg then !inV x xs else inV x xs)) H
theorem op_inT : OpR X (compareOp .In) (rInT false) := op_imp op_in_seq fun x y H Q ⟨p, xs, h1, h2, h3, h4, q⟩ => ⟨p, xs, h1, .inr (SqT.of h2), h3, h4, q⟩
theorem op_ninT : OpR X (compareOp .NotIn) (rInT true) := op_imp op_notIn_seq fun x y H Q ⟨p, xs, h1, h2, h3, h4, q⟩ => ⟨p, xs, h1, .inr (SqT.of h2), h3, h4, q⟩
def rInL (neg : Bool) : R2 := fun x y H Q => ∃ p xs, y = .ref p ∧ H p = some (.lst xs) ∧ flatV x = true ∧ xs.all flatV = true ∧ Q (.bl (if neg then !inV x xs else inV x xs)) H
theorem op_inL : OpR X (compareOp .In) (rInL false) := op_imp op_in_seq fun x y H Q ⟨p, xs, h1, h2, h3, h4, q⟩ => ⟨p, xs, h1, .inl (SqL.of h2), h3, h4, q⟩
theorem op_ninL : OpR X (compareOp .NotIn) (rInL true) := op_imp op_notIn_seq fun x y H Q ⟨p, xs, h1, h2, h3, h4, q⟩ => ⟨p, xs, h1, .inl (SqL.of h2), h3, h4, q⟩
end
end LP

set_option Elab.async false
set_option linter.all false
set_option maxRecDepth 100000
set_option maxHeartbeats 4000000
/-! LPL: defs that let an exception out, lambdas handed to a def that catches. -/
namespace LP
open PySem PySem.Spec L2 SlX
open PyProof.Rows hiding St
/-! ### defs that let an exception out -/
section
variable {P : Program} {w : World} {K : PySem.W.Frag} {mg : Str → Option Value} {base : Heap} {x qual : Str} {st : Stmt} {f : Addr} {fd : FuncData} {N ps : List Str} {k : Nat} {sp : Sp}
theorem okX (F : Fun K x qual st f fd) (S : FnScope N ps (defScope st)) (len : ∀ vs H Q E, sp vs H Q E → vs.length = ps.length)
    (hbody : ∀ (cdv : Value) (A : Around) (outer : List Env) (s : Shared) (H : Hp) (vs : List V) (Q : VK) (E : XK), Room k (A.deeper (envOfC qual (defScope st) s.heap.objs.size f cdv)) →
      Takes (cxOf (L2.CX P w) P w K mg base N qual (defScope st) f cdv A outer s H E) (fun cls d _ H' => E cls d H') → sp vs H Q E →
      ∃ t, PSs (cxOf (L2.CX P w) P w K mg base N qual (defScope st) f cdv A outer s H E) (defBody st) t ∧ t { nx := fun _ H' => Q .non H', rt := Q } (start N vs) H) :
    FnOk P w K mg base (L2.CX P w) (k + 1) f fd ps sp := by
  obtain ⟨oc, od, kV, doc, pm, an, cdv, ct, osl, rfl, lk, hcd⟩ := F.ex
  refine fn_of lk hcd S len fun A outer s H vs Q E hr hsp => hbody cdv A outer s H vs Q E hr ?_ hsp
  exact takes_of rfl rfl rfl rfl
/-- the same for a def whose code is known -/
theorem okL {c : Addr} (F : Fun K x qual st f fd) (hc : fd.code = .ref c) (S : FnScope N ps (defScope st)) (len : ∀ vs H Q E, sp vs H Q E → vs.length = ps.length)
    (hbody : ∀ (A : Around) (outer : List Env) (s : Shared) (H : Hp) (vs : List V) (Q : VK) (E : XK), Room k (A.deeper (envOfC qual (defScope st) s.heap.objs.size f (.ref c))) → sp vs H Q E →
      ∃ t, PSs (cxOf CX0 P w K mg base N qual (defScope st) f (.ref c) A outer s H E).nox (defBody st) t ∧ t { nx := fun _ H' => Q .non H', rt := Q } (start N vs) H) :
    FnOk P w K mg base CX0 (k + 1) f fd ps sp := by
  obtain ⟨oc, od, kV, doc, pm, an, cdv, ct, osl, rfl, lk, hcd⟩ := F.ex
  have e : cdv = .ref c := hc
  subst e
  refine fn_of lk hcd S len fun A outer s H vs Q E hr hsp => ?_
  obtain ⟨t, h, q⟩ := hbody A outer s H vs Q E hr hsp
  exact ⟨t, h.nox, q⟩
end
section
variable {X : Cx} {k : Nat} {f C p : Addr} {fd : FuncData} {ps : List Str} {sp : Sp} {x m q : Str} {st : Stmt} {e o : Expr} {es : List Expr} {np pos apos : Pos} {ta : TE} {t : TA} {E : XK}
/-- what a callee lets out goes on -/
theorem passX (tk : Takes X (fun cls d _ H => E cls d H)) : Passes (L2.CX X.prog X.w) X E := passes_call tk fun _ _ _ _ h => h
/-- C(e, ..), which may raise -/
theorem pe_mkX (tk : Takes X (fun cls d _ H => E cls d H)) (O : Ob X.K X.mg x C) (D : Mt X.K C "__init__" q st ps f fd) (G : FnOk X.prog X.w X.K X.mg X.base (L2.CX X.prog X.w) k f fd ps sp) (hr : Room (k + 1) X.A) (hg : Gl X x) (ha : PA X (e :: es) t) (hdb : (x == ("__debug__" : Str)) = false := by decide)
    (he : starEach (e :: es) X.env = (false, eval e X.env) :: starEach es X.env := by rfl) (hpl : (backTo pos (starEach es X.env)).any (·.1) = false := by rfl) : PE X (.Call (.Name x np) (e :: es) [] pos) (StX.tMakeR C sp E t) :=
  StX.pe_makeR ⟨O.mks, D.at_, D.fn, O.kp⟩ (toR G D.b) hr hg O.g (passX tk) ha hdb he hpl
theorem pe_mt0X {pl : Sem Bool} (tk : Takes X (fun cls d _ H => E cls d H)) (O : Ob X.K X.mg x C) (D : Mt X.K C m q st ps f fd) (G : FnOk X.prog X.w X.K X.mg X.base (L2.CX X.prog X.w) k f fd ps sp) (hr : Room k X.A) (he : PE X o ta)
    (ht : eval (.Call (.Attribute o m apos) [] [] pos) X.env = (do
      let ov ← eval o X.env
      standAt apos.atName
      let (f, first) ← holding [ov] (getMethod ov m pl)
      callWith pos f first (backTo pos (starEach [] X.env)) (backToKw pos (keywordEach [] X.env))) := by rfl) :
    PE X (.Call (.Attribute o m apos) [] [] pos) (tMethSl C sp E ta tNil) := pe_methSl0 he O.sc D.m (toR G D.b) hr (passX tk) ht
theorem op_binX {op : Operator} (tk : Takes X (fun cls d _ H => E cls d H)) (O : Ob X.K X.mg x C) (D : Mt X.K C (PySem.dunder op.info.2) q st ps f fd) (G : FnOk X.prog X.w X.K X.mg X.base (L2.CX X.prog X.w) k f fd ps sp) (hr : Room k X.A) : OpR X (binaryOp op) (rOwnB C sp E) :=
  op_ownB O.sf D.at_ D.fn (toR G D.b) hr (passX tk)
/-- isinstance(x, T), x an instance with slots -/
theorem call_isiSK {K : PySem.W.Frag} (hK : X.K = K) (u : Value) : CallR X (.builtin "isinstance") (rIsiSl K u) := by
  subst hK
  exact call_isiSl u
def rReprB : List V → Hp → VK → Prop := fun xs H Q => ∃ b, xs = [.bl b] ∧ Q (.str (if b then "True" else "False")) H
theorem call_reprB : CallR X (.builtin "repr") rReprB := by
  intro pins s σ H xs us Q I r h
  obtain ⟨b, rfl, q⟩ := h
  obtain ⟨u, rfl, rfl⟩ := vals1 r
  exact PySem.P.repr_of_bool ⟨.str _, H, I.tok _, ⟨_, rfl⟩, q⟩
end
/-! ### lambdas -/
section
open LamX
theorem takes_lam {X : Cx} {A : Around} {outer : List Env} {s : Shared} {H : Hp} {E : XK} {scope : Scope} {f c' : Addr} : Takes (lamCx X A outer s H E scope f c') (fun cls d _ H' => E cls d H') := takes_of rfl rfl rfl rfl
variable {X : Cx}
/-- try: a() / except x: return True / return False -/
def TTw (K : PySem.W.Frag) (CS : Addr) : (XK → Hp → VK → Prop) → Hp → VK → Prop := fun tl H Q =>
  tl (fun cls _ H' => PySem.W.exmOne K cls (.ref CS) = some true ∧ Q (.bl true) H') H (fun _ H' => Q (.bl false) H')
theorem word_gives {Ng : List Str} {x a e q : Str} {sg : Scope} {g CS : Addr} {cdg : Value} {j i : Nat} {p1 p2 p3 p4 p5 p6 p7 p8 p9 p10 : Pos} (hge : sg.names.lookup e = some .globalImplicit) (hme : X.mg e = some (.ref CS)) (hde : (e == ("__debug__" : Str)) = false) (h0 : ∀ f : Addr, (L2.start Ng [V.ref f])[0]? = some (some (V.ref f))) :
    GivesTo X Ng x sg g cdg [.Try [.Expr (.Call (.Name a p1) [] [] p2) p3] [.ExceptHandler (some (.Name e p4)) none [.Return (some (.Constant (.bool true) j p5)) p6] p7] [] [] p8, .Return (some (.Constant (.bool false) i p9)) p10] a q (TTw X.K CS) := by
  intro f c' s H Q tl act hc h
  have hgl : Gl (cxOf C8.CX0 X.prog X.w X.K X.mg X.base Ng x sg g cdg X.A X.stack s H C8.E0).nox e := hge
  refine ⟨_, pss_cons (ps_try_only (X := (cxOf C8.CX0 X.prog X.w X.K X.mg X.base Ng x sg g cdg X.A X.stack s H C8.E0).nox) (c := .ref CS)
      (tb := fun W D σ H => ∃ Ech : XK, (∀ cls d σ' H', Ech cls d H' → W cls d σ' H') ∧ σ[0]? = some (some (.ref f)) ∧ H c' = some (CodeO c' q) ∧ tl Ech H fun _ H' => D.nx σ H')
      rfl rfl ⟨hgl, hde, .inl hme⟩ LamX.takes0 (fun W pn xe tk _ => ?_) (fun a oe cls d pn _ _ => pss_one (ps_ret pe_bl))) (pss_one (ps_ret pe_bl)), ?_⟩
  · refine ⟨fun pins s' σ H' D I h' => ?_⟩
    obtain ⟨Ech, hW, h1, h2, h3⟩ := h'
    have hp := act W pn xe Ech p1 p2 tk hW
    have hq := pss_one (ps_expr (pos := p3) hp)
    exact hq.run pins s' σ H' D I ⟨h1, h2, h3⟩
  · exact ⟨fun cls _ H' => PySem.W.exmOne X.K cls (.ref CS) = some true ∧ Q (.bl true) H', fun cls d σ' H' ⟨e1, e2⟩ => ⟨true, e1, fun hb a _ => e2, fun hb => by cases hb⟩, h0 f, hc, h⟩
/-- x(lambda: body), x a def of this form -/
theorem pe_lw {K : PySem.W.Frag} {T : List (Addr × Str)} {x a e : Str} {g c P CS : Addr} {fd : FuncData} {st : Stmt} {Ng : List Str} {params : Arguments} {body : Expr} {scope : Scope} {t : XK → TE} {p lpos pos : Pos} {j i : Nat} {p1 p2 p3 p4 p5 p6 p7 p8 p9 p10 : Pos} (k : Nat) (hK : X.K = K)
    (D : Df X.K X.mg x st [a] g fd) (Sg : FnScope Ng [a] (defScope st)) (hNg : Ng[0]? = some a) (hva : Vis (defScope st) a)
    (hbg : defBody st = [.Try [.Expr (.Call (.Name a p1) [] [] p2) p3] [.ExceptHandler (some (.Name e p4)) none [.Return (some (.Constant (.bool true) j p5)) p6] p7] [] [] p8, .Return (some (.Constant (.bool false) i p9)) p10])
    (hge : (defScope st).names.lookup e = some .globalImplicit) (hme : X.mg e = some (.ref CS)) (hde : (e == ("__debug__" : Str)) = false) (h0 : ∀ f : Addr, (L2.start Ng [V.ref f])[0]? = some (some (V.ref f)))
    (hg : Gl X x) (TB : TabB X.base X.mg c P) (hcode : X.env.code = .ref c) (hmT : (P, X.env.qual ++ "<lambda>") ∈ T) (hu : ∀ p ∈ T, p.1 = P → p.2 = X.env.qual ++ "<lambda>") (hr : Room (k + 2) X.A) (L : LamS X.env.scope scope) (hdef : defaultsOf params X.env = ([], []))
    (hbind : ∀ (q : Str) (cl : List (Str × Addr)) (pm cv ctv : Value), bindArgs (PySem.W.kla_fn "<lambda>" q params body scope cl pm cv ctv) ⟨[], []⟩ = pure [])
    (hbody : ∀ (A : Around) (outer : List Env) (s : Shared) (H : Hp) (E : XK) (f c' : Addr), Room k (A.deeper (lamEnv X scope s.heap.objs.size f c')) → PE (lamCx X A outer s H E scope f c') body (t E))
    (hdb : (x == ("__debug__" : Str)) = false := by decide) (hd : (a == ("__debug__" : Str)) = false := by decide) (hcd : (a == ("__classdict__" : Str)) = false := by decide) :
    PE X (.Call (.Name x p) [.Lambda params body scope lpos] [] pos) (tLam T (TTw K CS) t) := by
  subst hK
  obtain ⟨oc, od, kV, doc, pm, an, cdv, ct, osl, rfl, lk, hcg⟩ := D.F.ex
  refine pe_lamcall hg D.g D.F.kp lk hcg D.b Sg hNg hva ?_ TB hcode hmT hu hr L hdef hbind hbody hdb hd hcd
  rw [hbg]
  exact word_gives hge hme hde h0
theorem tLam_eq {T : List (Addr × Str)} {TT : (XK → Hp → VK → Prop) → Hp → VK → Prop} {t : XK → TE} {σ : L2.St} {H : Hp} {Q : VK} : tLam T TT t σ H Q = (Tabs T H ∧ ∀ H1, ExtN H H1 → Tabs T H1 → TT (fun E H' Q' => t E σ H' Q') H1 Q) := rfl
theorem TTw_eq {K : PySem.W.Frag} {CS : Addr} {tl : XK → Hp → VK → Prop} {H : Hp} {Q : VK} : TTw K CS tl H Q = tl (fun cls _ H' => PySem.W.exmOne K cls (.ref CS) = some true ∧ Q (.bl true) H') H (fun _ H' => Q (.bl false) H') := rfl
/-- the end of a law whose defs make lambdas -/
theorem walk_ofAll {l : PySem.W.OpenLaw} {n k : Nat} {q : Program} {loose : List Str} {XP : (Str → Option Value) → Heap → Prop} {YP : World → Heap → Prop} {d : DefRec} {K : Params → PySem.W.Frag} {x : Str}
    (hn : l.most = some n) (hn2 : n ≤ sizeLine) (hdf : d.params.defaults = []) (hr : Room k callerA) (hY : ∀ (w : World) (h : Heap), YP w h → (K w.params).In h)
    (F : ∀ (w : World) (mg : Str → Option Value) (fa : Addr) (h : Heap), (K w.params).In h → h.Ns mainGlobals mg → mg d.name = some (.ref fa) →
      (∀ (y : Str) (c P : Addr), ((recsOf q).find? fun e => e.name == y).isSome = true → PySem.W.tabIn (K w.params) y = some (c, P) → PySem.W.CodeHd h c P ∧ h.get? P = some { cls := .none, data := .fields #[] }) → LawAtS l w (K w.params) CX0 k n x mg fa h) :
    PySem.W.WalkO q loose XP YP l.row.toRowW d [] (fun f vs => PySem.call f vs) := by
  refine Att.attach_callB hn hdf fun w s₀ s₁ mg mb fa o pm cd doc a vs ns G Y ho hd hcd hmg hobj hints hlen hbits hg => ?_
  have KX := hY w _ Y
  obtain ⟨fd, cs, sp, hT, nT, C, hb, hsp, hF⟩ := F w mg fa _ KX G.T.g hmg fun y c P hr ht => by
    obtain ⟨d', hd'⟩ := Option.isSome_iff_exists.mp hr
    exact PySem.W.tab_of G.T KX hd' ht
  exact law_callTs KX G.T.g G.T.b G.T.builtins G.T.nolimit hg hT nT C G.T.bmain hobj hints (Nat.le_trans hlen hn2) hr hF hb (fun H hH hS => hsp H a ns hlen hbits hH hS) fun H e s' z => z
end
end LP

set_option Elab.async false
set_option linter.all false
set_option maxRecDepth 100000
set_option maxHeartbeats 2000000
/-! DT: == of data that are alike; sorted texts are one list. -/
namespace LP
open PySem PySem.Spec L2
open PyProof.Rows hiding St signs
theorem rising_pw : ∀ (p : Str) (l : List Str), risingS p l = true → (p :: l).Pairwise (fun a b => ¬ b.cps.toList < a.cps.toList)
  | p, [], _ => by simp
  | p, x :: l, h => by
    unfold risingS at h
    rw [Bool.and_eq_true, Bool.not_eq_true', ltCps_eq, decide_eq_false_iff_not] at h
    have ih := rising_pw x l h.2
    refine List.pairwise_cons.mpr ⟨fun y hy => ?_, ih⟩
    rcases List.mem_cons.mp hy with rfl | hy
    · exact h.1
    · have h2 := (List.pairwise_cons.mp ih).1 y hy
      intro z
      have hx : x.cps.toList ≤ y.cps.toList := List.not_lt.mp h2
      have hp : p.cps.toList ≤ x.cps.toList := List.not_lt.mp h.1
      exact absurd z (List.not_lt.mpr (List.le_trans hp hx))
theorem sorted_pw {l : List Str} (h : sortedS l = true) : l.Pairwise (fun a b => ¬ b.cps.toList < a.cps.toList) := by
  cases l with
  | nil => exact .nil
  | cons x r => exact rising_pw x r h
theorem key_inj {a b : Str} (h : a.cps.toList = b.cps.toList) : a = b := by
  have : a.cps = b.cps := Array.toList_inj.mp h
  cases a
  cases b
  cases this
  rfl
theorem pw_unique : ∀ (ys zs : List Str), ys.Pairwise (fun a b => ¬ b.cps.toList < a.cps.toList) → zs.Pairwise (fun a b => ¬ b.cps.toList < a.cps.toList) → ys.Nodup → zs.Nodup → (∀ k, k ∈ ys ↔ k ∈ zs) → ys = zs
  | [], zs, _, _, _, _, m => by
    cases zs with
    | nil => rfl
    | cons b t => exact absurd ((m b).mpr (List.mem_cons_self ..)) (List.not_mem_nil)
  | a :: r, zs, py, pz, ny, nz, m => by
    cases zs with
    | nil => exact absurd ((m a).mp (List.mem_cons_self ..)) (List.not_mem_nil)
    | cons b t =>
      have py' := List.pairwise_cons.mp py
      have pz' := List.pairwise_cons.mp pz
      have ny' := List.nodup_cons.mp ny
      have nz' := List.nodup_cons.mp nz
      have e : a = b := by
        rcases List.mem_cons.mp ((m a).mp (List.mem_cons_self ..)) with e | ha
        · exact e
        · rcases List.mem_cons.mp ((m b).mpr (List.mem_cons_self ..)) with e | hb
          · exact e.symm
          · have h1 := List.not_lt.mp (pz'.1 a ha)
            have h2 := List.not_lt.mp (py'.1 b hb)
            exact key_inj (List.le_antisymm h2 h1)
      subst e
      rw [pw_unique r t py'.2 pz'.2 ny'.2 nz'.2 fun k => ⟨fun hk => ?_, fun hk => ?_⟩]
      · rcases List.mem_cons.mp ((m k).mp (List.mem_cons_of_mem _ hk)) with e | h
        · subst e
          exact absurd hk ny'.1
        · exact h
      · rcases List.mem_cons.mp ((m k).mpr (List.mem_cons_of_mem _ hk)) with e | h
        · subst e
          exact absurd hk nz'.1
        · exact h
/-- what is sorted out of the same members is the same list -/
theorem Sorted.uniq {ys zs xs xs' : List Str} (h : Sorted ys xs) (h' : Sorted zs xs') (e : ∀ k, k ∈ xs ↔ k ∈ xs') : ys = zs :=
  pw_unique ys zs (sorted_pw h.up) (sorted_pw h'.up) h.nd h'.nd fun k => (h.mem k).trans ((e k).trans (h'.mem k).symm)
/-- promises of one def, put together -/
theorem fnOk_ex {P : Program} {w : World} {K : PySem.W.Frag} {mg : Str → Option Value} {base : Heap} {CX : CXT} {k : Nat} {f : Addr} {fd : FuncData} {ps : List Str} {ι : Type} {sp : ι → Sp} (F : ∀ i, FnOk P w K mg base CX k f fd ps (sp i)) :
    FnOk P w K mg base CX k f fd ps (fun vs H Q E => ∃ i, sp i vs H Q E) :=
  ⟨fun vs H Q E ⟨i, q⟩ => (F i).len vs H Q E q, fun A outer s H args us vs Q E hr he hb hv ⟨i, hs⟩ => (F i).run A outer s H args us vs Q E hr he hb hv hs⟩
/-! ### data -/
theorem dps {K : PySem.W.Frag} {H : Hp} : ∀ l : List Str, DpAll K H (l.map .str) (l.map .str)
  | [] => .nil
  | x :: l => .cons (.str x) (dps l)
theorem lays : ∀ l : List Str, (∀ x, x ∈ l → PyData.strOk x = true) → PyData.canLayAll0 (l.map .str) = true
  | [], _ => rfl
  | x :: l, h => by
    rw [List.map_cons, PyData.canLayAll0, lays l (fun y hy => h y (List.mem_cons_of_mem _ hy))]
    rw [show PyData.canLay0 (.str x) = PyData.strOk x from rfl, h x (List.mem_cons_self ..)]
    rfl
theorem deps : ∀ l : List Str, PyData.depthAll (l.map .str) = 0
  | [] => rfl
  | x :: l => by
    rw [List.map_cons, PyData.depthAll, PyData.depth, deps l]
    rfl
/-- two values that are the same data -/
theorem eq_same {K : PySem.W.Frag} {H : Hp} {x y : V} {d : PyData} {Q : VK} (hx : Dp K H x d) (hy : Dp K H y d) (hs : SeqAt.shaped d = true) (q : Q (.bl true) H) : rEqD K x y H Q := by
  refine ⟨d, d, hx, hy, hs, hs, ?_⟩
  have h : d.canLay0 = true := by
    unfold SeqAt.shaped at hs
    rw [Bool.and_eq_true] at hs
    exact hs.1
  rw [SeqAt.eqv_refl d h]
  exact q
theorem ne_same {K : PySem.W.Frag} {H : Hp} {x y : V} {d : PyData} {Q : VK} (hx : Dp K H x d) (hy : Dp K H y d) (hs : SeqAt.shaped d = true) (q : Q (.bl false) H) : rNeD K x y H Q := by
  refine ⟨d, d, hx, hy, hs, hs, ?_⟩
  have h : d.canLay0 = true := by
    unfold SeqAt.shaped at hs
    rw [Bool.and_eq_true] at hs
    exact hs.1
  rw [SeqAt.eqv_refl d h]
  exact q
theorem seqIx {r : Int} {n : Nat} (h0 : 0 ≤ r) (h1 : r < (n : Int)) : seqIndex? r n = some r.toNat := by
  unfold seqIndex?
  have h2 : ¬ r < 0 := by omega
  simp [h0, h1, h2]
theorem erase_map {α β : Type} (f : α → β) : ∀ (l : List α) (k : Nat), (l.map f).eraseIdx k = (l.eraseIdx k).map f
  | [], _ => rfl
  | x :: l, 0 => rfl
  | x :: l, k + 1 => by
    show f x :: (l.map f).eraseIdx k = _
    rw [erase_map f l k]
    rfl
/-! ### the dice change, what else is there stays -/
def Dk (d : Addr) (H H' : Hp) : Prop := (∀ b o, b ≠ d → H b = some o → H' b = some o) ∧ ∃ x y z : Int, H' d = some (.lst [.int x, .int y, .int z])
theorem Dk.refl {d : Addr} {H : Hp} {x y z : Int} (h : H d = some (.lst [.int x, .int y, .int z])) : Dk d H H := ⟨fun _ _ _ e => e, x, y, z, h⟩
theorem Dk.trans {d : Addr} {A B C : Hp} (h : Dk d A B) (k : Dk d B C) : Dk d A C := ⟨fun b o hb e => k.1 b o hb (h.1 b o hb e), k.2⟩
theorem Dk.same {d : Addr} {A B C : Hp} (h : Dk d A B) (k : Same B C) : Dk d A C := ⟨fun b o hb e => k _ _ (h.1 b o hb e), let ⟨x, y, z, q⟩ := h.2; ⟨x, y, z, k _ _ q⟩⟩
theorem Dk.of {d : Addr} {A B : Hp} {x y z : Int} (h : A d = some (.lst [.int x, .int y, .int z])) (k : Same A B) : Dk d A B := ⟨fun b o _ e => k _ _ e, x, y, z, k _ _ h⟩
theorem Dk.roll {d : Addr} {A : Hp} (x y z : Int) : Dk d A (upd A d (.lst [.int x, .int y, .int z])) := ⟨fun b o hb e => by rw [upd_ne hb]; exact e, x, y, z, upd_same⟩
/-- an object that was not there may change -/
theorem Dk.lay {d : Addr} {H H' : Hp} (k : Dk d H H') {p : Addr} {o : HO} (hp : H p = none) (hd : p ≠ d) : Dk d H (upd H' p o) := by
  obtain ⟨k1, x, y, z, k2⟩ := k
  refine ⟨fun b u hb e => ?_, x, y, z, ?_⟩
  · rw [upd_ne (ne_of_none e hp)]
    exact k1 b u hb e
  · rw [upd_ne hd.symm]
    exact k2
theorem Dk.ne {d : Addr} {H : Hp} {x y z : Int} (h : H d = some (.lst [.int x, .int y, .int z])) {p : Addr} (hp : H p = none) : p ≠ d := by
  intro e
  rw [e, h] at hp
  cases hp
theorem Dk.none {d : Addr} {H H' : Hp} (k : Dk d H H') {p : Addr} (hd : p ≠ d) (h : H' p = Option.none) : H p = Option.none := by
  cases e : H p with
  | none => rfl
  | some o =>
    rw [k.1 p o hd e] at h
    cases h
end LP

set_option linter.all false
/-! PT: texts of patterns in plain words; what the scans over them find. Signs are code points: 40 opens, 41 shuts, 35 is again. -/
namespace PT
/-- a scan that may stop -/
def run {σ : Type} (f : σ → Nat → Option σ) : σ → List Nat → Option σ
  | s, [] => some s
  | s, c :: l => (f s c).bind fun s' => run f s' l
theorem run_cons {σ : Type} {f : σ → Nat → Option σ} {s s' : σ} {c : Nat} {l : List Nat} (h : f s c = some s') : run f s (c :: l) = run f s' l := by
  show (f s c).bind _ = _
  rw [h]
  rfl
theorem run_step {σ : Type} {f : σ → Nat → Option σ} {s e : σ} {c : Nat} {l : List Nat} (h : run f s (c :: l) = some e) : ∃ s', f s c = some s' ∧ run f s' l = some e := by
  cases hs : f s c with
  | none =>
    have h' : (f s c).bind (fun s' => run f s' l) = some e := h
    rw [hs] at h'
    cases h'
  | some s' =>
    rw [run_cons hs] at h
    exact ⟨s', rfl, h⟩
theorem run_append {σ : Type} {f : σ → Nat → Option σ} {s s' : σ} {l m : List Nat} (h : run f s l = some s') : run f s (l ++ m) = run f s' m := by
  induction l generalizing s with
  | nil => cases h; rfl
  | cons c l ih =>
    obtain ⟨t, h1, h2⟩ := run_step h
    rw [List.cons_append, run_cons h1]
    exact ih h2
def Lt (c : Nat) : Prop := 97 ≤ c ∧ c ≤ 122
/-- a sequence, nested at most d deep -/
inductive Sq : Nat → List Nat → Prop
  | one {d c : Nat} (h : Lt c) : Sq d [c]
  | rep {d : Nat} {l : List Nat} (h : Sq d l) : Sq (d + 1) (40 :: (l ++ [41, 35]))
  | cat {d : Nat} {l m : List Nat} (h : Sq d l) (k : Sq d m) : Sq d (l ++ m)
theorem Sq.up {d : Nat} {l : List Nat} (h : Sq d l) : Sq (d + 1) l := by
  induction h with
  | one h => exact .one h
  | rep _ ih => exact .rep ih
  | cat _ _ a b => exact .cat a b
theorem Sq.mono {d e : Nat} {l : List Nat} (h : Sq d l) (k : d ≤ e) : Sq e l := by
  induction k with
  | refl => exact h
  | step _ ih => exact ih.up
theorem Sq.pos {d : Nat} {l : List Nat} (h : Sq d l) : 0 < l.length := by
  induction h with
  | one _ => exact Nat.one_pos
  | rep _ _ => simp
  | cat _ _ a b => rw [List.length_append]; omega
theorem Sq.signs {d : Nat} {l : List Nat} (h : Sq d l) : ∀ c, c ∈ l → Lt c ∨ c = 40 ∨ c = 41 ∨ c = 35 := by
  induction h with
  | one h => intro c hc; rw [List.mem_singleton.mp hc]; exact .inl h
  | rep _ ih =>
    intro c hc
    rcases List.mem_cons.mp hc with rfl | hc
    · exact .inr (.inl rfl)
    · rcases List.mem_append.mp hc with hc | hc
      · exact ih c hc
      · rcases List.mem_cons.mp hc with rfl | hc
        · exact .inr (.inr (.inl rfl))
        · exact .inr (.inr (.inr (List.mem_singleton.mp hc)))
  | cat _ _ a b =>
    intro c hc
    rcases List.mem_append.mp hc with hc | hc
    · exact a c hc
    · exact b c hc
/-! ### depths -/
structure Ds where
  dep : Nat
  most : Nat
  last : Nat
deriving DecidableEq
/-- one sign: the depth, the greatest depth, the last sign; none where the text is no pattern -/
def dst (s : Ds) (c : Nat) : Option Ds :=
  if c = 40 then (if s.last = 41 then none else some ⟨s.dep + 1, max s.most (s.dep + 1), 40⟩)
  else if c = 41 then (if s.last = 41 ∨ s.last = 40 ∨ s.dep = 0 then none else some ⟨s.dep - 1, s.most, 41⟩)
  else if c = 35 then (if s.last = 41 then some ⟨s.dep, s.most, 35⟩ else none)
  else if 97 ≤ c ∧ c ≤ 122 then (if s.last = 41 then none else some ⟨s.dep, s.most, c⟩) else none
theorem Sq.dep {d : Nat} {l : List Nat} (h : Sq d l) : ∃ x, x ≤ d ∧ ∀ s : Ds, s.last ≠ 41 → s.dep ≤ s.most → ∃ e, e ≠ 40 ∧ e ≠ 41 ∧ run dst s l = some ⟨s.dep, max s.most (s.dep + x), e⟩ := by
  induction h with
  | @one d c h =>
    refine ⟨0, Nat.zero_le _, fun s hs hm => ⟨c, by unfold Lt at h; omega, by unfold Lt at h; omega, ?_⟩⟩
    have e : dst s c = some ⟨s.dep, s.most, c⟩ := by
      unfold dst Lt at *
      rw [if_neg (by omega), if_neg (by omega), if_neg (by omega), if_pos h, if_neg hs]
    rw [run_cons e]
    show some _ = some _
    rw [Nat.add_zero, Nat.max_eq_left hm]
  | @rep d l h ih =>
    obtain ⟨x, hx, ih⟩ := ih
    refine ⟨x + 1, by omega, fun s hs hm => ⟨35, by decide, by decide, ?_⟩⟩
    have e1 : dst s 40 = some ⟨s.dep + 1, max s.most (s.dep + 1), 40⟩ := by
      unfold dst
      rw [if_pos rfl, if_neg hs]
    obtain ⟨e, he, he2, hr⟩ := ih ⟨s.dep + 1, max s.most (s.dep + 1), 40⟩ (show (40 : Nat) ≠ 41 by decide) (Nat.le_max_right _ _)
    rw [run_cons e1, run_append hr]
    have e2 : dst ⟨s.dep + 1, max (max s.most (s.dep + 1)) (s.dep + 1 + x), e⟩ 41 = some ⟨s.dep, max (max s.most (s.dep + 1)) (s.dep + 1 + x), 41⟩ := by
      unfold dst
      rw [if_neg (by decide), if_pos rfl, if_neg (by simp [he, he2])]
      rfl
    have e3 : dst ⟨s.dep, max (max s.most (s.dep + 1)) (s.dep + 1 + x), 41⟩ 35 = some ⟨s.dep, max (max s.most (s.dep + 1)) (s.dep + 1 + x), 35⟩ := by
      unfold dst
      rw [if_neg (by decide), if_neg (by decide), if_pos rfl, if_pos rfl]
    rw [run_cons e2, run_cons e3]
    show some _ = some _
    congr 2
    omega
  | @cat d l m h k a b =>
    obtain ⟨x, hx, a⟩ := a
    obtain ⟨y, hy, b⟩ := b
    refine ⟨max x y, Nat.max_le.mpr ⟨hx, hy⟩, fun s hs hm => ?_⟩
    obtain ⟨e, he, he2, hr⟩ := a s hs hm
    obtain ⟨e', he', he2', hr'⟩ := b ⟨s.dep, max s.most (s.dep + x), e⟩ he2 (Nat.le_trans hm (Nat.le_max_left _ _))
    refine ⟨e', he', he2', ?_⟩
    rw [run_append hr, hr']
    congr 2
    show max (max s.most (s.dep + x)) (s.dep + y) = _
    omega
/-! ### what the text is at a number -/
structure Fs where
  worth : Option (List Nat)
  wait : List (Option (List Nat))
deriving DecidableEq
def times (n : Nat) (l : List Nat) : List Nat := (List.replicate n l).flatten
def fst (n : Nat) (s : Fs) (c : Nat) : Option Fs :=
  if c = 40 then some ⟨none, s.wait ++ [s.worth]⟩
  else if c = 35 then (match s.worth, s.wait.getLast? with
    | some w, some v => if (v.getD [] ++ times n w).length ≤ 100000 then some ⟨some (v.getD [] ++ times n w), s.wait.dropLast⟩ else none
    | _, _ => none)
  else if c = 41 then some s
  else if (s.worth.getD [] ++ [c]).length ≤ 100000 then some ⟨some (s.worth.getD [] ++ [c]), s.wait⟩ else none
theorem times_len (n : Nat) (l : List Nat) : (times n l).length = n * l.length := by
  unfold times
  induction n with
  | zero => simp
  | succ n ih => rw [List.replicate_succ, List.flatten_cons, List.length_append, ih, Nat.succ_mul]; omega
theorem Sq.fold {d : Nat} {l : List Nat} (h : Sq d l) (n : Nat) (hn : 1 ≤ n) : ∃ x : List Nat, x.length ≤ l.length * n ^ d ∧ ∀ s : Fs, (s.worth.getD []).length + l.length * n ^ d ≤ 100000 → run (fst n) s l = some ⟨some (s.worth.getD [] ++ x), s.wait⟩ := by
  induction h with
  | @one d c h =>
    refine ⟨[c], ?_, fun s hb => ?_⟩
    · show 1 ≤ 1 * n ^ d
      rw [Nat.one_mul]
      exact Nat.one_le_pow _ _ hn
    · have e : fst n s c = some ⟨some (s.worth.getD [] ++ [c]), s.wait⟩ := by
        unfold fst Lt at *
        rw [if_neg (by omega), if_neg (by omega), if_neg (by omega), if_pos]
        rw [List.length_append]
        have : 1 ≤ n ^ d := Nat.one_le_pow _ _ hn
        have h2 : [c].length * n ^ d = n ^ d := Nat.one_mul _
        rw [h2] at hb
        show _ + 1 ≤ _
        omega
      rw [run_cons e]
      rfl
  | @rep d l h ih =>
    obtain ⟨x, hx, ih⟩ := ih
    refine ⟨times n x, ?_, fun s hb => ?_⟩
    · rw [times_len, List.length_cons, List.length_append, Nat.pow_succ]
      have h1 : n * x.length ≤ n * (l.length * n ^ d) := Nat.mul_le_mul_left n hx
      have h2 : n * (l.length * n ^ d) = l.length * (n ^ d * n) := by
        rw [Nat.mul_left_comm, Nat.mul_comm n]
      have h3 : l.length * (n ^ d * n) ≤ (l.length + [41, 35].length + 1) * (n ^ d * n) := Nat.mul_le_mul_right _ (by omega)
      omega
    · have e1 : fst n s 40 = some ⟨none, s.wait ++ [s.worth]⟩ := by
        unfold fst
        rw [if_pos rfl]
      have hb2 : l.length * n ^ d ≤ l.length * (n ^ d * n) := Nat.mul_le_mul_left _ (Nat.le_mul_of_pos_right _ hn)
      have hb3 : l.length * (n ^ d * n) ≤ (40 :: (l ++ [41, 35])).length * n ^ (d + 1) := by
        rw [Nat.pow_succ]
        exact Nat.mul_le_mul_right _ (by simp; omega)
      have hb4 : n * x.length ≤ l.length * (n ^ d * n) := by
        have h1 : n * x.length ≤ n * (l.length * n ^ d) := Nat.mul_le_mul_left n hx
        have h2 : n * (l.length * n ^ d) = l.length * (n ^ d * n) := by
          rw [Nat.mul_left_comm, Nat.mul_comm n]
        omega
      rw [run_cons e1, run_append (ih _ (by show 0 + _ ≤ _; omega))]
      have e2 : fst n ⟨some ((none : Option (List Nat)).getD [] ++ x), s.wait ++ [s.worth]⟩ 41 = some ⟨some ((none : Option (List Nat)).getD [] ++ x), s.wait ++ [s.worth]⟩ := by
        unfold fst
        rw [if_neg (by decide), if_neg (by decide), if_pos rfl]
      have e3 : fst n ⟨some ((none : Option (List Nat)).getD [] ++ x), s.wait ++ [s.worth]⟩ 35 = some ⟨some (s.worth.getD [] ++ times n x), s.wait⟩ := by
        unfold fst
        rw [if_neg (by decide), if_pos rfl]
        have hb5 : (s.worth.getD [] ++ times n x).length ≤ 100000 := by
          rw [List.length_append, times_len]
          omega
        simp only [List.getLast?_append, List.getLast?_singleton, Option.some_or, List.dropLast_concat, Option.getD_none, List.nil_append]
        rw [if_pos hb5]
      rw [run_cons e2, run_cons e3]
      rfl
  | @cat d l m h k a b =>
    obtain ⟨x, hx, a⟩ := a
    obtain ⟨y, hy, b⟩ := b
    refine ⟨x ++ y, ?_, fun s hb => ?_⟩
    · rw [List.length_append, List.length_append, Nat.add_mul]
      omega
    · rw [List.length_append, Nat.add_mul] at hb
      rw [run_append (a s (by omega)), b _ (by show (s.worth.getD [] ++ x).length + _ ≤ _; rw [List.length_append]; omega)]
      simp
/-! ### weights -/
structure Ws where
  found : Nat
  dep : Nat
def wst (s : Ws) (c : Nat) : Option Ws :=
  if c = 40 then (if s.dep < 30 then some ⟨s.found, s.dep + 1⟩ else none)
  else if c = 41 then (if s.dep = 0 then none else some ⟨s.found, s.dep - 1⟩)
  else if c = 35 then some s
  else some ⟨s.found + 2 ^ s.dep, s.dep⟩
theorem Sq.weight {d : Nat} {l : List Nat} (h : Sq d l) : ∀ s : Ws, s.dep + d ≤ 30 → ∃ x, x ≤ l.length * 2 ^ (s.dep + d) ∧ run wst s l = some ⟨s.found + x, s.dep⟩ := by
  induction h with
  | @one d c h =>
    intro s hs
    refine ⟨2 ^ s.dep, ?_, ?_⟩
    · show _ ≤ 1 * _
      rw [Nat.one_mul]
      exact Nat.pow_le_pow_right (by decide) (by omega)
    · have e : wst s c = some ⟨s.found + 2 ^ s.dep, s.dep⟩ := by
        unfold wst Lt at *
        rw [if_neg (by omega), if_neg (by omega), if_neg (by omega)]
      rw [run_cons e]
      rfl
  | @rep d l h ih =>
    intro s hs
    have e1 : wst s 40 = some ⟨s.found, s.dep + 1⟩ := by
      unfold wst
      rw [if_pos rfl, if_pos (by omega)]
    obtain ⟨x, hx, hr⟩ := ih ⟨s.found, s.dep + 1⟩ (by show s.dep + 1 + d ≤ 30; omega)
    refine ⟨x, ?_, ?_⟩
    · rw [List.length_cons, List.length_append]
      have h3 : l.length * 2 ^ (s.dep + 1 + d) ≤ (l.length + [41, 35].length + 1) * 2 ^ (s.dep + (d + 1)) := Nat.mul_le_mul (by omega) (Nat.pow_le_pow_right (by decide) (by omega))
      exact Nat.le_trans hx h3
    · rw [run_cons e1, run_append hr]
      have e2 : wst ⟨s.found + x, s.dep + 1⟩ 41 = some ⟨s.found + x, s.dep⟩ := by
        unfold wst
        rw [if_neg (by decide), if_pos rfl, if_neg (by simp)]
        rfl
      have e3 : wst ⟨s.found + x, s.dep⟩ 35 = some ⟨s.found + x, s.dep⟩ := by
        unfold wst
        rw [if_neg (by decide), if_neg (by decide), if_pos rfl]
      rw [run_cons e2, run_cons e3]
      rfl
  | @cat d l m h k a b =>
    intro s hs
    obtain ⟨x, hx, hr⟩ := a s hs
    obtain ⟨y, hy, hr'⟩ := b ⟨s.found + x, s.dep⟩ hs
    refine ⟨x + y, ?_, ?_⟩
    · rw [List.length_append, Nat.add_mul]
      have : y ≤ m.length * 2 ^ (s.dep + d) := hy
      omega
    · rw [run_append hr, hr']
      congr 2
      show s.found + x + y = _
      omega
/-! ### parts: cut is what stands between two places -/
structure Ps (α : Type) where
  found : List α
  beg : List Nat
  at_ : Nat
/-- one sign of the text -/
def pst {α : Type} (cut : Nat → Nat → α) (s : Ps α) (c : Nat) : Option (Ps α) :=
  if c = 40 then some ⟨s.found, s.beg ++ [s.at_ + 1], s.at_ + 1⟩
  else if c = 41 then (match s.beg.getLast? with
    | some b => some ⟨s.found ++ [cut b s.at_], s.beg.dropLast, s.at_ + 1⟩
    | none => none)
  else some ⟨s.found, s.beg, s.at_ + 1⟩
theorem Sq.parts {α : Type} {d : Nat} {l : List Nat} (h : Sq d l) (cut : Nat → Nat → α) : ∀ s : Ps α, ∃ fs : List α, fs.length ≤ l.length ∧ run (pst cut) s l = some ⟨s.found ++ fs, s.beg, s.at_ + l.length⟩ := by
  induction h with
  | @one d c h =>
    intro s
    refine ⟨[], Nat.zero_le _, ?_⟩
    have e : pst cut s c = some ⟨s.found, s.beg, s.at_ + 1⟩ := by
      unfold pst Lt at *
      rw [if_neg (by omega), if_neg (by omega)]
    rw [run_cons e, List.append_nil]
    rfl
  | @rep d l h ih =>
    intro s
    have e1 : pst cut s 40 = some ⟨s.found, s.beg ++ [s.at_ + 1], s.at_ + 1⟩ := by
      unfold pst
      rw [if_pos rfl]
    obtain ⟨fs, hf, hr⟩ := ih ⟨s.found, s.beg ++ [s.at_ + 1], s.at_ + 1⟩
    refine ⟨fs ++ [cut (s.at_ + 1) (s.at_ + 1 + l.length)], by simp; omega, ?_⟩
    rw [run_cons e1, run_append hr]
    have e2 : pst cut ⟨s.found ++ fs, s.beg ++ [s.at_ + 1], s.at_ + 1 + l.length⟩ 41 = some ⟨s.found ++ fs ++ [cut (s.at_ + 1) (s.at_ + 1 + l.length)], s.beg, s.at_ + 1 + l.length + 1⟩ := by
      unfold pst
      rw [if_neg (by decide), if_pos rfl]
      simp
    have e3 : pst cut ⟨s.found ++ fs ++ [cut (s.at_ + 1) (s.at_ + 1 + l.length)], s.beg, s.at_ + 1 + l.length + 1⟩ 35 = some ⟨s.found ++ fs ++ [cut (s.at_ + 1) (s.at_ + 1 + l.length)], s.beg, s.at_ + 1 + l.length + 1 + 1⟩ := by
      unfold pst
      rw [if_neg (by decide), if_neg (by decide)]
    rw [run_cons e2, run_cons e3]
    show some _ = some _
    rw [List.append_assoc, List.length_cons, List.length_append]
    congr 2
    show _ = s.at_ + (l.length + 2 + 1)
    omega
  | @cat d l m h k a b =>
    intro s
    obtain ⟨x, hx, hr⟩ := a s
    obtain ⟨y, hy, hr'⟩ := b ⟨s.found ++ x, s.beg, s.at_ + l.length⟩
    refine ⟨x ++ y, by rw [List.length_append, List.length_append]; omega, ?_⟩
    rw [run_append hr, hr', List.length_append, List.append_assoc]
    congr 2
    show s.at_ + l.length + m.length = _
    omega
/-! ### lengths at a number -/
structure Ls where
  worth : Option Nat
  wait : List (Option Nat)
deriving DecidableEq
def big : Nat := 2 ^ 9000
theorem small_big {x : Nat} (h : x ≤ 100000) : x < big :=
  Nat.lt_of_lt_of_le (Nat.lt_of_le_of_lt h (show 100000 < 2 ^ 17 by decide)) (Nat.pow_le_pow_right (by decide) (by decide))
def lst (n : Nat) (s : Ls) (c : Nat) : Option Ls :=
  if c = 40 then some ⟨none, s.wait ++ [s.worth]⟩
  else if c = 35 then (match s.worth, s.wait.getLast? with
    | some w, some v => if w < big then some ⟨some (v.getD 0 + w * n), s.wait.dropLast⟩ else none
    | _, _ => none)
  else if c = 41 then some s
  else some ⟨some (s.worth.getD 0 + 1), s.wait⟩
def toL (s : Fs) : Ls := ⟨s.worth.map List.length, s.wait.map (Option.map List.length)⟩
theorem lst_of {n c : Nat} {s s' : Fs} (hn : 1 ≤ n) (h : fst n s c = some s') : lst n (toL s) c = some (toL s') := by
  unfold fst at h
  unfold lst
  split at h
  · cases h
    rw [if_pos ‹_›]
    simp [toL]
  · rw [if_neg ‹_›]
    split at h
    · rw [if_pos ‹_›]
      obtain ⟨wo, wt⟩ := s
      cases wo with
      | none => cases h
      | some w =>
        dsimp only at h
        cases hl : wt.getLast? with
        | none => rw [hl] at h; cases h
        | some v =>
          rw [hl] at h
          dsimp only at h
          split at h
          rotate_left
          · cases h
          cases h
          have e : (toL ⟨some w, wt⟩).wait.getLast? = some (v.map List.length) := by
            show (wt.map (Option.map List.length)).getLast? = _
            rw [List.getLast?_map, hl]
            rfl
          have e1 : (toL ⟨some w, wt⟩).worth = some w.length := rfl
          have hw : w.length < big := by
            refine small_big ?_
            rename_i hle
            rw [List.length_append, times_len] at hle
            have : w.length ≤ n * w.length := Nat.le_mul_of_pos_left _ hn
            omega
          rw [e, e1]
          dsimp only
          rw [if_pos hw]
          show some _ = some _
          unfold toL
          congr 2
          · show some _ = some _
            rw [List.length_append, times_len, Nat.mul_comm]
            cases v <;> rfl
          · show (wt.map _).dropLast = _
            rw [List.map_dropLast]
    · rw [if_neg ‹_›]
      split at h
      · rw [if_pos ‹_›]
        cases h
        rfl
      · rw [if_neg ‹_›]
        split at h
        rotate_left
        · cases h
        cases h
        unfold toL
        congr 2
        show some _ = some _
        rw [List.length_append]
        cases s.worth <;> rfl
theorem run_lst {n : Nat} {l : List Nat} {s s' : Fs} (hn : 1 ≤ n) (h : run (fst n) s l = some s') : run (lst n) (toL s) l = some (toL s') := by
  induction l generalizing s with
  | nil => cases h; rfl
  | cons c l ih =>
    obtain ⟨t, h1, h2⟩ := run_step h
    rw [run_cons (lst_of hn h1)]
    exact ih h2
end PT

set_option Elab.async false
set_option linter.all false
set_option maxRecDepth 100000
set_option maxHeartbeats 2000000
/-! PTS: texts as lists of signs; loops over them. -/
namespace PT
open PySem PySem.Spec L2 LP
open PyProof.Rows hiding St signs
def tx (l : List Nat) : Str := ⟨l.toArray⟩
def sg (c : Nat) : Str := ⟨#[c]⟩
theorem len_tx (l : List Nat) : (tx l).length = l.length := by
  show (l.toArray).size = _
  simp
theorem signs_tx (l : List Nat) : LP.signs (tx l) = l.map fun c => V.str (sg c) := by
  unfold LP.signs tx
  simp [LP.sgn, sg]
theorem tx_append (l m : List Nat) : tx l ++ tx m = tx (l ++ m) := by
  show (⟨(tx l).cps ++ (tx m).cps⟩ : Str) = _
  unfold tx
  simp
theorem tx_inj {l m : List Nat} : tx l = tx m ↔ l = m := ⟨fun e => by
  have e2 : l.toArray = m.toArray := Str.mk.inj e
  simpa using e2, fun e => by rw [e]⟩
theorem repS_tx (l : List Nat) (n : Nat) : repS (tx l) ((n : Nat) : Int) = tx (times n l) := by
  have e := tl_rep (tx l) ((n : Nat) : Int)
  rw [Int.toNat_natCast, show TL.tl (tx l) = l from by show l.toArray.toList = l; simp] at e
  have e2 : (repS (tx l) ((n : Nat) : Int)).cps = (times n l).toArray := by
    rw [← Array.toList_inj]
    show TL.tl _ = _
    rw [e]
    rfl
  show (⟨(repS (tx l) ((n : Nat) : Int)).cps⟩ : Str) = _
  rw [e2]
  rfl
theorem log_lt {x k : Nat} (hk : 0 < k) (h : x < 2 ^ k) : x.log2 < k := by
  by_cases h0 : x = 0
  · subst h0
    exact hk
  · exact (Nat.log2_lt h0).mpr h
theorem mulW {m n : Nat} (hm : m < big) (hn : n < 10 ^ 60) : CMulW ((m : Nat) : Int) ((n : Nat) : Int) := by
  unfold CMulW
  rw [Int.natAbs_natCast, Int.natAbs_natCast]
  have h1 : m.log2 < 9000 := log_lt (by decide) hm
  have h2 : n.log2 < 200 := log_lt (by decide) (Nat.lt_trans hn (by decide))
  omega
theorem sg_tx (c : Nat) : sg c = tx [c] := rfl
theorem sg_inj {a b : Nat} : sg a = sg b ↔ a = b := by
  rw [sg_tx, sg_tx, tx_inj]
  simp
theorem open_sg : Str.ofString "(" = sg 40 := rfl
theorem shut_sg : Str.ofString ")" = sg 41 := rfl
theorem again_sg : Str.ofString "#" = sg 35 := rfl
theorem scal_bl (a b : Bool) : scal (.bl a) (.bl b) = true := rfl
theorem scal_int (a b : Int) : scal (.int a) (.int b) = true := rfl
theorem cast0 : ((0 : Nat) : Int) = 0 := rfl
theorem beq_sg (a b : Nat) : (sg a == sg b) = decide (a = b) := by
  by_cases h : a = b
  · subst h; simp
  · have : sg a ≠ sg b := fun e => h (sg_inj.mp e)
    simp [h, this]
theorem in3 (c : Nat) : inV (.str (sg c)) [.str (sg 40), .str (sg 41), .str (sg 35)] = decide (c = 40 ∨ c = 41 ∨ c = 35) := by
  show ((sg 40 == sg c) || ((sg 41 == sg c) || ((sg 35 == sg c) || false))) = _
  rw [beq_sg, beq_sg, beq_sg]
  by_cases h1 : c = 40
  · subst h1; rfl
  · by_cases h2 : c = 41
    · subst h2; rfl
    · by_cases h3 : c = 35
      · subst h3; rfl
      · simp [h1, h2, h3, Ne.symm h1, Ne.symm h2, Ne.symm h3]
theorem in2 (c : Nat) : inV (.str (sg c)) [.str (sg 40), .str (sg 41)] = decide (c = 40 ∨ c = 41) := by
  show ((sg 40 == sg c) || ((sg 41 == sg c) || false)) = _
  rw [beq_sg, beq_sg]
  by_cases h1 : c = 40
  · subst h1; rfl
  · by_cases h2 : c = 41
    · subst h2; rfl
    · simp [h1, h2, Ne.symm h1, Ne.symm h2]
theorem flat3 (a b c : Str) : [V.str a, .str b, .str c].all flatV = true := rfl
theorem flat2 (a b : Str) : [V.str a, .str b].all flatV = true := rfl
theorem flat_str (a : Str) : flatV (.str a) = true := rfl
theorem drop_cons {l : List Nat} {i : Nat} (h : i < l.length) : l.drop i = l[i] :: l.drop (i + 1) := by
  rw [List.drop_eq_getElem_cons h]
/-- a loop over the signs of a text: what is left -/
theorem loop_sfx {l : List Nat} {g : TG} {tb : TS} {D : Ends} {σ : St} {H : Hp} (Pv : List Nat → St → Hp → Prop) (h0 : Pv l σ H)
    (hs : ∀ (c : Nat) (r : List Nat) (σ : St) (H : Hp), (∃ m, l = m ++ c :: r) → Pv (c :: r) σ H → g (.str (sg c)) σ H fun σ2 H2 => Later tb { D with nx := Pv r, ct := Pv r, bk := D.nx } σ2 H2)
    (hd : ∀ σ H, Pv [] σ H → D.nx σ H) : Loop (Its (tx l)) g tb D σ H := by
  refine loop_it (walk_signs (tx l)) (fun i σ H => Pv (l.drop i) σ H) h0 (fun _ _ _ _ _ => trivial) (fun i x σ H H' hi hp y => ?_) (fun σ H hp => ?_)
  · obtain ⟨rfl, e⟩ := y
    rw [signs_tx, List.length_map] at hi
    rw [signs_tx, List.getElem?_map, List.getElem?_eq_getElem hi] at e
    cases e
    refine hs _ _ σ _ ⟨l.take i, ?_⟩ ?_
    · rw [← drop_cons hi, List.take_append_drop]
    · have := hp
      rw [drop_cons hi] at this
      exact this
  · rw [signs_tx, List.length_map, List.drop_length] at hp
    exact hd σ H hp
/-- the same, with the places -/
theorem loop_esfx {K : PySem.W.Frag} {l : List Nat} {g : TG} {tb : TS} {D : Ends} {σ : St} {H : Hp} (Pv : List Nat → St → Hp → Prop) (h0 : Pv l σ H)
    (hs : ∀ (m : List Nat) (c : Nat) (r : List Nat) (T : Addr) (σ : St) (H : Hp), l = m ++ c :: r → Pv (c :: r) σ H → H T = none → g (.ref T) σ (upd H T (.tup [.int ((m.length : Nat) : Int), .str (sg c)])) fun σ2 H2 => Later tb { D with nx := Pv r, ct := Pv r, bk := D.nx } σ2 H2)
    (hd : ∀ σ H, Pv [] σ H → D.nx σ H) : Loop (LZ.ItnE K (.str (tx l))) g tb D σ H := by
  refine loop_it (LZ.walk_enumN (xs := LP.signs (tx l))) (fun i σ H => Pv (l.drop i) σ H) h0 (fun _ _ _ _ _ => rfl) (fun i x σ H H' hi hp y => ?_) (fun σ H hp => ?_)
  · obtain ⟨T, a, b, rfl, hT, rfl, ea, eb⟩ := y
    rw [signs_tx, List.length_map] at hi
    dsimp only at eb
    rw [signs_tx, List.getElem?_map, List.getElem?_eq_getElem hi] at eb
    cases eb
    cases ea
    have el : (l.take i).length = i := by rw [List.length_take]; omega
    have := hs (l.take i) l[i] (l.drop (i + 1)) T σ H (by rw [← drop_cons hi, List.take_append_drop]) (by
      have := hp
      rw [drop_cons hi] at this
      exact this) hT
    rw [el] at this
    exact this
  · rw [signs_tx, List.length_map, List.drop_length] at hp
    exact hd σ H hp
/-- what the scans find -/
def depL (l : List Nat) : Option Nat := match run dst ⟨0, 0, 40⟩ l with
  | some ⟨0, x, e⟩ => if e = 40 ∨ e = 41 then none else some x
  | _ => none
def depV (l : List Nat) : V := match depL l with
  | some x => .int (x : Int)
  | none => .non
theorem depV_of {l : List Nat} {x y z : Nat} (h : run dst ⟨0, 0, 40⟩ l = some ⟨x, y, z⟩) : depV l = if x = 0 ∧ ¬(z = 40 ∨ z = 41) then .int (y : Int) else .non := by
  unfold depV depL
  rw [h]
  cases x with
  | succ x =>
    rw [if_neg (by omega)]
    rfl
  | zero =>
    by_cases hz : z = 40 ∨ z = 41
    · simp [hz]
    · simp [hz]
theorem depV_none {l : List Nat} (h : run dst ⟨0, 0, 40⟩ l = none) : depV l = .non := by
  unfold depV depL
  rw [h]
def cutT (l : List Nat) (b a : Nat) : Str := cutS (tx l) (some (b : Int)) (some (a : Int))
def parL (l : List Nat) : Option (List Str) := match run (pst (cutT l)) ⟨[], [], 0⟩ l with
  | some ⟨fs, _, _⟩ => some fs
  | none => none
def wtL (l : List Nat) : Option Nat := match run wst ⟨0, 0⟩ l with
  | some ⟨x, _⟩ => some x
  | none => none
def valL (n : Nat) (l : List Nat) : Option (List Nat) := match run (fst n) ⟨none, []⟩ l with
  | some ⟨some x, _⟩ => some x
  | _ => none
def lenL (n : Nat) (l : List Nat) : Option Nat := match run (lst n) ⟨none, []⟩ l with
  | some ⟨some x, _⟩ => some x
  | _ => none
theorem last_at {α : Type} {l : List α} {b : α} (h : l.getLast? = some b) : l[l.length - 1]? = some b := by
  rw [List.getLast?_eq_getElem?] at h
  exact h
theorem map_dropLast' {α β : Type} (f : α → β) (l : List α) : (l.map f).dropLast = l.dropLast.map f := by rw [List.map_dropLast]
theorem last_map {α β : Type} {f : α → β} {l : List α} {b : α} (h : l.getLast? = some b) : (l.map f)[(l.map f).length - 1]? = some (f b) := by
  rw [List.length_map, List.getElem?_map, last_at h]
  rfl
theorem last_len {α : Type} {l : List α} {b : α} (h : l.getLast? = some b) : l.dropLast.length + 1 = l.length := by
  cases l with
  | nil => cases h
  | cons a t => simp
theorem two_pow (k : Nat) : (2 : Int) * ((2 ^ k : Nat) : Int) = ((2 ^ (k + 1) : Nat) : Int) := by
  rw [Nat.pow_succ, Nat.mul_comm]
  rfl
theorem half_pow {k : Nat} (h : k ≠ 0) : ((2 ^ k : Nat) : Int) / 2 = ((2 ^ (k - 1) : Nat) : Int) := by
  obtain ⟨j, rfl⟩ : ∃ j, k = j + 1 := ⟨k - 1, by omega⟩
  rw [Nat.pow_succ, Nat.add_sub_cancel]
  omega
/-- the signs that are letters -/
def lets (l : List Nat) : List Nat := l.filter fun c => !decide (c = 40 ∨ c = 41 ∨ c = 35)
theorem Sq.lets {d : Nat} {l : List Nat} (h : Sq d l) : l.filter (fun c => decide (97 ≤ c ∧ c ≤ 122)) = lets l := by
  unfold PT.lets
  refine List.filter_congr fun c hc => ?_
  rw [← decide_not]
  refine decide_eq_decide.mpr ?_
  rcases h.signs c hc with h | h | h | h
  · unfold Lt at h
    omega
  · omega
  · omega
  · omega
theorem Sq.depL {d : Nat} {l : List Nat} (h : Sq d l) : ∃ x e, x ≤ d ∧ depL l = some x ∧ run dst ⟨0, 0, 40⟩ l = some ⟨0, x, e⟩ := by
  obtain ⟨x, hx, hr⟩ := h.dep
  obtain ⟨e, he, he2, hr⟩ := hr ⟨0, 0, 40⟩ (show (40 : Nat) ≠ 41 by decide) (Nat.le_refl 0)
  have e1 : run dst ⟨0, 0, 40⟩ l = some ⟨0, x, e⟩ := by
    rw [hr]
    congr 2
    show max 0 (0 + x) = x
    omega
  refine ⟨x, e, hx, ?_, e1⟩
  unfold PT.depL
  rw [e1]
  exact if_neg (by omega)
theorem Sq.parL {d : Nat} {l : List Nat} (h : Sq d l) : ∃ fs n, fs.length ≤ l.length ∧ parL l = some fs ∧ run (pst (cutT l)) ⟨[], [], 0⟩ l = some ⟨fs, [], n⟩ := by
  obtain ⟨fs, hf, hr⟩ := h.parts (cutT l) ⟨[], [], 0⟩
  refine ⟨fs, _, hf, ?_, hr⟩
  unfold PT.parL
  rw [hr]
  rfl
theorem Sq.wtL {d : Nat} {l : List Nat} (h : Sq d l) (hd : d ≤ 30) : ∃ x, x ≤ l.length * 2 ^ d ∧ wtL l = some x ∧ run wst ⟨0, 0⟩ l = some ⟨x, 0⟩ := by
  obtain ⟨x, hx, hr⟩ := h.weight ⟨0, 0⟩ (by show 0 + d ≤ 30; omega)
  have e : run wst ⟨0, 0⟩ l = some ⟨x, 0⟩ := by
    rw [hr]
    show some (Ws.mk (0 + x) 0) = _
    rw [Nat.zero_add]
  refine ⟨x, ?_, ?_, e⟩
  · rw [show (Ws.mk 0 0).dep + d = d from Nat.zero_add d] at hx
    exact hx
  unfold PT.wtL
  rw [e]
theorem Sq.valL {d : Nat} {l : List Nat} (h : Sq d l) (n : Nat) (hn : 1 ≤ n) (hb : l.length * n ^ d ≤ 100000) : ∃ x : List Nat, x.length ≤ l.length * n ^ d ∧ valL n l = some x ∧ run (fst n) ⟨none, []⟩ l = some ⟨some x, []⟩ ∧ lenL n l = some x.length ∧ run (lst n) ⟨none, []⟩ l = some ⟨some x.length, []⟩ := by
  obtain ⟨x, hx, hr⟩ := h.fold n hn
  have e : run (fst n) ⟨none, []⟩ l = some ⟨some x, []⟩ := by
    rw [hr _ (by show 0 + _ ≤ _; omega)]
    rfl
  have e2 : run (lst n) ⟨none, []⟩ l = some ⟨some x.length, []⟩ := run_lst hn e
  refine ⟨x, hx, ?_, e, ?_, e2⟩
  · unfold PT.valL
    rw [e]
  · unfold PT.lenL
    rw [e2]
theorem pst_all {α : Type} {R : α → Prop} {cut : Nat → Nat → α} (h : ∀ b a, R (cut b a)) : ∀ (l : List Nat) (s s' : Ps α), run (pst cut) s l = some s' → (∀ f, f ∈ s.found → R f) → ∀ f, f ∈ s'.found → R f
  | [], s, s', e, hf => by cases e; exact hf
  | c :: l, s, s', e, hf => by
    obtain ⟨t, h1, h2⟩ := run_step e
    refine pst_all h l t s' h2 ?_
    unfold pst at h1
    split at h1
    · cases h1; exact hf
    · split at h1
      · split at h1
        · cases h1
          intro f hm
          rcases List.mem_append.mp hm with hm | hm
          · exact hf f hm
          · rw [List.mem_singleton.mp hm]
            exact h _ _
        · cases h1
      · cases h1; exact hf
theorem ok_tx {l : List Nat} (h : ∀ c, c ∈ l → c < 1114112) : PyData.strOk (tx l) = true := by
  unfold PyData.strOk tx
  rw [List.all_toArray, List.all_eq_true]
  intro c hc
  exact decide_eq_true (h c hc)
theorem ok_cut {l : List Nat} (h : ∀ c, c ∈ l → c < 1114112) (b a : Nat) : PyData.strOk (cutT l b a) = true := by
  unfold cutT cutS
  refine ok_tx (l := List.take _ (List.drop _ _)) fun c hc => ?_
  have h1 := List.mem_of_mem_drop (List.mem_of_mem_take hc)
  exact h c (by
    have h2 : c ∈ l.toArray.toList := h1
    simpa using h2)
theorem Sq.small {d : Nat} {l : List Nat} (h : Sq d l) : ∀ c, c ∈ l → c < 1114112 := fun c hc => by
  rcases h.signs c hc with h | h | h | h
  · exact Nat.lt_of_le_of_lt h.2 (by decide)
  · omega
  · omega
  · omega
end PT

set_option Elab.async false
set_option linter.all false
/-! PN: texts that are no patterns: the longest sequence at a place, by the scan. -/
namespace PT
theorem run_none {σ : Type} {f : σ → Nat → Option σ} {s : σ} {c : Nat} {l : List Nat} (h : f s c = none) : run f s (c :: l) = none := by
  show (f s c).bind _ = none
  rw [h]
  rfl
/-- one level deeper -/
theorem dst_up {x m z c x' m' z' : Nat} (m1 : Nat) (h : dst ⟨x, m, z⟩ c = some ⟨x', m', z'⟩) : ∃ m1', dst ⟨x + 1, m1, z⟩ c = some ⟨x' + 1, m1', z'⟩ := by
  unfold dst at h ⊢
  dsimp only at h ⊢
  by_cases h40 : c = 40
  · rw [if_pos h40] at h ⊢
    by_cases hz : z = 41
    · rw [if_pos hz] at h; cases h
    · rw [if_neg hz] at h ⊢
      cases h
      exact ⟨_, rfl⟩
  · rw [if_neg h40] at h ⊢
    by_cases h41 : c = 41
    · rw [if_pos h41] at h ⊢
      by_cases hz : z = 41 ∨ z = 40 ∨ x = 0
      · rw [if_pos hz] at h; cases h
      · rw [if_neg hz] at h
        cases h
        refine ⟨m1, ?_⟩
        rw [if_neg (by omega)]
        congr 2
        omega
    · rw [if_neg h41] at h ⊢
      by_cases h35 : c = 35
      · rw [if_pos h35] at h ⊢
        by_cases hz : z = 41
        · rw [if_pos hz] at h ⊢
          cases h
          exact ⟨_, rfl⟩
        · rw [if_neg hz] at h; cases h
      · rw [if_neg h35] at h ⊢
        by_cases hl : 97 ≤ c ∧ c ≤ 122
        · rw [if_pos hl] at h ⊢
          by_cases hz : z = 41
          · rw [if_pos hz] at h; cases h
          · rw [if_neg hz] at h ⊢
            cases h
            exact ⟨_, rfl⟩
        · rw [if_neg hl] at h; cases h
theorem run_up {l : List Nat} : ∀ {x m z x' m' z' : Nat} (m1 : Nat), run dst ⟨x, m, z⟩ l = some ⟨x', m', z'⟩ → ∃ m1', run dst ⟨x + 1, m1, z⟩ l = some ⟨x' + 1, m1', z'⟩ := by
  induction l with
  | nil =>
    intro x m z x' m' z' m1 h
    cases h
    exact ⟨m1, rfl⟩
  | cons c l ih =>
    intro x m z x' m' z' m1 h
    obtain ⟨⟨a, b, e⟩, h1, h2⟩ := run_step h
    obtain ⟨m2, h3⟩ := dst_up m1 h1
    obtain ⟨m3, h4⟩ := ih m2 h2
    exact ⟨m3, by rw [run_cons h3]; exact h4⟩
/-- the depth does not matter but at its end -/
theorem dst_down {x m z c x' m' z' : Nat} (m0 : Nat) (h : dst ⟨x + 1, m, z⟩ c = some ⟨x' + 1, m', z'⟩) : ∃ m1, dst ⟨x, m0, z⟩ c = some ⟨x', m1, z'⟩ ∧ (m0 + 1 ≤ m → m1 + 1 ≤ m') := by
  unfold dst at h ⊢
  dsimp only at h ⊢
  by_cases h40 : c = 40
  · rw [if_pos h40] at h ⊢
    by_cases hz : z = 41
    · rw [if_pos hz] at h; cases h
    · rw [if_neg hz] at h ⊢
      simp only [Option.some.injEq, Ds.mk.injEq] at h
      exact ⟨_, by rw [← h.2.2]; congr 2; omega, by omega⟩
  · rw [if_neg h40] at h ⊢
    by_cases h41 : c = 41
    · rw [if_pos h41] at h ⊢
      by_cases hz : z = 41 ∨ z = 40 ∨ x + 1 = 0
      · rw [if_pos hz] at h; cases h
      · rw [if_neg hz] at h
        simp only [Option.some.injEq, Ds.mk.injEq] at h
        refine ⟨m0, ?_, by omega⟩
        rw [if_neg (by omega), ← h.2.2]
        congr 2
        omega
    · rw [if_neg h41] at h ⊢
      by_cases h35 : c = 35
      · rw [if_pos h35] at h ⊢
        by_cases hz : z = 41
        · rw [if_pos hz] at h ⊢
          simp only [Option.some.injEq, Ds.mk.injEq] at h
          exact ⟨_, by rw [← h.2.2]; congr 2; omega, by omega⟩
        · rw [if_neg hz] at h; cases h
      · rw [if_neg h35] at h ⊢
        by_cases hl : 97 ≤ c ∧ c ≤ 122
        · rw [if_pos hl] at h ⊢
          by_cases hz : z = 41
          · rw [if_pos hz] at h; cases h
          · rw [if_neg hz] at h ⊢
            simp only [Option.some.injEq, Ds.mk.injEq] at h
            exact ⟨_, by rw [← h.2.2]; congr 2; omega, by omega⟩
        · rw [if_neg hl] at h; cases h
theorem dst_mono {s s' : Ds} {c : Nat} (h : dst s c = some s') : s.most ≤ s'.most := by
  unfold dst at h
  split at h
  · split at h
    · cases h
    · cases h; exact Nat.le_max_left _ _
  · split at h
    · split at h
      · cases h
      · cases h; exact Nat.le_refl _
    · split at h
      · split at h
        · cases h; exact Nat.le_refl _
        · cases h
      · split at h
        · split at h
          · cases h
          · cases h; exact Nat.le_refl _
        · cases h
theorem run_mono {l : List Nat} : ∀ {s s' : Ds}, run dst s l = some s' → s.most ≤ s'.most := by
  induction l with
  | nil => intro s s' h; cases h; exact Nat.le_refl _
  | cons c l ih =>
    intro s s' h
    obtain ⟨t, h1, h2⟩ := run_step h
    exact Nat.le_trans (dst_mono h1) (ih h2)
/-- where a part ends -/
theorem part_end {l : List Nat} : ∀ {x m z y e : Nat} (m0 : Nat), run dst ⟨x + 1, m, z⟩ l = some ⟨0, y, e⟩ → ∃ a b m' e' m'', l = a ++ 41 :: b ∧ run dst ⟨x, m0, z⟩ a = some ⟨0, m', e'⟩ ∧ e' ≠ 40 ∧ e' ≠ 41 ∧ run dst ⟨0, m'', 41⟩ b = some ⟨0, y, e⟩ ∧ (m0 + 1 ≤ m → m' + 1 ≤ y) := by
  induction l with
  | nil =>
    intro x m z y e m0 h
    cases h
  | cons c l ih =>
    intro x m z y e m0 h
    obtain ⟨⟨p, q, r⟩, h1, h2⟩ := run_step h
    cases p with
    | succ p =>
      obtain ⟨m1, h3, hm⟩ := dst_down m0 h1
      obtain ⟨a, b, m', e', m'', rfl, g1, g2, g3, g4, g5⟩ := ih m1 h2
      exact ⟨c :: a, b, m', e', m'', rfl, by rw [run_cons h3]; exact g1, g2, g3, g4, fun z => g5 (hm z)⟩
    | zero =>
      unfold dst at h1
      dsimp only at h1
      by_cases h40 : c = 40
      · rw [if_pos h40] at h1
        by_cases hz : z = 41
        · rw [if_pos hz] at h1; cases h1
        · rw [if_neg hz] at h1
          simp only [Option.some.injEq, Ds.mk.injEq] at h1
          omega
      · rw [if_neg h40] at h1
        by_cases h41 : c = 41
        · rw [if_pos h41] at h1
          by_cases hz : z = 41 ∨ z = 40 ∨ x + 1 = 0
          · rw [if_pos hz] at h1; cases h1
          · rw [if_neg hz] at h1
            simp only [Option.some.injEq, Ds.mk.injEq] at h1
            obtain ⟨e1, e2, e3⟩ := h1
            obtain rfl : x = 0 := by omega
            subst h41 e2 e3
            exact ⟨[], l, m0, z, _, rfl, rfl, by omega, by omega, h2, fun z => Nat.le_trans z (run_mono h2)⟩
        · rw [if_neg h41] at h1
          by_cases h35 : c = 35
          · rw [if_pos h35] at h1
            by_cases hz : z = 41
            · rw [if_pos hz] at h1
              simp only [Option.some.injEq, Ds.mk.injEq] at h1
              omega
            · rw [if_neg hz] at h1; cases h1
          · rw [if_neg h35] at h1
            by_cases hl : 97 ≤ c ∧ c ≤ 122
            · rw [if_pos hl] at h1
              by_cases hz : z = 41
              · rw [if_pos hz] at h1; cases h1
              · rw [if_neg hz] at h1
                simp only [Option.some.injEq, Ds.mk.injEq] at h1
                omega
            · rw [if_neg hl] at h1; cases h1
theorem dst_again {m c : Nat} {s : Ds} (s1 : dst ⟨0, m, 41⟩ c = some s) : c = 35 ∧ s = ⟨0, m, 35⟩ := by
  unfold dst at s1
  dsimp only at s1
  by_cases h40 : c = 40
  · rw [if_pos h40, if_pos rfl] at s1; cases s1
  · rw [if_neg h40] at s1
    by_cases h41 : c = 41
    · rw [if_pos h41, if_pos (.inl rfl)] at s1; cases s1
    · rw [if_neg h41] at s1
      by_cases h35 : c = 35
      · rw [if_pos h35, if_pos rfl] at s1
        exact ⟨h35, (Option.some.inj s1).symm⟩
      · rw [if_neg h35] at s1
        by_cases hlt : 97 ≤ c ∧ c ≤ 122
        · rw [if_pos hlt, if_pos rfl] at s1; cases s1
        · rw [if_neg hlt] at s1; cases s1
theorem depL_some {l : List Nat} {x : Nat} (h : depL l = some x) : ∃ e, e ≠ 40 ∧ e ≠ 41 ∧ run dst ⟨0, 0, 40⟩ l = some ⟨0, x, e⟩ := by
  unfold depL at h
  split at h
  · rename_i y e hr
    split at h
    · cases h
    · cases h
      exact ⟨e, by omega, by omega, hr⟩
  · cases h
theorem depL_of {l : List Nat} {x e : Nat} (h : run dst ⟨0, 0, 40⟩ l = some ⟨0, x, e⟩) (h1 : e ≠ 40) (h2 : e ≠ 41) : depL l = some x := by
  unfold depL
  rw [h]
  exact if_neg (by omega)
theorem depL_nil : depL [] = none := rfl
/-! ### the longest sequence -/
/-- k signs of r are the longest sequence with which r begins; none for no one -/
def Longest (r : List Nat) : Option Nat → Prop
  | none => ∀ j, depL (r.take j) = none
  | some k => 0 < k ∧ k ≤ r.length ∧ depL (r.take k) ≠ none ∧ ∀ j, k < j → j ≤ r.length → depL (r.take j) = none
/-- so far: k signs were read -/
structure SoFar (r : List Nat) (k : Nat) : Prop where
  le : k ≤ r.length
  run : ∃ m e, PT.run dst ⟨0, 0, 40⟩ (r.take k) = some ⟨0, m, e⟩ ∧ e ≠ 41 ∧ (k = 0 ∨ e ≠ 40)
def soFar (k : Nat) : Option Nat := if k = 0 then none else some k
theorem take_split {r : List Nat} {k j : Nat} (h : k ≤ j) : r.take j = r.take k ++ (r.drop k).take (j - k) := by
  obtain ⟨i, rfl⟩ : ∃ i, j = k + i := ⟨j - k, by omega⟩
  rw [List.take_add, Nat.add_sub_cancel_left]
theorem SoFar.start (r : List Nat) : SoFar r 0 := ⟨Nat.zero_le _, 0, 40, rfl, by decide, .inl rfl⟩
/-- it ends here, if no longer one goes on -/
theorem SoFar.stop {r : List Nat} {k : Nat} (h : SoFar r k) (hs : ∀ j, k < j → j ≤ r.length → depL (r.take j) = none) : Longest r (soFar k) := by
  obtain ⟨m, e, h1, h2, h3⟩ := h.run
  unfold soFar
  split
  · rename_i hk
    subst hk
    intro j
    by_cases hj : j = 0
    · subst hj; rfl
    · by_cases hl : j ≤ r.length
      · exact hs j (by omega) hl
      · rw [List.take_of_length_le (by omega)]
        by_cases hr : r.length = 0
        · rw [List.length_eq_zero_iff.mp hr]; rfl
        · have := hs r.length (by omega) (Nat.le_refl _)
          rw [List.take_length] at this
          exact this
  · rename_i hk
    refine ⟨by omega, h.le, ?_, hs⟩
    rw [depL_of h1 (by omega) h2]
    simp
theorem SoFar.whole {r : List Nat} (h : SoFar r r.length) : Longest r (soFar r.length) := h.stop fun j h1 h2 => by omega
/-- what a longer one does to the sign that comes -/
theorem SoFar.longer {r : List Nat} {k j c : Nat} {t : List Nat} (h : SoFar r k) (hd : r.drop k = c :: t) (hj : k < j) {x : Nat} (hx : depL (r.take j) = some x) : ∃ m e e', e ≠ 41 ∧ e' ≠ 41 ∧ e' ≠ 40 ∧ PT.run dst ⟨0, m, e⟩ (c :: t.take (j - k - 1)) = some ⟨0, x, e'⟩ := by
  obtain ⟨m, e, h1, h2, h3⟩ := h.run
  obtain ⟨e', g1, g2, g3⟩ := depL_some hx
  rw [take_split (Nat.le_of_lt hj), hd, run_append h1] at g3
  obtain ⟨i, hi⟩ : ∃ i, j - k = i + 1 := ⟨j - k - 1, by omega⟩
  rw [hi, List.take_succ_cons] at g3
  refine ⟨m, e, e', h2, g2, g1, ?_⟩
  rw [hi, Nat.add_sub_cancel]
  exact g3
/-- a sign that is none -/
theorem SoFar.bad {r : List Nat} {k c : Nat} {t : List Nat} (h : SoFar r k) (hd : r.drop k = c :: t) (h1 : ¬(97 ≤ c ∧ c ≤ 122)) (h2 : c ≠ 40) : Longest r (soFar k) := by
  refine h.stop fun j hj hl => ?_
  cases hx : depL (r.take j) with
  | none => rfl
  | some x =>
    obtain ⟨m, e, e', g1, g2, g3, g4⟩ := h.longer hd hj hx
    rw [run_none (by
      unfold dst
      dsimp only
      rw [if_neg h2]
      by_cases h41 : c = 41
      · rw [if_pos h41, if_pos (by omega)]
      · rw [if_neg h41]
        by_cases h35 : c = 35
        · rw [if_pos h35, if_neg g1]
        · rw [if_neg h35, if_neg h1])] at g4
    cases g4
theorem SoFar.ext {r : List Nat} {k i : Nat} {l : List Nat} {m' e' : Nat} (h : SoFar r k) (hd : (r.drop k).take i = l) (hi : i = l.length) (hp : 0 < i) (hr : ∀ m e, e ≠ 41 → ∃ m', PT.run dst ⟨0, m, e⟩ l = some ⟨0, m', e'⟩) (h1 : e' ≠ 40) (h2 : e' ≠ 41) : SoFar r (k + i) := by
  obtain ⟨m, e, g1, g2, g3⟩ := h.run
  have hle : k + i ≤ r.length := by
    have := congrArg List.length hd
    rw [List.length_take, List.length_drop] at this
    have := h.le
    omega
  obtain ⟨m', h3⟩ := hr m e g2
  refine ⟨hle, m', e', ?_, h2, .inr h1⟩
  rw [take_split (Nat.le_add_right k i), Nat.add_sub_cancel_left, hd, run_append g1]
  exact h3
/-- a letter -/
theorem SoFar.letter {r : List Nat} {k c : Nat} {t : List Nat} (h : SoFar r k) (hd : r.drop k = c :: t) (h1 : 97 ≤ c ∧ c ≤ 122) : SoFar r (k + 1) := by
  refine h.ext (l := [c]) (m' := 0) (e' := c) (by rw [hd]; rfl) rfl (by decide) (fun m e he => ⟨m, ?_⟩) (by omega) (by omega)
  rw [run_cons (s' := ⟨0, m, c⟩)]
  · rfl
  · unfold dst
    dsimp only
    rw [if_neg (by omega), if_neg (by omega), if_neg (by omega), if_pos h1, if_neg he]
theorem dst_open {m e : Nat} (he : e ≠ 41) : dst ⟨0, m, e⟩ 40 = some ⟨1, max m 1, 40⟩ := by
  unfold dst
  rw [if_pos rfl, if_neg he]
/-- a part that is none -/
theorem SoFar.nopart {r : List Nat} {k : Nat} {t : List Nat} (h : SoFar r k) (hd : r.drop k = 40 :: t) (ho : Option Nat) (hl : Longest t ho) (hb : ∀ i, ho = some i → (t.drop i).take 2 ≠ [41, 35]) : Longest r (soFar k) := by
  refine h.stop fun j hj hle => ?_
  cases hx : depL (r.take j) with
  | none => rfl
  | some x =>
    exfalso
    obtain ⟨m, e, e', g1, g2, g3, g4⟩ := h.longer hd hj hx
    rw [run_cons (dst_open g1)] at g4
    obtain ⟨a, b, m', e2, m'', q1, q2, q3, q4, q5, _⟩ := part_end 0 g4
    -- a is a sequence, behind it stands the sign that shuts, and again
    have ha : depL a = some m' := depL_of q2 q3 q4
    cases b with
    | nil => cases q5; exact g2 rfl
    | cons c b =>
      have hc : c = 35 := by
        obtain ⟨s, s1, s2⟩ := run_step q5
        exact (dst_again s1).1
      subst hc
      -- t begins with it
      have ht : t = a ++ 41 :: 35 :: (b ++ t.drop (j - k - 1)) := by
        have h0 := List.take_append_drop (j - k - 1) t
        rw [q1] at h0
        rw [← List.cons_append, ← List.cons_append, ← List.append_assoc]
        exact h0.symm
      have hta : t.take a.length = a := by rw [ht]; simp
      cases ho with
      | none =>
        have := hl a.length
        rw [hta, ha] at this
        cases this
      | some i =>
        obtain ⟨l0, l1, l2, l3⟩ := hl
        have hai : a.length ≤ i := Nat.le_of_not_lt fun z => by
          have := l3 a.length z (by rw [ht]; simp)
          rw [hta, ha] at this
          cases this
        by_cases hE : a.length = i
        · refine hb i rfl ?_
          rw [← hE, ht]
          simp
        · cases hz : depL (t.take i) with
          | none => exact l2 hz
          | some y =>
            obtain ⟨e3, _, _, z3⟩ := depL_some hz
            rw [take_split (k := a.length) (by omega), hta, run_append q2] at z3
            have hdr : t.drop a.length = 41 :: 35 :: (b ++ t.drop (j - k - 1)) := by
              conv => lhs; rw [ht]
              simp
            rw [hdr] at z3
            obtain ⟨n, hn⟩ : ∃ n, i - a.length = n + 1 := ⟨i - a.length - 1, by omega⟩
            rw [hn, List.take_succ_cons, run_none (by
              unfold dst
              dsimp only
              rw [if_neg (by decide), if_pos rfl, if_pos (.inr (.inr rfl))])] at z3
            cases z3
/-- a part -/
theorem SoFar.part {r : List Nat} {k i : Nat} {t : List Nat} (h : SoFar r k) (hd : r.drop k = 40 :: t) (hl : Longest t (some i)) (hb : (t.drop i).take 2 = [41, 35]) : SoFar r (k + (i + 3)) := by
  obtain ⟨l0, l1, l2, l3⟩ := hl
  cases hz : depL (t.take i) with
  | none => exact (l2 hz).elim
  | some y =>
    obtain ⟨e3, z1, z2, z3⟩ := depL_some hz
    refine h.ext (l := 40 :: (t.take i ++ [41, 35])) (m' := 0) (e' := 35) ?_ ?_ (by omega) (fun m e he => ?_) (by decide) (by decide)
    · rw [hd, List.take_succ_cons, take_split (k := i) (j := i + 2) (by omega), Nat.add_sub_cancel_left, hb]
    · simp
      omega
    · obtain ⟨m1, h4⟩ := run_up (max m 1) z3
      refine ⟨m1, ?_⟩
      rw [run_cons (dst_open he), run_append h4, run_cons (s' := ⟨0, m1, 41⟩), run_cons (s' := ⟨0, m1, 35⟩)]
      · rfl
      · rfl
      · unfold dst
        dsimp only
        rw [if_neg (by decide), if_pos rfl, if_neg (by omega)]
/-- the whole text -/
theorem Longest.all {l : List Nat} {o : Option Nat} (h : Longest l o) : (depL l ≠ none) ↔ o = some l.length := by
  constructor
  · intro hd
    cases o with
    | none =>
      have := h l.length
      rw [List.take_length] at this
      exact (hd this).elim
    | some k =>
      obtain ⟨h0, h1, h2, h3⟩ := h
      by_cases hk : k = l.length
      · rw [hk]
      · have := h3 l.length (by omega) (Nat.le_refl _)
        rw [List.take_length] at this
        exact (hd this).elim
  · intro e
    subst e
    obtain ⟨h0, h1, h2, h3⟩ := h
    rw [List.take_length] at h2
    exact h2
/-! ### a text that the scan takes is a sequence -/
theorem sq_run : ∀ (n : Nat) (l : List Nat), l.length ≤ n → ∀ m z m' e, run dst ⟨0, m, z⟩ l = some ⟨0, m', e⟩ → z ≠ 41 → e ≠ 41 → l = [] ∨ Sq m' l
  | _, [], _, _, _, _, _, _, _, _ => .inl rfl
  | 0, c :: t, hl, _, _, _, _, _, _, _ => absurd hl (by simp)
  | n + 1, c :: t, hl, m, z, m', e, h, hz, he => by
    have hl' : t.length ≤ n := by simpa using hl
    obtain ⟨s, s1, s2⟩ := run_step h
    right
    by_cases h40 : c = 40
    · subst h40
      rw [dst_open hz] at s1
      cases s1
      obtain ⟨a, b, p, e', m'', q1, q2, q3, q4, q5, q6⟩ := part_end 0 s2
      have q6 := q6 (by omega)
      cases b with
      | nil => cases q5; exact (he rfl).elim
      | cons c b =>
        obtain ⟨s, u1, u2⟩ := run_step q5
        obtain ⟨rfl, rfl⟩ := dst_again u1
        have la : a.length + (b.length + 2) ≤ n := by
          rw [q1] at hl'
          simpa using hl'
        have ha : Sq p a := by
          rcases sq_run n a (by omega) 0 40 p e' q2 (by decide) q4 with h | h
          · subst h; cases q2; exact (q3 rfl).elim
          · exact h
        have hr : Sq m' (40 :: (a ++ [41, 35])) := (Sq.rep ha).mono q6
        rcases sq_run n b (by omega) m'' 35 m' e u2 (by decide) he with h | h
        · subst h
          rw [q1]
          exact hr
        · have := Sq.cat hr h
          rw [q1]
          simpa using this
    · unfold dst at s1
      dsimp only at s1
      rw [if_neg h40] at s1
      by_cases h41 : c = 41
      · rw [if_pos h41, if_pos (.inr (.inr rfl))] at s1; cases s1
      · rw [if_neg h41] at s1
        by_cases h35 : c = 35
        · rw [if_pos h35, if_neg hz] at s1; cases s1
        · rw [if_neg h35] at s1
          by_cases hlt : 97 ≤ c ∧ c ≤ 122
          · rw [if_pos hlt, if_neg hz] at s1
            cases s1
            rcases sq_run n t hl' m c m' e s2 h41 he with h | h
            · subst h; exact .one hlt
            · exact Sq.cat (.one hlt) h
          · rw [if_neg hlt] at s1; cases s1
theorem depL_sq {l : List Nat} {x : Nat} (h : depL l = some x) : Sq x l := by
  obtain ⟨e, h1, h2, hr⟩ := depL_some h
  rcases sq_run l.length l (Nat.le_refl _) 0 40 x e hr (by decide) h2 with h | h
  · subst h; cases hr; exact (h1 rfl).elim
  · exact h
/-! ### how deep -/
theorem dst_most {s s' : Ds} {c : Nat} (h : dst s c = some s') : s'.most ≤ s.most + (if c = 40 then 1 else 0) ∧ s'.dep ≤ s.dep + (if c = 40 then 1 else 0) ∨ (s'.most ≤ max s.most (s.dep + 1) ∧ s'.dep ≤ s.dep + 1 ∧ c = 40) := by
  unfold dst at h
  by_cases h40 : c = 40
  · rw [if_pos h40] at h
    by_cases hz : s.last = 41
    · rw [if_pos hz] at h; cases h
    · rw [if_neg hz] at h
      cases h
      exact .inr ⟨Nat.le_refl _, Nat.le_refl _, h40⟩
  · left
    rw [if_neg h40] at h ⊢
    split at h
    · split at h
      · cases h
      · cases h
        exact ⟨Nat.le_refl _, Nat.sub_le _ _⟩
    · split at h
      · split at h
        · cases h; exact ⟨Nat.le_refl _, Nat.le_refl _⟩
        · cases h
      · split at h
        · split at h
          · cases h
          · cases h; exact ⟨Nat.le_refl _, Nat.le_refl _⟩
        · cases h
theorem run_most {l : List Nat} : ∀ {s s' : Ds} {b : Nat}, run dst s l = some s' → s.most ≤ b → s.dep ≤ b → s'.most ≤ b + l.count 40 ∧ s'.dep ≤ b + l.count 40 := by
  induction l with
  | nil =>
    intro s s' b h h1 h2
    cases h
    exact ⟨h1, h2⟩
  | cons c l ih =>
    intro s s' b h h1 h2
    obtain ⟨t, e1, e2⟩ := run_step h
    by_cases h40 : c = 40
    · subst h40
      rw [List.count_cons_self]
      have := ih (b := b + 1) e2 (by rcases dst_most e1 with h | h <;> simp at h <;> omega) (by rcases dst_most e1 with h | h <;> simp at h <;> omega)
      omega
    · rw [List.count_cons_of_ne (by simpa using fun e => h40 e)]
      refine ih e2 ?_ ?_
      · rcases dst_most e1 with h | h
        · rw [if_neg h40] at h; omega
        · omega
      · rcases dst_most e1 with h | h
        · rw [if_neg h40] at h; omega
        · omega
theorem depL_le {l : List Nat} {x : Nat} (h : depL l = some x) : x ≤ l.count 40 := by
  obtain ⟨e, _, _, hr⟩ := depL_some h
  have h1 : x ≤ 0 + l.count 40 := (run_most (b := 0) hr (Nat.le_refl _) (Nat.le_refl _)).1
  omega
end PT

set_option Elab.async false
set_option linter.all false
set_option maxRecDepth 100000
set_option maxHeartbeats 4000000
set_option exponentiation.threshold 5000
namespace K31
open PySem PySem.Spec L2 LP
open PyProof.Rows hiding St
def top (i : Nat) : Stmt := PySem.Challenge.pw_lastprices_k31_texts_that_are_no_pattern.main.body.getD i (.Pass ⟨0, 0, 0, 0⟩)
abbrev s_is_integer : Stmt := top 5
abbrev N_is_integer : List Str := ["value"]
abbrev P_is_integer : List Str := ["value"]
theorem sc_is_integer : FnScope N_is_integer P_is_integer (defScope s_is_integer) :=
  ⟨rfl, rfl, rfl, by decide +kernel, rfl, by decide +kernel, by decide +kernel⟩
abbrev s_is_count : Stmt := top 6
abbrev N_is_count : List Str := ["value"]
abbrev P_is_count : List Str := ["value"]
theorem sc_is_count : FnScope N_is_count P_is_count (defScope s_is_count) :=
  ⟨rfl, rfl, rfl, by decide +kernel, rfl, by decide +kernel, by decide +kernel⟩
abbrev s_is_spelt : Stmt := top 7
abbrev N_is_spelt : List Str := ["value", "letter"]
abbrev P_is_spelt : List Str := ["value"]
theorem sc_is_spelt : FnScope N_is_spelt P_is_spelt (defScope s_is_spelt) :=
  ⟨rfl, rfl, rfl, by decide +kernel, rfl, by decide +kernel, by decide +kernel⟩
abbrev s_is_letter : Stmt := top 8
abbrev N_is_letter : List Str := ["value"]
abbrev P_is_letter : List Str := ["value"]
theorem sc_is_letter : FnScope N_is_letter P_is_letter (defScope s_is_letter) :=
  ⟨rfl, rfl, rfl, by decide +kernel, rfl, by decide +kernel, by decide +kernel⟩
abbrev s_depth_of : Stmt := top 20
abbrev N_depth_of : List Str := ["text", "depth", "most", "last", "sign"]
abbrev P_depth_of : List Str := ["text"]
theorem sc_depth_of : FnScope N_depth_of P_depth_of (defScope s_depth_of) :=
  ⟨rfl, rfl, rfl, by decide +kernel, rfl, by decide +kernel, by decide +kernel⟩
abbrev s_is_pattern : Stmt := top 21
abbrev N_is_pattern : List Str := ["value", "depth"]
abbrev P_is_pattern : List Str := ["value"]
theorem sc_is_pattern : FnScope N_is_pattern P_is_pattern (defScope s_is_pattern) :=
  ⟨rfl, rfl, rfl, by decide +kernel, rfl, by decide +kernel, by decide +kernel⟩
abbrev s_parts_of : Stmt := top 22
abbrev N_parts_of : List Str := ["text", "found", "begins", "at", "sign"]
abbrev P_parts_of : List Str := ["text"]
theorem sc_parts_of : FnScope N_parts_of P_parts_of (defScope s_parts_of) :=
  ⟨rfl, rfl, rfl, by decide +kernel, rfl, by decide +kernel, by decide +kernel⟩
abbrev s_weight_of : Stmt := top 28
abbrev N_weight_of : List Str := ["text", "found", "each", "sign"]
abbrev P_weight_of : List Str := ["text"]
theorem sc_weight_of : FnScope N_weight_of P_weight_of (defScope s_weight_of) :=
  ⟨rfl, rfl, rfl, by decide +kernel, rfl, by decide +kernel, by decide +kernel⟩
abbrev s_require_number : Stmt := top 26
abbrev N_require_number : List Str := ["value"]
abbrev P_require_number : List Str := ["value"]
theorem sc_require_number : FnScope N_require_number P_require_number (defScope s_require_number) :=
  ⟨rfl, rfl, rfl, by decide +kernel, rfl, by decide +kernel, by decide +kernel⟩
abbrev s_dice : Stmt := top 30
abbrev N_dice : List Str := ["_law_script", "_law_spot", "_law_cell", "_law_great", "_law_left"]
abbrev P_dice : List Str := ["_law_script", "_law_spot"]
theorem sc_dice : FnScope N_dice P_dice (defScope s_dice) :=
  ⟨rfl, rfl, rfl, by decide +kernel, rfl, by decide +kernel, by decide +kernel⟩
abbrev s_roll : Stmt := top 31
abbrev N_roll : List Str := ["_law_dice_here", "_law_total", "_law_found", "_law_one", "_law_two"]
abbrev P_roll : List Str := ["_law_dice_here", "_law_total"]
theorem sc_roll : FnScope N_roll P_roll (defScope s_roll) :=
  ⟨rfl, rfl, rfl, by decide +kernel, rfl, by decide +kernel, by decide +kernel⟩
abbrev s_pick : Stmt := top 32
abbrev N_pick : List Str := ["_law_dice_here", "_law_items"]
abbrev P_pick : List Str := ["_law_dice_here", "_law_items"]
theorem sc_pick : FnScope N_pick P_pick (defScope s_pick) :=
  ⟨rfl, rfl, rfl, by decide +kernel, rfl, by decide +kernel, by decide +kernel⟩
abbrev s_drawn_pattern : Stmt := top 33
abbrev N_drawn_pattern : List Str := ["_law_dice_here", "_law_letters", "_law_many", "_law_depth", "_law_found", "_law_turn"]
abbrev P_drawn_pattern : List Str := ["_law_dice_here", "_law_letters", "_law_many", "_law_depth"]
theorem sc_drawn_pattern : FnScope N_drawn_pattern P_drawn_pattern (defScope s_drawn_pattern) :=
  ⟨rfl, rfl, rfl, by decide +kernel, rfl, by decide +kernel, by decide +kernel⟩
abbrev s_sequence_end : Stmt := top 34
abbrev N_sequence_end : List Str := ["_law_text", "_law_at", "_law_end", "_law_inner"]
abbrev P_sequence_end : List Str := ["_law_text", "_law_at"]
theorem sc_sequence_end : FnScope N_sequence_end P_sequence_end (defScope s_sequence_end) :=
  ⟨rfl, rfl, rfl, by decide +kernel, rfl, by decide +kernel, by decide +kernel⟩
abbrev s_is_word : Stmt := top 35
abbrev N_is_word : List Str := ["_law_call"]
abbrev P_is_word : List Str := ["_law_call"]
theorem sc_is_word : FnScope N_is_word P_is_word (defScope s_is_word) :=
  ⟨rfl, rfl, rfl, by decide +kernel, rfl, by decide +kernel, by decide +kernel⟩
abbrev s_bent : Stmt := top 36
abbrev N_bent : List Str := ["_law_dice_here", "_law_text", "_law_at", "_law_sign", "_law_way"]
abbrev P_bent : List Str := ["_law_dice_here", "_law_text"]
theorem sc_bent : FnScope N_bent P_bent (defScope s_bent) :=
  ⟨rfl, rfl, rfl, by decide +kernel, rfl, by decide +kernel, by decide +kernel⟩
abbrev s_right : Stmt := top 37
abbrev N_right : List Str := ["_law_dice_here", "_law_text", "_law_turn", "_law_bent_here", "_law_due", "_law_odd"]
abbrev P_right : List Str := ["_law_dice_here"]
theorem sc_right : FnScope N_right P_right (defScope s_right) :=
  ⟨rfl, rfl, rfl, by decide +kernel, rfl, by decide +kernel, by decide +kernel⟩
abbrev s_law : Stmt := top 38
abbrev N_law : List Str := ["_law_script", "_law_spot", "_law_dice_here", "_law_turn", "_law_deep", "_law_bad", "_law_text", "_law_long", "_law_least", "_law_told"]
abbrev P_law : List Str := ["_law_script"]
theorem sc_law : FnScope N_law P_law (defScope s_law) :=
  ⟨rfl, rfl, rfl, by decide +kernel, rfl, by decide +kernel, by decide +kernel⟩
abbrev s_Pattern___init__ : Stmt := mth (top 27) 1
abbrev N_Pattern___init__ : List Str := ["self", "text"]
abbrev P_Pattern___init__ : List Str := ["self", "text"]
theorem sc_Pattern___init__ : FnScope N_Pattern___init__ P_Pattern___init__ (defScope s_Pattern___init__) :=
  ⟨rfl, rfl, rfl, by decide +kernel, rfl, by decide +kernel, by decide +kernel⟩
abbrev s_Pattern_length : Stmt := mth (top 27) 7
abbrev N_Pattern_length : List Str := ["self", "n"]
abbrev P_Pattern_length : List Str := ["self", "n"]
theorem sc_Pattern_length : FnScope N_Pattern_length P_Pattern_length (defScope s_Pattern_length) :=
  ⟨rfl, rfl, rfl, by decide +kernel, rfl, by decide +kernel, by decide +kernel⟩
abbrev s_Pattern_repeated : Stmt := mth (top 27) 11
abbrev N_Pattern_repeated : List Str := ["self"]
abbrev P_Pattern_repeated : List Str := ["self"]
theorem sc_Pattern_repeated : FnScope N_Pattern_repeated P_Pattern_repeated (defScope s_Pattern_repeated) :=
  ⟨rfl, rfl, rfl, by decide +kernel, rfl, by decide +kernel, by decide +kernel⟩
abbrev s_Pattern___call__ : Stmt := mth (top 27) 12
abbrev N_Pattern___call__ : List Str := ["self", "n"]
abbrev P_Pattern___call__ : List Str := ["self", "n"]
theorem sc_Pattern___call__ : FnScope N_Pattern___call__ P_Pattern___call__ (defScope s_Pattern___call__) :=
  ⟨rfl, rfl, rfl, by decide +kernel, rfl, by decide +kernel, by decide +kernel⟩
abbrev s_Pattern___add__ : Stmt := mth (top 27) 13
abbrev N_Pattern___add__ : List Str := ["self", "other"]
abbrev P_Pattern___add__ : List Str := ["self", "other"]
theorem sc_Pattern___add__ : FnScope N_Pattern___add__ P_Pattern___add__ (defScope s_Pattern___add__) :=
  ⟨rfl, rfl, rfl, by decide +kernel, rfl, by decide +kernel, by decide +kernel⟩
abbrev s_Pattern_depth : Stmt := mth (top 27) 4
abbrev N_Pattern_depth : List Str := ["self"]
abbrev P_Pattern_depth : List Str := ["self"]
theorem sc_Pattern_depth : FnScope N_Pattern_depth P_Pattern_depth (defScope s_Pattern_depth) :=
  ⟨rfl, rfl, rfl, by decide +kernel, rfl, by decide +kernel, by decide +kernel⟩
abbrev s_TextAt___init__ : Stmt := mth (top 24) 0
abbrev N_TextAt___init__ : List Str := ["self", "number"]
abbrev P_TextAt___init__ : List Str := ["self", "number"]
theorem sc_TextAt___init__ : FnScope N_TextAt___init__ P_TextAt___init__ (defScope s_TextAt___init__) :=
  ⟨rfl, rfl, rfl, by decide +kernel, rfl, by decide +kernel, by decide +kernel⟩
abbrev s_TextAt_again : Stmt := mth (top 24) 1
abbrev N_TextAt_again : List Str := ["self", "worth", "part"]
abbrev P_TextAt_again : List Str := ["self", "worth", "part"]
theorem sc_TextAt_again : FnScope N_TextAt_again P_TextAt_again (defScope s_TextAt_again) :=
  ⟨rfl, rfl, rfl, by decide +kernel, rfl, by decide +kernel, by decide +kernel⟩
abbrev s_TextAt_letter : Stmt := mth (top 23) 0
abbrev N_TextAt_letter : List Str := ["self", "letter"]
abbrev P_TextAt_letter : List Str := ["self", "letter"]
theorem sc_TextAt_letter : FnScope N_TextAt_letter P_TextAt_letter (defScope s_TextAt_letter) :=
  ⟨rfl, rfl, rfl, by decide +kernel, rfl, by decide +kernel, by decide +kernel⟩
abbrev s_TextAt_joined : Stmt := mth (top 23) 1
abbrev N_TextAt_joined : List Str := ["self", "one", "other"]
abbrev P_TextAt_joined : List Str := ["self", "one", "other"]
theorem sc_TextAt_joined : FnScope N_TextAt_joined P_TextAt_joined (defScope s_TextAt_joined) :=
  ⟨rfl, rfl, rfl, by decide +kernel, rfl, by decide +kernel, by decide +kernel⟩
abbrev s_TextAt_fold : Stmt := mth (top 23) 3
abbrev N_TextAt_fold : List Str := ["self", "text", "worth", "waiting", "part", "sign"]
abbrev P_TextAt_fold : List Str := ["self", "text"]
theorem sc_TextAt_fold : FnScope N_TextAt_fold P_TextAt_fold (defScope s_TextAt_fold) :=
  ⟨rfl, rfl, rfl, by decide +kernel, rfl, by decide +kernel, by decide +kernel⟩
abbrev s_TextAt_behind : Stmt := mth (top 23) 4
abbrev N_TextAt_behind : List Str := ["self", "worth", "other"]
abbrev P_TextAt_behind : List Str := ["self", "worth", "other"]
theorem sc_TextAt_behind : FnScope N_TextAt_behind P_TextAt_behind (defScope s_TextAt_behind) :=
  ⟨rfl, rfl, rfl, by decide +kernel, rfl, by decide +kernel, by decide +kernel⟩
abbrev s_LengthAt___init__ : Stmt := mth (top 24) 0
abbrev N_LengthAt___init__ : List Str := ["self", "number"]
abbrev P_LengthAt___init__ : List Str := ["self", "number"]
theorem sc_LengthAt___init__ : FnScope N_LengthAt___init__ P_LengthAt___init__ (defScope s_LengthAt___init__) :=
  ⟨rfl, rfl, rfl, by decide +kernel, rfl, by decide +kernel, by decide +kernel⟩
abbrev s_LengthAt_again : Stmt := mth (top 24) 1
abbrev N_LengthAt_again : List Str := ["self", "worth", "part"]
abbrev P_LengthAt_again : List Str := ["self", "worth", "part"]
theorem sc_LengthAt_again : FnScope N_LengthAt_again P_LengthAt_again (defScope s_LengthAt_again) :=
  ⟨rfl, rfl, rfl, by decide +kernel, rfl, by decide +kernel, by decide +kernel⟩
abbrev s_LengthAt_letter : Stmt := mth (top 25) 0
abbrev N_LengthAt_letter : List Str := ["self", "letter"]
abbrev P_LengthAt_letter : List Str := ["self", "letter"]
theorem sc_LengthAt_letter : FnScope N_LengthAt_letter P_LengthAt_letter (defScope s_LengthAt_letter) :=
  ⟨rfl, rfl, rfl, by decide +kernel, rfl, by decide +kernel, by decide +kernel⟩
abbrev s_LengthAt_joined : Stmt := mth (top 23) 1
abbrev N_LengthAt_joined : List Str := ["self", "one", "other"]
abbrev P_LengthAt_joined : List Str := ["self", "one", "other"]
theorem sc_LengthAt_joined : FnScope N_LengthAt_joined P_LengthAt_joined (defScope s_LengthAt_joined) :=
  ⟨rfl, rfl, rfl, by decide +kernel, rfl, by decide +kernel, by decide +kernel⟩
abbrev s_LengthAt_fold : Stmt := mth (top 23) 3
abbrev N_LengthAt_fold : List Str := ["self", "text", "worth", "waiting", "part", "sign"]
abbrev P_LengthAt_fold : List Str := ["self", "text"]
theorem sc_LengthAt_fold : FnScope N_LengthAt_fold P_LengthAt_fold (defScope s_LengthAt_fold) :=
  ⟨rfl, rfl, rfl, by decide +kernel, rfl, by decide +kernel, by decide +kernel⟩
abbrev s_LengthAt_behind : Stmt := mth (top 23) 4
abbrev N_LengthAt_behind : List Str := ["self", "worth", "other"]
abbrev P_LengthAt_behind : List Str := ["self", "worth", "other"]
theorem sc_LengthAt_behind : FnScope N_LengthAt_behind P_LengthAt_behind (defScope s_LengthAt_behind) :=
  ⟨rfl, rfl, rfl, by decide +kernel, rfl, by decide +kernel, by decide +kernel⟩
structure Bt (mg : Str → Option Value) : Prop where
  abs : mg "abs" = none
  all : mg "all" = none
  bool : mg "bool" = none
  enumerate : mg "enumerate" = none
  int : mg "int" = none
  isinstance : mg "isinstance" = none
  len : mg "len" = none
  max : mg "max" = none
  min : mg "min" = none
  range : mg "range" = none
  repr : mg "repr" = none
  str : mg "str" = none
  tuple : mg "tuple" = none
structure Cs (mg : Str → Option Value) : Prop where
  LIMIT : ∃ t_LIMIT, mg "LIMIT" = some (.int (10 ^ 60) t_LIMIT)
  ALPHABET : ∃ t_ALPHABET, mg "ALPHABET" = some (.str "abcdefghijklmnopqrstuvwxyz" t_ALPHABET)
  MAX_TEXT : ∃ t_MAX_TEXT, mg "MAX_TEXT" = some (.int 100000 t_MAX_TEXT)
  MAX_SIGNS : ∃ t_MAX_SIGNS, mg "MAX_SIGNS" = some (.int 20000 t_MAX_SIGNS)
  MAX_DEPTH : ∃ t_MAX_DEPTH, mg "MAX_DEPTH" = some (.int 24 t_MAX_DEPTH)
  OPEN : ∃ t_OPEN, mg "OPEN" = some (.str "(" t_OPEN)
  SHUT : ∃ t_SHUT, mg "SHUT" = some (.str ")" t_SHUT)
  AGAIN : ∃ t_AGAIN, mg "AGAIN" = some (.str "#" t_AGAIN)
structure Ad where
  (a_is_integer : Addr)
  (d_is_integer : FuncData)
  (a_is_count : Addr)
  (d_is_count : FuncData)
  (a_is_spelt : Addr)
  (d_is_spelt : FuncData)
  (a_is_letter : Addr)
  (d_is_letter : FuncData)
  (a_depth_of : Addr)
  (d_depth_of : FuncData)
  (a_is_pattern : Addr)
  (d_is_pattern : FuncData)
  (a_parts_of : Addr)
  (d_parts_of : FuncData)
  (a_weight_of : Addr)
  (d_weight_of : FuncData)
  (a_require_number : Addr)
  (d_require_number : FuncData)
  (a_dice : Addr)
  (d_dice : FuncData)
  (a_roll : Addr)
  (d_roll : FuncData)
  (a_pick : Addr)
  (d_pick : FuncData)
  (a_drawn_pattern : Addr)
  (d_drawn_pattern : FuncData)
  (a_sequence_end : Addr)
  (d_sequence_end : FuncData)
  (a_is_word : Addr)
  (d_is_word : FuncData)
  (a_bent : Addr)
  (d_bent : FuncData)
  (a_right : Addr)
  (d_right : FuncData)
  (a_law : Addr)
  (d_law : FuncData)
  (a_Pattern___init__ : Addr)
  (d_Pattern___init__ : FuncData)
  (a_Pattern_length : Addr)
  (d_Pattern_length : FuncData)
  (a_Pattern_repeated : Addr)
  (d_Pattern_repeated : FuncData)
  (a_Pattern___call__ : Addr)
  (d_Pattern___call__ : FuncData)
  (a_Pattern___add__ : Addr)
  (d_Pattern___add__ : FuncData)
  (a_Pattern_depth : Addr)
  (d_Pattern_depth : FuncData)
  (a_TextAt___init__ : Addr)
  (d_TextAt___init__ : FuncData)
  (a_TextAt_again : Addr)
  (d_TextAt_again : FuncData)
  (a_TextAt_letter : Addr)
  (d_TextAt_letter : FuncData)
  (a_TextAt_joined : Addr)
  (d_TextAt_joined : FuncData)
  (a_TextAt_fold : Addr)
  (d_TextAt_fold : FuncData)
  (a_TextAt_behind : Addr)
  (d_TextAt_behind : FuncData)
  (a_LengthAt___init__ : Addr)
  (d_LengthAt___init__ : FuncData)
  (a_LengthAt_again : Addr)
  (d_LengthAt_again : FuncData)
  (a_LengthAt_letter : Addr)
  (d_LengthAt_letter : FuncData)
  (a_LengthAt_joined : Addr)
  (d_LengthAt_joined : FuncData)
  (a_LengthAt_fold : Addr)
  (d_LengthAt_fold : FuncData)
  (a_LengthAt_behind : Addr)
  (d_LengthAt_behind : FuncData)
  (c_Pattern : Addr)
  (c_TextAt : Addr)
  (c_LengthAt : Addr)
  (p_Pattern_depth : Addr)
  (q_Pattern_own_depth : Addr)
  (q_Pattern_own_parts : Addr)
  (q_Pattern_own_text : Addr)
  (q_Pattern_own_weight : Addr)
  (c_InvalidPattern : Addr)
  (k_right : Addr)
  (t_right : Addr)
  (k_law : Addr)
  (t_law : Addr)
structure Ds (K : PySem.W.Frag) (mg : Str → Option Value) (Z : Ad) : Prop where
  is_integer : Df K mg "is_integer" s_is_integer P_is_integer Z.a_is_integer Z.d_is_integer
  is_count : Df K mg "is_count" s_is_count P_is_count Z.a_is_count Z.d_is_count
  is_spelt : Df K mg "is_spelt" s_is_spelt P_is_spelt Z.a_is_spelt Z.d_is_spelt
  is_letter : Df K mg "is_letter" s_is_letter P_is_letter Z.a_is_letter Z.d_is_letter
  depth_of : Df K mg "depth_of" s_depth_of P_depth_of Z.a_depth_of Z.d_depth_of
  is_pattern : Df K mg "is_pattern" s_is_pattern P_is_pattern Z.a_is_pattern Z.d_is_pattern
  parts_of : Df K mg "parts_of" s_parts_of P_parts_of Z.a_parts_of Z.d_parts_of
  weight_of : Df K mg "weight_of" s_weight_of P_weight_of Z.a_weight_of Z.d_weight_of
  require_number : Df K mg "require_number" s_require_number P_require_number Z.a_require_number Z.d_require_number
  dice : Df K mg "_law_dice" s_dice P_dice Z.a_dice Z.d_dice
  roll : Df K mg "_law_roll" s_roll P_roll Z.a_roll Z.d_roll
  pick : Df K mg "_law_pick" s_pick P_pick Z.a_pick Z.d_pick
  drawn_pattern : Df K mg "_law_drawn_pattern" s_drawn_pattern P_drawn_pattern Z.a_drawn_pattern Z.d_drawn_pattern
  sequence_end : Df K mg "_law_sequence_end" s_sequence_end P_sequence_end Z.a_sequence_end Z.d_sequence_end
  is_word : Df K mg "_law_is_word" s_is_word P_is_word Z.a_is_word Z.d_is_word
  bent : Df K mg "_law_bent" s_bent P_bent Z.a_bent Z.d_bent
  right : Df K mg "_law_right" s_right P_right Z.a_right Z.d_right
  law : Df K mg "law" s_law P_law Z.a_law Z.d_law
  Pattern___init__ : Mt K Z.c_Pattern "__init__" "Pattern.__init__" s_Pattern___init__ P_Pattern___init__ Z.a_Pattern___init__ Z.d_Pattern___init__
  Pattern_length : Mt K Z.c_Pattern "length" "Pattern.length" s_Pattern_length P_Pattern_length Z.a_Pattern_length Z.d_Pattern_length
  Pattern_repeated : Mt K Z.c_Pattern "repeated" "Pattern.repeated" s_Pattern_repeated P_Pattern_repeated Z.a_Pattern_repeated Z.d_Pattern_repeated
  Pattern___call__ : Mt K Z.c_Pattern "__call__" "Pattern.__call__" s_Pattern___call__ P_Pattern___call__ Z.a_Pattern___call__ Z.d_Pattern___call__
  Pattern___add__ : Mt K Z.c_Pattern "__add__" "Pattern.__add__" s_Pattern___add__ P_Pattern___add__ Z.a_Pattern___add__ Z.d_Pattern___add__
  Pattern_depth : Pt K Z.c_Pattern "depth" "Pattern.depth" s_Pattern_depth P_Pattern_depth Z.p_Pattern_depth Z.a_Pattern_depth Z.d_Pattern_depth
  Pattern : Ob K mg "Pattern" Z.c_Pattern
  Pattern_kn : kitN K Z.c_Pattern = true
  Pattern_fi : PySem.W.fnIn K Z.a_Pattern___call__ = true
  Pattern_own_depth : SlX.Slot1 K Z.c_Pattern "own_depth" Z.q_Pattern_own_depth 0
  Pattern_own_parts : SlX.Slot1 K Z.c_Pattern "own_parts" Z.q_Pattern_own_parts 1
  Pattern_own_text : SlX.Slot1 K Z.c_Pattern "own_text" Z.q_Pattern_own_text 2
  Pattern_own_weight : SlX.Slot1 K Z.c_Pattern "own_weight" Z.q_Pattern_own_weight 3
  TextAt___init__ : Mt K Z.c_TextAt "__init__" "TextAt.__init__" s_TextAt___init__ P_TextAt___init__ Z.a_TextAt___init__ Z.d_TextAt___init__
  TextAt_again : Mt K Z.c_TextAt "again" "TextAt.again" s_TextAt_again P_TextAt_again Z.a_TextAt_again Z.d_TextAt_again
  TextAt_letter : Mt K Z.c_TextAt "letter" "Folding.letter" s_TextAt_letter P_TextAt_letter Z.a_TextAt_letter Z.d_TextAt_letter
  TextAt_joined : Mt K Z.c_TextAt "joined" "Folding.joined" s_TextAt_joined P_TextAt_joined Z.a_TextAt_joined Z.d_TextAt_joined
  TextAt_fold : Mt K Z.c_TextAt "fold" "Folding.fold" s_TextAt_fold P_TextAt_fold Z.a_TextAt_fold Z.d_TextAt_fold
  TextAt_behind : Mt K Z.c_TextAt "behind" "Folding.behind" s_TextAt_behind P_TextAt_behind Z.a_TextAt_behind Z.d_TextAt_behind
  TextAt : Oq K mg "TextAt" Z.c_TextAt
  TextAt_own_number : NoAttr K Z.c_TextAt "own_number"
  LengthAt___init__ : Mt K Z.c_LengthAt "__init__" "TextAt.__init__" s_LengthAt___init__ P_LengthAt___init__ Z.a_LengthAt___init__ Z.d_LengthAt___init__
  LengthAt_again : Mt K Z.c_LengthAt "again" "TextAt.again" s_LengthAt_again P_LengthAt_again Z.a_LengthAt_again Z.d_LengthAt_again
  LengthAt_letter : Mt K Z.c_LengthAt "letter" "LengthAt.letter" s_LengthAt_letter P_LengthAt_letter Z.a_LengthAt_letter Z.d_LengthAt_letter
  LengthAt_joined : Mt K Z.c_LengthAt "joined" "Folding.joined" s_LengthAt_joined P_LengthAt_joined Z.a_LengthAt_joined Z.d_LengthAt_joined
  LengthAt_fold : Mt K Z.c_LengthAt "fold" "Folding.fold" s_LengthAt_fold P_LengthAt_fold Z.a_LengthAt_fold Z.d_LengthAt_fold
  LengthAt_behind : Mt K Z.c_LengthAt "behind" "Folding.behind" s_LengthAt_behind P_LengthAt_behind Z.a_LengthAt_behind Z.d_LengthAt_behind
  LengthAt : Oq K mg "LengthAt" Z.c_LengthAt
  LengthAt_own_number : NoAttr K Z.c_LengthAt "own_number"
  InvalidPattern : Ok0 K mg "InvalidPattern" Z.c_InvalidPattern
structure Tx (K : PySem.W.Frag) (Z : Ad) : Prop where
  ex : PySem.W.exmOne K (.ref Z.c_InvalidPattern) (.ref Z.c_InvalidPattern) = some true
  ps : PySem.W.kitOne K (.ref Z.c_Pattern) (.type "str") = some false
def tabs (Z : Ad) : List (Addr × Str) := [(Z.t_right, "_law_right" ++ ".<locals>." ++ "<lambda>"), (Z.t_law, "law" ++ ".<locals>." ++ "<lambda>")]
structure Tt (mg : Str → Option Value) (base : Heap) (Z : Ad) : Prop where
  b_right : LamX.TabB base mg Z.k_right Z.t_right
  b_law : LamX.TabB base mg Z.k_law Z.t_law
  c_right : Z.d_right.code = .ref Z.k_right
  c_law : Z.d_law.code = .ref Z.k_law
  ne : Z.t_right ≠ Z.t_law
section
variable {mg : Str → Option Value} {base : Heap} {Z : Ad}
theorem Tt.m_right (T : Tt mg base Z) : (Z.t_right, ("_law_right" ++ ".<locals>." ++ "<lambda>" : Str)) ∈ tabs Z := .head _
theorem Tt.m_law (T : Tt mg base Z) : (Z.t_law, ("law" ++ ".<locals>." ++ "<lambda>" : Str)) ∈ tabs Z := .tail _ (.head _)
theorem Tt.u_right (T : Tt mg base Z) : ∀ p ∈ tabs Z, p.1 = Z.t_right → p.2 = ("_law_right" ++ ".<locals>." ++ "<lambda>" : Str) := fun p hp e => by
  rcases List.mem_cons.mp hp with rfl | hp
  · rfl
  · rw [List.mem_singleton.mp hp] at e
    exact (T.ne e.symm).elim
theorem Tt.u_law (T : Tt mg base Z) : ∀ p ∈ tabs Z, p.1 = Z.t_law → p.2 = ("law" ++ ".<locals>." ++ "<lambda>" : Str) := fun p hp e => by
  rcases List.mem_cons.mp hp with rfl | hp
  · exact (T.ne e).elim
  · rw [List.mem_singleton.mp hp]
end

local macro_rules | `(tactic| walk_at "rd") => `(tactic| try simp only [cx_K, cx_w, tRet, tSeq_eq, tAsg, tDrop, tIfS_eq, tNext, gName, gSub, tAndV, tOrV, tNotV, tB, tTest, tAnd, tOr, tNot, tIf, tCB, tCons, tNil, tVar, tC, tOp, tUn, tChain, rI0, rI, rU, tLst, tTup, tCall, tPar,   tFor_eq, tLc_eq, iRng1, iRng2, iList, iTup, iStr, iZip, tRevL, tDisp, tPairs, tYes, wipe, id, rNe, rEq, scal_str, rIxS, tSM, tLM, rIxM, rLenM, rCat, rInt, rIntB, rSetL, rAppend, rExtend, rAllM, rRepS, rRng2, rInRng, atI0, atI1, atI2, ixN30, ixN32, upd_same, upd_upd,   L2.start, List.map_cons, List.map_nil, List.length_cons, List.length_nil, List.reduceReplicate, List.replicate_succ, List.replicate_zero, Nat.reduceAdd, Nat.reduceSub, List.nil_append, List.cons_append, List.append_nil,   List.getElem?_cons_zero, List.getElem?_cons_succ, List.set_cons_zero, List.set_cons_succ, Int.zero_add,   Option.some.injEq, HO.lst.injEq, HO.tup.injEq, HO.rng.injEq, V.int.injEq, V.bl.injEq, V.str.injEq, V.ref.injEq, reduceCtorEq, exists_eq_left, exists_eq_left', exists_eq_right, exists_eq', exists_eq, exists_and_left, true_and, and_true, false_and, and_assoc, exists_false, List.cons.injEq, ↓reduceIte, if_true, if_false, Bool.false_eq_true, rLenS, rLenTM, rIxTM, rTupM, HO.tup.injEq, Bool.not_true, Bool.not_false, rJoin, LZ.iZipN, LZ.iEnumN, gTup, gLst, gCons, gNil, tSlot, SlX.tPropSl, SlX.tMethSl, StX.tMakeR, rStrOwn, tFldC, tMeth, tLM0, rPop, rPopAt, rInT, rInL, tFmt, tJs, LP.tCallS, HO.ins.injEq, tPar3, tAug, ipI, L2.tSl, tPart, tNoPart, rSlS, LP.rIsE, PT.open_sg, PT.shut_sg, PT.again_sg, PT.scal_bl, PT.scal_int, PT.cast0, PT.in3, PT.in2, PT.flat3, PT.flat2, PT.flat_str, PT.sg_inj, Nat.reduceEqDiff, Int.reduceEq, true_or, or_true, false_or, or_false, or_self, decide_true, decide_false, decide_not, Bool.decide_eq_true, Bool.decide_eq_false, not_true_eq_false, not_false_eq_true, LP.rReprB, rIsB, LamX.tLam, LP.TTw, tDNewK, *])
local macro_rules | `(tactic| walk_at "go") => `(tactic| (refine later ?_; walk_at "rd"))
local macro_rules | `(tactic| walk_at "gg") => `(tactic| repeat (refine later ?_; walk_at "rd"))
local macro_rules | `(tactic| walk_at "cj") => `(tactic| repeat (refine And.intro (by first | assumption | exact cpow60 | exact cpow59 | exact cpow17 | exact mul60 | decide | exact .inl ⟨by decide, by decide⟩ | exact .inr ⟨by decide, by decide⟩ | omega | exact ⟨by decide, by decide⟩) ?_))
/-! ### the dice -/
section
variable {P : Program} {w : World} {K : PySem.W.Frag} {mg : Str → Option Value} {base : Heap} {Z : Ad}
def spRoll : Sp := fun vs H Q _ => ∃ (d : Addr) (x y z n : Int), vs = [.ref d, .int n] ∧ H d = some (.lst [.int x, .int y, .int z]) ∧ 0 < n ∧ n.natAbs.log2 < 9000 ∧
  ∀ r x' y' z' : Int, 0 ≤ r → r < n → Q (.int r) (upd H d (.lst [.int x', .int y', .int z']))
theorem ok_roll (D : Ds K mg Z) (B : Bt mg) : FnOk P w K mg base CX0 1 Z.a_roll Z.d_roll P_roll spRoll := by
  refine D.roll.F.ok sc_roll (fun vs H Q E h => ?_) (fun cdv A outer s H vs Q E hr h => ?_)
  · obtain ⟨d, x, y, z, n, rfl, _⟩ := h
    rfl
  · obtain ⟨d, x, y, z, n, rfl, hd, hn, hlog, q⟩ := h
    refine ⟨_, (pss_cons (ps_if (pt_cmpR op_gt (pe_ix ix_M (pv 0) pe_int (fun _ _ => rfl)) pe_int (nomark _)) (pss_cons (ps_set (i := 2) sc_roll.nd rfl (Or.inl rfl) (pe_op op_mod (pe_callTy call_intI (by rfl) B.int (by decide +kernel) (pa_cons (pe_ix ix_M (pv 0) pe_int (fun _ _ => rfl)) pa_nil)) (pv 1)))
    (pss_cons (ps_asg (pe_op op_fdivW (pe_ix ix_M (pv 0) pe_int (fun _ _ => rfl)) (pv 1)) (pg_sub (pv 0) pe_int set_list))
    (pss_one (ps_ret (pv 2))))) pss_nil)
    (pss_cons (ps_asg (pe_op op_add (pe_ix ix_M (pv 0) pe_int (fun _ _ => rfl)) pe_int) (pg_sub (pv 0) pe_int set_list))
    (pss_cons (ps_set (i := 3) sc_roll.nd rfl (Or.inl rfl) (pe_op op_mod (pe_callTy call_intI (by rfl) B.int (by decide +kernel) (pa_cons (pe_op op_add (pe_ix ix_M (pv 0) pe_int (fun _ _ => rfl)) (pe_op op_mul pe_int (pe_ix ix_M (pv 0) pe_int (fun _ _ => rfl)))) pa_nil)) pe_int))
    (pss_cons (ps_set (i := 4) sc_roll.nd rfl (Or.inl rfl) (pe_op op_add (pe_op op_mul (pe_op op_mod (pe_callTy call_intI (by rfl) B.int (by decide +kernel) (pa_cons (pe_op op_add (pe_op op_mul (pv 3) (pv 3)) (pe_op op_mul pe_int (pe_ix ix_M (pv 0) pe_int (fun _ _ => rfl)))) pa_nil)) pe_int) pe_int) (pv 3)))
    (pss_one (ps_ret (pe_op op_mod (pe_callTy call_intI (by rfl) B.int (by decide +kernel) (pa_cons (pe_op op_fdivW (pv 4) pe_int) pa_nil)) (pv 1)))))))), ?_⟩
    walk_at "rd"
    have hdv : ∀ i : Int, CDivW i n := fun i => ⟨hn, hlog⟩
    have hm : ∀ i : Int, 0 ≤ i % n ∧ i % n < n := fun i => ⟨Int.emod_nonneg _ (by omega), Int.emod_lt_of_pos _ hn⟩
    refine ite2 (fun h => ?_) (fun h => ?_)
    · walk_at "go"
      walk_at "go"
      walk_at "go"
    · walk_at "go"
      walk_at "go"
      walk_at "go"
      refine ⟨.inl ⟨by decide, by decide⟩, by decide, ?_⟩
      have h1 := Int.emod_nonneg (y + 7907 * (z + 1)) (show (2305843009213693907 : Int) ≠ 0 by decide)
      have h2 := Int.emod_lt_of_pos (y + 7907 * (z + 1)) (show (0 : Int) < 2305843009213693907 by decide)
      generalize (y + 7907 * (z + 1)) % 2305843009213693907 = o at h1 h2 ⊢
      walk_at "go"
      have h3 := Int.emod_nonneg (o * o + 67 * (z + 1)) (show (2305843009213693921 : Int) ≠ 0 by decide)
      have h4 := Int.emod_lt_of_pos (o * o + 67 * (z + 1)) (show (0 : Int) < 2305843009213693921 by decide)
      refine ⟨.inl ⟨by omega, by omega⟩, .inl ⟨by decide, by decide⟩, by decide, .inr ⟨by decide, by decide⟩, ?_⟩
      walk_at "go"
      exact ⟨by decide, by decide⟩

def Items (H : Hp) (d : Addr) (it : V) (xs : List V) : Prop := (∃ l, it = .ref l ∧ l ≠ d ∧ H l = some (.lst xs)) ∨
  (∃ z : Str, it = .str z ∧ xs = z.cps.toList.map fun c => V.str ⟨#[c]⟩)
def spPick : Sp := fun vs H Q _ => ∃ (d : Addr) (x y z : Int) (it : V) (xs : List V), vs = [.ref d, it] ∧ H d = some (.lst [.int x, .int y, .int z]) ∧
  Items H d it xs ∧ 0 < xs.length ∧ xs.length ≤ 1000 ∧ ∀ v, v ∈ xs → ∀ x' y' z' : Int, Q v (upd H d (.lst [.int x', .int y', .int z']))
theorem ok_pick (D : Ds K mg Z) (B : Bt mg) : FnOk P w K mg base CX0 2 Z.a_pick Z.d_pick P_pick spPick := by
  have G_roll := ok_roll (P := P) (w := w) (base := base) D B
  refine D.pick.F.ok sc_pick (fun vs H Q E h => ?_) (fun cdv A outer s H vs Q E hr h => ?_)
  · obtain ⟨d, x, y, z, it, xs, rfl, _⟩ := h
    rfl
  · obtain ⟨d, x, y, z, it, xs, rfl, hd, hit, h0, h1, q⟩ := h
    refine ⟨_, (pss_one (ps_ret (pe_ix ix_seq (pv 1) (pe_df D.roll G_roll (hr.mono (by decide)) (by rfl) (pa_cons (pv 0) (pa_cons (pe_callB call_len (by rfl) B.len (by decide +kernel) (pa_cons (pv 1) pa_nil)) pa_nil))) (fun _ _ => rfl)))), ?_⟩
    have hlog : ((xs.length : Int)).natAbs.log2 < 9000 := Nat.lt_of_lt_of_le (log2_of (k := 10) (by omega) (by decide)) (by decide)
    have hat : ∀ r : Int, 0 ≤ r → r < (xs.length : Int) → ∃ v, v ∈ xs ∧ atI xs r = some v := by
      intro r r0 r1
      have hr' : r.toNat < xs.length := by omega
      refine ⟨xs[r.toNat], List.getElem_mem hr', ?_⟩
      exact L2.at_of (j := r.toNat) (by omega) (List.getElem?_eq_getElem hr')
    walk_at "rd"
    rcases hit with ⟨l, rfl, nl, hl⟩ | ⟨z', rfl, rfl⟩
    · refine ⟨xs.length, .inl ⟨xs, SqL.of hl, rfl⟩, ?_⟩
      refine ⟨d, x, y, z, _, rfl, hd, by omega, hlog, fun r x' y' z' r0 r1 => ?_⟩
      obtain ⟨v, hv, ha⟩ := hat r r0 r1
      exact .inl ⟨l, xs, r, v, rfl, rfl, SqL.of (by rw [upd_ne nl]; exact hl), ha, q v hv _ _ _⟩
    · rw [List.length_map] at h0 h1
      have ez : z'.length = z'.cps.toList.length := len_tl' z'
      have hz : z'.length ≤ sizeLine := Nat.le_trans (show z'.length ≤ 1000 by omega) (by decide)
      rw [List.length_map, ← ez] at hat hlog
      refine ⟨z'.length, ⟨hz, rfl⟩, ?_⟩
      refine ⟨d, x, y, z, _, rfl, hd, by omega, hlog, fun r x' y' w' r0 r1 => ?_⟩
      have hr' : r.toNat < z'.cps.toList.length := by omega
      have ha : atI z'.cps.toList r = some z'.cps.toList[r.toNat] := atI_of r0 hr'
      refine .inr (.inr ⟨z', r, z'.cps.toList[r.toNat], rfl, rfl, hz, ha, ?_⟩)
      exact q _ (List.mem_map.mpr ⟨_, List.getElem_mem hr', rfl⟩) _ _ _

def spDice (K : PySem.W.Frag) : Sp := fun vs H Q _ => ∃ (a : Addr) (ns : List Int) (i : Nat), vs = [.ref a, .int (i : Int)] ∧ SqL K H a (ns.map V.int) ∧
  ∀ (p : Addr) (x y : Int), H p = none → Q (.ref p) (upd H p (.lst [.int x, .int y, .int 0]))
theorem ok_dice (D : Ds K mg Z) (B : Bt mg) : FnOk P w K mg base CX0 1 Z.a_dice Z.d_dice P_dice (spDice K) := by
  refine D.dice.F.ok sc_dice (fun vs H Q E h => ?_) (fun cdv A outer s H vs Q E hr h => ?_)
  · obtain ⟨a, ns, i, rfl, _⟩ := h
    rfl
  · obtain ⟨a, ns, i, rfl, hS, q⟩ := h
    refine ⟨_, (pss_cons (ps_set (i := 2) sc_dice.nd rfl (Or.inl rfl) (pe_ifExp (pt_cmpR op_lt (pv 1) (pe_callB (call_lenK (K := K) rfl) (by rfl) B.len (by decide +kernel) (pa_cons (pv 0) pa_nil)) (nomark _)) (pe_callTy call_intI (by rfl) B.int (by decide +kernel) (pa_cons (pe_ix (ix_listK (K := K) rfl) (pv 0) (pv 1) (fun _ _ => rfl)) pa_nil)) (pe_op op_add (pe_op op_mul pe_int (pv 1)) pe_int)))
    (pss_cons (ps_set (i := 3) sc_dice.nd rfl (Or.inl rfl) (pe_op op_mod (pe_callB call_abs (by rfl) B.abs (by decide +kernel) (pa_cons (pv 2) pa_nil)) (pe_op op_pow pe_int pe_int)))
    (pss_cons (ps_set (i := 4) sc_dice.nd rfl (Or.inl rfl) (pe_callB (call_max2 rfl) (by rfl) B.max (by decide +kernel) (pa_cons pe_int (pa_cons (pe_op op_sub (pe_callB call_abs (by rfl) B.abs (by decide +kernel) (pa_cons (pv 2) pa_nil)) (pe_op op_pow pe_int pe_int)) pa_nil))))
    (pss_one (ps_ret (pe_lst (pa_cons (pe_op op_mod (pv 4) (pe_op op_mulW (pe_op op_pow pe_int pe_int) (pe_op op_pow pe_int pe_int))) (pa_cons (pe_op op_add (pe_op op_add (pe_op op_add (pe_op op_mul (pe_op op_mod (pv 3) pe_int) pe_int) (pe_op op_mul pe_int (pv 1))) (pe_op op_mul pe_int (pe_callTy call_intB (by rfl) B.int (by decide +kernel) (pa_cons (pe_cmpR op_lt (pv 2) pe_int (nomark _)) pa_nil)))) pe_int) (pa_cons pe_int pa_nil))))))))), ?_⟩
    walk_at "rd"
    refine ⟨_, .inl hS, ?_⟩
    rw [List.length_map]
    have cut : ∀ (A B : Prop) (c : Bool), (c = true → A) → (c = false → B) → if c = true then A else B := by
      intro A B c h1 h2
      cases c
      · exact h2 rfl
      · exact h1 rfl
    refine cut _ _ _ (fun h => ?_) (fun h => ?_)
    · have hi : i < ns.length := by have := of_decide_eq_true h; omega
      refine ⟨a, _, _, .int ns[i], rfl, rfl, hS, L2.at_of rfl (by rw [List.getElem?_map, List.getElem?_eq_getElem hi]; rfl), ?_⟩
      walk_at "rd"
      generalize ns[i] = c
      walk_at "go"
      refine ⟨cpow59, by decide, ?_⟩
      walk_at "go"
      refine ⟨cpow17, ?_⟩
      walk_at "go"
      walk_at "cj"
      exact fun p hp => q p _ _ hp
    · refine ⟨.inl ⟨by decide, by decide⟩, ?_⟩
      generalize 43 * (i : Int) + 7 = c
      walk_at "go"
      refine ⟨cpow59, by decide, ?_⟩
      walk_at "go"
      refine ⟨cpow17, ?_⟩
      walk_at "go"
      walk_at "cj"
      exact fun p hp => q p _ _ hp

end
/-! ### words -/
def alpha : Str := "abcdefghijklmnopqrstuvwxyz"
def spelt : V → Bool
  | .str x => (TL.tl x).all fun c => decide (c ∈ TL.tl alpha)
  | _ => false
def lenV : V → Nat
  | .str x => x.length
  | _ => 0
def isName (v : V) : Bool := spelt v && (decide (1 ≤ lenV v) && decide (lenV v ≤ 8))
def isLetter (v : V) : Bool := spelt v && decide (lenV v = 1)
def isText (v : V) : Bool := spelt v && decide (lenV v ≤ 100000)
/-- a plain value, a text of at most a million signs -/
def OkV (K : PySem.W.Frag) (H : Hp) (v : V) : Prop := (∃ t, Pl K H v t) ∧ lenV v ≤ 1000000
theorem OkV.same {K : PySem.W.Frag} {H H' : Hp} {v : V} (e : Same H H') (h : OkV K H v) : OkV K H' v := by
  obtain ⟨⟨t, p⟩, z⟩ := h
  exact ⟨⟨t, p.same e⟩, z⟩
def sp1 (K : PySem.W.Frag) (f : V → Bool) : Sp := fun vs H Q _ => ∃ v, vs = [v] ∧ OkV K H v ∧ ∀ H', Same H H' → Q (.bl (f v)) H'

section
variable {P : Program} {w : World} {K : PySem.W.Frag} {mg : Str → Option Value} {base : Heap} {Z : Ad}
theorem ok_is_spelt (D : Ds K mg Z) (B : Bt mg) (C0 : Cs mg) : FnOk P w K mg base CX0 1 Z.a_is_spelt Z.d_is_spelt P_is_spelt (sp1 K spelt) := by
  obtain ⟨⟨t_LIMIT, c_LIMIT⟩, ⟨t_ALPHABET, c_ALPHABET⟩, ⟨t_MAX_TEXT, c_MAX_TEXT⟩, ⟨t_MAX_SIGNS, c_MAX_SIGNS⟩, ⟨t_MAX_DEPTH, c_MAX_DEPTH⟩, ⟨t_OPEN, c_OPEN⟩, ⟨t_SHUT, c_SHUT⟩, ⟨t_AGAIN, c_AGAIN⟩⟩ := C0
  refine D.is_spelt.F.ok sc_is_spelt (fun vs H Q E h => ?_) (fun cdv A outer s H vs Q E hr h => ?_)
  · obtain ⟨v, rfl, _⟩ := h
    rfl
  · obtain ⟨v, rfl, ⟨⟨t, pl⟩, hz⟩, q⟩ := h
    refine ⟨_, (pss_one (ps_ret (pe_and (pe_callB (call_isiK' (K := K) rfl) (by rfl) B.isinstance (by decide +kernel) (pa_cons (pv 0) (pa_cons (pe_bltn (v := .ty "str") (by rfl) B.str (by decide +kernel) rfl) pa_nil))) (pe_one (pe_callB (cr_allM rfl) (by rfl) B.all (by decide +kernel) (pa_cons (pe_lc (own := [("letter", 1)]) (g := gName 1) rfl sc_is_spelt.nd (pi_str (pv 0)) (blkOk_by (N := N_is_spelt) (sc := defScope s_is_spelt) (by decide +kernel)) (fun _ _ _ _ _ => (pg_name (i := 1) sc_is_spelt.nd rfl (Or.inl rfl))) (fun _ _ _ _ _ => pts_nil) (fun _ _ _ _ _ => (pe_cmpR op_sgn (pv 1) (pe_glob (v := .str _) (by rfl) c_ALPHABET ⟨_, rfl⟩) (by rfl)))) pa_nil)))))), ?_⟩
    walk_at "rd"
    refine rd_isi pl (isi_str pl) ?_
    walk_at "rd"
    cases pl with
    | str x =>
      rw [if_pos (by decide)]
      walk_at "rd"
      refine lc_mapW (walk_signs x) (fun _ _ => trivial) (by rw [signs_len]; exact hz) (fun v => match v with | .str y => .bl (decide (y.cps.getD 0 0 ∈ TL.tl alpha)) | _ => .non) (fun x => rfl) ?_ ?_
      · intro v hv H1 e1 R hR
        obtain ⟨c, _, rfl⟩ := List.mem_map.mp hv
        walk_at "rd"
        refine ⟨c, alpha, rfl, rfl, ?_⟩
        exact hR H1 (Same.refl _)
      · intro p H2 hp e2 hl
        refine ⟨p, rfl, (TL.tl x).map (fun c => decide (c ∈ TL.tl alpha)), ?_, ?_⟩
        · rw [hl]
          unfold LP.signs sgn
          rw [List.map_map, List.map_map]
          rfl
        · have r := q H2 e2
          have e : ((TL.tl x).map (fun c => decide (c ∈ TL.tl alpha))).all id = spelt (.str x) := by
            rw [List.all_map]
            rfl
          rw [e]
          exact r
    | _ =>
      rw [if_neg (by decide)]
      exact q H (Same.refl _)

theorem ok_is_letter (D : Ds K mg Z) (B : Bt mg) (C0 : Cs mg) : FnOk P w K mg base CX0 2 Z.a_is_letter Z.d_is_letter P_is_letter (sp1 K isLetter) := by
  have G_is_spelt := ok_is_spelt (P := P) (w := w) (base := base) D B C0
  obtain ⟨⟨t_LIMIT, c_LIMIT⟩, ⟨t_ALPHABET, c_ALPHABET⟩, ⟨t_MAX_TEXT, c_MAX_TEXT⟩, ⟨t_MAX_SIGNS, c_MAX_SIGNS⟩, ⟨t_MAX_DEPTH, c_MAX_DEPTH⟩, ⟨t_OPEN, c_OPEN⟩, ⟨t_SHUT, c_SHUT⟩, ⟨t_AGAIN, c_AGAIN⟩⟩ := C0
  refine D.is_letter.F.ok sc_is_letter (fun vs H Q E h => ?_) (fun cdv A outer s H vs Q E hr h => ?_)
  · obtain ⟨v, rfl, _⟩ := h
    rfl
  · obtain ⟨v, rfl, ok, q⟩ := h
    refine ⟨_, (pss_one (ps_ret (pe_and (pe_df D.is_spelt G_is_spelt (hr.mono (by decide)) (by rfl) (pa_cons (pv 0) pa_nil)) (pe_one (pe_cmpR op_eq (pe_callB call_len_str (by rfl) B.len (by decide +kernel) (pa_cons (pv 0) pa_nil)) pe_int (nomark _)))))), ?_⟩
    walk_at "rd"
    refine ⟨v, rfl, ok, fun H1 e1 => ?_⟩
    walk_at "rd"
    replace q := q H1 e1
    unfold isLetter at q
    refine ite2 (fun h => ?_) (fun h => ?_)
    · cases v with
      | str x =>
        rw [h, Bool.true_and] at q
        walk_at "rd"
        refine ⟨Nat.le_trans ok.2 (by decide), ?_⟩
        have e1 : decide ((x.length : Int) = 1) = decide (lenV (.str x) = 1) := decide_eq_decide.mpr (by show _ ↔ x.length = 1; omega)
        rw [e1]
        exact q
      | _ => cases h
    · rw [Bool.eq_false_iff.mpr h, Bool.false_and] at q
      exact q
def isInt : V → Bool
  | .int i => decide (-10 ^ 60 < i) && decide (i < 10 ^ 60)
  | _ => false
def isCnt : V → Bool
  | .int i => (decide (-10 ^ 60 < i) && decide (i < 10 ^ 60)) && decide (0 ≤ i)
  | _ => false
def spIsInt (K : PySem.W.Frag) : Sp := fun vs H Q _ => ∃ v t, vs = [v] ∧ Pl K H v t ∧ Q (.bl (isInt v)) H
def spIsCnt (K : PySem.W.Frag) : Sp := fun vs H Q _ => ∃ v t, vs = [v] ∧ Pl K H v t ∧ Q (.bl (isCnt v)) H

theorem ok_is_integer (D : Ds K mg Z) (B : Bt mg) (C0 : Cs mg) : FnOk P w K mg base CX0 1 Z.a_is_integer Z.d_is_integer P_is_integer (spIsInt K) := by
  obtain ⟨⟨t_LIMIT, c_LIMIT⟩, ⟨t_ALPHABET, c_ALPHABET⟩, ⟨t_MAX_TEXT, c_MAX_TEXT⟩, ⟨t_MAX_SIGNS, c_MAX_SIGNS⟩, ⟨t_MAX_DEPTH, c_MAX_DEPTH⟩, ⟨t_OPEN, c_OPEN⟩, ⟨t_SHUT, c_SHUT⟩, ⟨t_AGAIN, c_AGAIN⟩⟩ := C0
  refine D.is_integer.F.ok sc_is_integer (fun vs H Q E h => ?_) (fun cdv A outer s H vs Q E hr h => ?_)
  · obtain ⟨v, t, rfl, _⟩ := h
    rfl
  · obtain ⟨v, t, rfl, pl, q⟩ := h
    
    refine ⟨_, (pss_one (ps_ret (pe_and (pe_callB (call_isiK' (K := K) rfl) (by rfl) B.isinstance (by decide +kernel) (pa_cons (pv 0) (pa_cons (pe_bltn (v := .ty "int") (by rfl) B.int (by decide +kernel) rfl) pa_nil))) (pe_and (pe_not (pe_callB (call_isiK' (K := K) rfl) (by rfl) B.isinstance (by decide +kernel) (pa_cons (pv 0) (pa_cons (pe_bltn (v := .ty "bool") (by rfl) B.bool (by decide +kernel) rfl) pa_nil)))) (pe_one (pe_chain op_lt op_lt (pe_un un_neg (pe_glob (v := .int _) (by rfl) c_LIMIT ⟨_, rfl⟩)) (pv 0) (pe_glob (v := .int _) (by rfl) c_LIMIT ⟨_, rfl⟩))))))), ?_⟩
    walk_at "rd"
    refine rd_isi pl (isi_int pl) ?_
    walk_at "rd"
    cases pl with
    | int i =>
      rw [if_pos (by decide)]
      refine rd_isi (K := K) (.int i) (isi_bool (K := K) (H := H) (.int i)) ?_
      walk_at "rd"
      rw [if_pos (by decide)]
      have e : isInt (.int i) = (decide (-10 ^ 60 < i) && decide (i < 10 ^ 60)) := rfl
      rw [e] at q
      refine ite2 (fun h => ?_) (fun h => ?_)
      · rw [h, Bool.true_and] at q
        exact q
      · rw [Bool.eq_false_iff.mpr h, Bool.false_and] at q
        exact q
    | bl b =>
      rw [if_pos (by decide)]
      refine rd_isi (K := K) (.bl b) (isi_bool (K := K) (H := H) (.bl b)) ?_
      walk_at "rd"
      rw [if_neg (by decide)]
      exact q
    | _ =>
      rw [if_neg (by decide)]
      exact q

theorem ok_is_count (D : Ds K mg Z) (B : Bt mg) (C0 : Cs mg) : FnOk P w K mg base CX0 2 Z.a_is_count Z.d_is_count P_is_count (spIsCnt K) := by
  have G_is_integer := ok_is_integer (P := P) (w := w) (base := base) D B C0
  refine D.is_count.F.ok sc_is_count (fun vs H Q E h => ?_) (fun cdv A outer s H vs Q E hr h => ?_)
  · obtain ⟨v, t, rfl, _⟩ := h
    rfl
  · obtain ⟨v, t, rfl, pl, q⟩ := h
    refine ⟨_, (pss_one (ps_ret (pe_and (pe_df D.is_integer G_is_integer (hr.mono (by decide)) (by rfl) (pa_cons (pv 0) pa_nil)) (pe_one (pe_cmpR op_ge (pv 0) pe_int (nomark _)))))), ?_⟩
    walk_at "rd"
    refine ⟨v, t, rfl, pl, ?_⟩
    walk_at "rd"
    cases v with
    | int i =>
      have e : isCnt (.int i) = (isInt (.int i) && decide (0 ≤ i)) := rfl
      rw [e] at q
      refine ite2 (fun h => ?_) (fun h => ?_)
      · rw [h, Bool.true_and] at q
        walk_at "rd"
      · rw [Bool.eq_false_iff.mpr h, Bool.false_and] at q
        exact q
    | _ => exact q

end
/-! ### patterns -/
open PT (tx sg)
theorem isLetter_sg (c : Nat) : isLetter (.str (sg c)) = decide (97 ≤ c ∧ c ≤ 122) := by
  have e : TL.tl alpha = [97, 98, 99, 100, 101, 102, 103, 104, 105, 106, 107, 108, 109, 110, 111, 112, 113, 114, 115, 116, 117, 118, 119, 120, 121, 122] := by rfl
  show (((decide (c ∈ TL.tl alpha)) && true) && true) = _
  rw [e, Bool.and_true, Bool.and_true]
  refine decide_eq_decide.mpr ?_
  simp only [List.mem_cons, List.not_mem_nil, or_false]
  omega
theorem okv_str {K : PySem.W.Frag} {H : Hp} {l : List Nat} (h : l.length ≤ 1000000) : OkV K H (.str (tx l)) := ⟨⟨_, .str _⟩, by
  show (tx l).length ≤ _
  rw [PT.len_tx]
  exact h⟩
theorem okv_sg {K : PySem.W.Frag} {H : Hp} {c : Nat} : OkV K H (.str (sg c)) := okv_str (l := [c]) (by simp)
section
variable {P : Program} {w : World} {K : PySem.W.Frag} {mg : Str → Option Value} {base : Heap} {Z : Ad}
def spDepth : Sp := fun vs H Q _ => ∃ (l : List Nat), vs = [.str (tx l)] ∧ ∀ H', Same H H' → Q (PT.depV l) H'
theorem ok_depth_of (D : Ds K mg Z) (B : Bt mg) (C0 : Cs mg) : FnOk P w K mg base CX0 3 Z.a_depth_of Z.d_depth_of P_depth_of spDepth := by
  have G_is_letter := ok_is_letter (P := P) (w := w) (base := base) D B C0
  obtain ⟨⟨t_LIMIT, c_LIMIT⟩, ⟨t_ALPHABET, c_ALPHABET⟩, ⟨t_MAX_TEXT, c_MAX_TEXT⟩, ⟨t_MAX_SIGNS, c_MAX_SIGNS⟩, ⟨t_MAX_DEPTH, c_MAX_DEPTH⟩, ⟨t_OPEN, c_OPEN⟩, ⟨t_SHUT, c_SHUT⟩, ⟨t_AGAIN, c_AGAIN⟩⟩ := C0
  refine D.depth_of.F.ok sc_depth_of (fun vs H Q E h => ?_) (fun cdv A outer s H vs Q E hr h => ?_)
  · obtain ⟨l, rfl, _⟩ := h
    rfl
  · obtain ⟨l, rfl, q⟩ := h
    refine ⟨_, (pss_cons (ps_set (i := 1) sc_depth_of.nd rfl (Or.inl rfl) pe_int)
    (pss_cons (ps_set (i := 2) sc_depth_of.nd rfl (Or.inl rfl) pe_int)
    (pss_cons (ps_set (i := 3) sc_depth_of.nd rfl (Or.inl rfl) (pe_glob (v := .str _) (by rfl) c_OPEN ⟨_, rfl⟩))
    (pss_cons (ps_for PassesOwn.never rfl (pi_str (pv 0)) (pg_name (i := 4) sc_depth_of.nd rfl (Or.inl rfl))
      (pss_cons (ps_if (PW.pt (pw_or (pt_not (PW.pt (pw_or (pt_val (pe_df D.is_letter G_is_letter (hr.mono (by decide)) (by rfl) (pa_cons (pv 4) pa_nil))) (pw_or1 (pt_cmpR op_inT (pv 4) (pe_tup (pa_cons (pe_glob (v := .str _) (by rfl) c_OPEN ⟨_, rfl⟩) (pa_cons (pe_glob (v := .str _) (by rfl) c_SHUT ⟨_, rfl⟩) (pa_cons (pe_glob (v := .str _) (by rfl) c_AGAIN ⟨_, rfl⟩) pa_nil)))) (by rfl)))))) (pw_or1 (pt_cmpR op_ne (pe_cmpR op_eq (pv 4) (pe_glob (v := .str _) (by rfl) c_AGAIN ⟨_, rfl⟩) (nomark _)) (pe_cmpR op_eq (pv 3) (pe_glob (v := .str _) (by rfl) c_SHUT ⟨_, rfl⟩) (nomark _)) (nomark _))))) (pss_one (ps_ret pe_non)) pss_nil)
    (pss_cons (ps_if (PW.pt (pw_and (pt_cmpR op_eq (pv 4) (pe_glob (v := .str _) (by rfl) c_SHUT ⟨_, rfl⟩) (nomark _)) (pw_and1 (PW.pt (pw_or (pt_cmpR op_eq (pv 3) (pe_glob (v := .str _) (by rfl) c_OPEN ⟨_, rfl⟩) (nomark _)) (pw_or1 (pt_cmpR op_eq (pv 1) pe_int (nomark _)))))))) (pss_one (ps_ret pe_non)) pss_nil)
    (pss_cons (ps_set (i := 1) sc_depth_of.nd rfl (Or.inl rfl) (pe_op op_sub (pe_op op_add (pv 1) (pe_callTy call_intB (by rfl) B.int (by decide +kernel) (pa_cons (pe_cmpR op_eq (pv 4) (pe_glob (v := .str _) (by rfl) c_OPEN ⟨_, rfl⟩) (nomark _)) pa_nil))) (pe_callTy call_intB (by rfl) B.int (by decide +kernel) (pa_cons (pe_cmpR op_eq (pv 4) (pe_glob (v := .str _) (by rfl) c_SHUT ⟨_, rfl⟩) (nomark _)) pa_nil))))
    (pss_cons (ps_set (i := 2) sc_depth_of.nd rfl (Or.inl rfl) (pe_callB (call_max2 rfl) (by rfl) B.max (by decide +kernel) (pa_cons (pv 2) (pa_cons (pv 1) pa_nil))))
    (pss_one (ps_set (i := 3) sc_depth_of.nd rfl (Or.inl rfl) (pv 4))))))))
    (pss_one (ps_ret (pe_ifExp (PW.pt (pw_and (pt_cmpR op_eq (pv 1) pe_int (nomark _)) (pw_and1 (pt_cmpR op_ninT (pv 3) (pe_tup (pa_cons (pe_glob (v := .str _) (by rfl) c_OPEN ⟨_, rfl⟩) (pa_cons (pe_glob (v := .str _) (by rfl) c_SHUT ⟨_, rfl⟩) pa_nil))) (by rfl))))) (pv 2) pe_non))))))), ?_⟩
    walk_at "rd"
    walk_at "go"
    walk_at "go"
    walk_at "go"
    obtain ⟨Pv, hP⟩ := inv_bi (fun (r : List Nat) (σ : St) (H' : Hp) => ∃ (x y z : Nat) (o : Option V), σ = [some (.str (tx l)), some (.int (x : Int)), some (.int (y : Int)), some (.str (sg z)), o] ∧
      Same H H' ∧ PT.run PT.dst ⟨x, y, z⟩ r = PT.run PT.dst ⟨0, 0, 40⟩ l ∧ x ≤ y)
    refine PT.loop_sfx Pv ((hP _ _ _).mpr ⟨0, 0, 40, _, rfl, Same.refl _, rfl, Nat.le_refl _⟩) (fun c r σ H1 _ hp => ?_) (fun σ H1 hp => ?_)
    · obtain ⟨x, y, z, o, rfl, sm, hrun, hxy⟩ := (hP _ _ _).mp hp
      walk_at "rd"
      walk_at "go"
      refine ⟨_, rfl, okv_sg, fun H2 e2 => ?_⟩
      rw [isLetter_sg]
      clear hp
      have sm2 := sm.trans e2
      have stop : PT.run PT.dst ⟨x, y, z⟩ (c :: r) = none → ∀ H3, Same H H3 → Q V.non H3 := fun e H3 e3 => by
        rw [← PT.depV_none (l := l) (by rw [← hrun]; exact e)]
        exact q H3 e3
      have fin : ∀ (x' y' z' : Nat) (i j : Int) (o : Option V) H3, i = x' → j = y' → Same H H3 → x' ≤ y' → PT.dst ⟨x, y, z⟩ c = some ⟨x', y', z'⟩ → Pv r [some (.str (tx l)), some (.int i), some (.int j), some (.str (sg z')), o] H3 := fun x' y' z' i j o H3 ei ej e3 exy ed => by
        subst ei ej
        refine (hP _ _ _).mpr ⟨x', y', z', o, rfl, e3, ?_, exy⟩
        rw [← PT.run_cons ed]
        exact hrun
      have nd : PT.dst ⟨x, y, z⟩ c = none → PT.run PT.dst ⟨x, y, z⟩ (c :: r) = none := fun e => by
        show (PT.dst ⟨x, y, z⟩ c).bind _ = none
        rw [e]
        rfl
      by_cases h40 : c = 40
      · subst h40
        walk_at "rd"
        refine ⟨by decide, fun p hp => ?_⟩
        by_cases hz : z = 41
        · subst hz
          walk_at "rd"
          walk_at "go"
          exact stop rfl _ (sm2.trans (Same.new hp))
        · walk_at "rd"
          walk_at "go"
          walk_at "go"
          walk_at "go"
          walk_at "go"
          walk_at "go"
          walk_at "go"
          refine fin (x + 1) (max y (x + 1)) 40 _ _ _ _ (by simp) (by split <;> omega) (sm2.trans (Same.new hp)) (by omega) ?_
          unfold PT.dst
          rw [if_pos rfl, if_neg hz]
      · by_cases h41 : c = 41
        · subst h41
          walk_at "rd"
          refine ⟨by decide, fun p hp => ?_⟩
          by_cases hz : z = 41
          · subst hz
            walk_at "rd"
            walk_at "go"
            exact stop rfl _ (sm2.trans (Same.new hp))
          · walk_at "rd"
            walk_at "go"
            by_cases hz4 : z = 40
            · subst hz4
              walk_at "go"
              exact stop rfl _ (sm2.trans (Same.new hp))
            · walk_at "go"
              by_cases hx : x = 0
              · subst hx
                walk_at "rd"
                walk_at "go"
                exact stop (nd (by unfold PT.dst; simp)) _ (sm2.trans (Same.new hp))
              · have hx' : ¬ ((x : Int) = 0) := by omega
                walk_at "rd"
                walk_at "go"
                walk_at "go"
                walk_at "go"
                walk_at "go"
                refine fin (x - 1) y 41 _ _ _ _ (by simp; omega) (by split <;> omega) (sm2.trans (Same.new hp)) (by omega) ?_
                unfold PT.dst
                rw [if_neg (by decide), if_pos rfl, if_neg (by simp [hz, hz4, hx])]
        · by_cases h35 : c = 35
          · subst h35
            walk_at "rd"
            refine ⟨by decide, fun p hp => ?_⟩
            by_cases hz : z = 41
            · subst hz
              walk_at "rd"
              walk_at "go"
              walk_at "go"
              walk_at "go"
              walk_at "go"
              walk_at "go"
              walk_at "go"
              refine fin x y 35 _ _ _ _ (by simp) (by split <;> omega) (sm2.trans (Same.new hp)) (by omega) ?_
              unfold PT.dst
              rw [if_neg (by decide), if_neg (by decide), if_pos rfl, if_pos rfl]
            · walk_at "rd"
              walk_at "go"
              exact stop (nd (by unfold PT.dst; rw [if_neg (by decide), if_neg (by decide), if_pos rfl, if_neg hz])) _ (sm2.trans (Same.new hp))
          · by_cases hl : 97 ≤ c ∧ c ≤ 122
            · walk_at "rd"
              by_cases hz : z = 41
              · subst hz
                walk_at "rd"
                walk_at "go"
                exact stop (nd (by unfold PT.dst; rw [if_neg h40, if_neg h41, if_neg h35, if_pos hl, if_pos rfl])) _ sm2
              · walk_at "rd"
                walk_at "go"
                walk_at "go"
                walk_at "go"
                walk_at "go"
                walk_at "go"
                walk_at "go"
                refine fin x y c _ _ _ _ (by simp) (by split <;> omega) sm2 (by omega) ?_
                unfold PT.dst
                rw [if_neg h40, if_neg h41, if_neg h35, if_pos hl, if_neg hz]
            · walk_at "rd"
              refine ⟨by decide, fun p hp => ?_⟩
              walk_at "go"
              exact stop (nd (by unfold PT.dst; rw [if_neg h40, if_neg h41, if_neg h35, if_neg hl])) _ (sm2.trans (Same.new hp))
    · obtain ⟨x, y, z, o, rfl, sm, hrun, hxy⟩ := (hP _ _ _).mp hp
      walk_at "go"
      have q' : ∀ H', Same H H' → Q (if x = 0 ∧ ¬(z = 40 ∨ z = 41) then V.int (y : Int) else V.non) H' := fun H' e => by
        rw [← PT.depV_of (l := l) (by rw [← hrun]; rfl)]
        exact q H' e
      by_cases hx : x = 0
      · have hx' : (x : Int) = 0 := by omega
        walk_at "go"
        refine ⟨by decide, fun p hp => ?_⟩
        replace q' := q' _ (sm.trans (Same.new (o := HO.tup [V.str (sg 40), V.str (sg 41)]) hp))
        by_cases hz : z = 40 ∨ z = 41
        · rw [if_neg (by simp [hz])] at q'
          walk_at "rd"
        · rw [if_pos ⟨hx, hz⟩] at q'
          walk_at "rd"
      · have hx' : ¬ ((x : Int) = 0) := by omega
        walk_at "go"
        replace q' := q' _ sm
        rw [if_neg (by simp [hx])] at q'
        exact q'
/-! ### is_pattern -/
def isPat : V → Bool
  | .str x => (decide (1 ≤ x.length) && decide (x.length ≤ 20000)) && (match PT.depL x.cps.toList with
    | some d => decide (d ≤ 24)
    | none => false)
  | _ => false
theorem ok_is_pattern (D : Ds K mg Z) (B : Bt mg) (C0 : Cs mg) : FnOk P w K mg base CX0 4 Z.a_is_pattern Z.d_is_pattern P_is_pattern (sp1 K isPat) := by
  have G_depth_of := ok_depth_of (P := P) (w := w) (base := base) D B C0
  obtain ⟨⟨t_LIMIT, c_LIMIT⟩, ⟨t_ALPHABET, c_ALPHABET⟩, ⟨t_MAX_TEXT, c_MAX_TEXT⟩, ⟨t_MAX_SIGNS, c_MAX_SIGNS⟩, ⟨t_MAX_DEPTH, c_MAX_DEPTH⟩, ⟨t_OPEN, c_OPEN⟩, ⟨t_SHUT, c_SHUT⟩, ⟨t_AGAIN, c_AGAIN⟩⟩ := C0
  refine D.is_pattern.F.ok sc_is_pattern (fun vs H Q E h => ?_) (fun cdv A outer s H vs Q E hr h => ?_)
  · obtain ⟨v, rfl, _⟩ := h
    rfl
  · obtain ⟨v, rfl, ⟨⟨t, pl⟩, hz⟩, q⟩ := h
    refine ⟨_, (pss_cons (ps_if (PW.pt (pw_or (pt_not (pt_val (pe_callB (call_isiK' (K := K) rfl) (by rfl) B.isinstance (by decide +kernel) (pa_cons (pv 0) (pa_cons (pe_bltn (v := .ty "str") (by rfl) B.str (by decide +kernel) rfl) pa_nil))))) (pw_or1 (pt_not (pt_chain op_le op_le pe_int (pe_callB call_len_str (by rfl) B.len (by decide +kernel) (pa_cons (pv 0) pa_nil)) (pe_glob (v := .int _) (by rfl) c_MAX_SIGNS ⟨_, rfl⟩)))))) (pss_one (ps_ret pe_bl)) pss_nil)
    (pss_cons (ps_set (i := 1) sc_is_pattern.nd rfl (Or.inl rfl) (pe_df D.depth_of G_depth_of (hr.mono (by decide)) (by rfl) (pa_cons (pv 0) pa_nil)))
    (pss_one (ps_ret (pe_and (pe_cmpR op_notN (pv 1) pe_non (nomark _)) (pe_one (pe_cmpR op_le (pv 1) (pe_glob (v := .int _) (by rfl) c_MAX_DEPTH ⟨_, rfl⟩) (nomark _)))))))), ?_⟩
    walk_at "rd"
    refine rd_isi pl (isi_str pl) ?_
    walk_at "rd"
    cases pl with
    | str x =>
      rw [if_neg (by decide)]
      walk_at "rd"
      refine ⟨Nat.le_trans hz (by decide), ?_⟩
      by_cases h1 : 1 ≤ x.length
      · by_cases h2 : x.length ≤ 20000
        · rw [if_pos (decide_eq_true (by omega)), if_neg (by simp; omega)]
          walk_at "go"
          walk_at "go"
          refine ⟨x.cps.toList, rfl, fun H1 e1 => ?_⟩
          replace q := q H1 e1
          have e : isPat (.str x) = (match PT.depL x.cps.toList with | some d => decide (d ≤ 24) | none => false) := by
            show ((decide (1 ≤ x.length) && decide (x.length ≤ 20000)) && _) = _
            rw [decide_eq_true h1, decide_eq_true h2]
            rfl
          rw [e] at q
          unfold PT.depV
          cases hd : PT.depL x.cps.toList with
          | none =>
            rw [hd] at q
            walk_at "rd"
            walk_at "gg"
          | some d =>
            rw [hd] at q
            walk_at "rd"
            walk_at "go"
            rw [show decide ((d : Int) ≤ 24) = decide (d ≤ 24) from decide_eq_decide.mpr (by omega)]
            exact q
        · rw [if_pos (decide_eq_true (by omega)), if_pos (by simp; omega)]
          walk_at "go"
          have e : isPat (.str x) = false := by
            show ((decide (1 ≤ x.length) && decide (x.length ≤ 20000)) && _) = _
            rw [decide_eq_false h2, Bool.and_false, Bool.false_and]
          rw [e] at q
          exact q H (Same.refl _)
      · rw [if_neg (by simp; omega)]
        walk_at "go"
        have e : isPat (.str x) = false := by
          show ((decide (1 ≤ x.length) && decide (x.length ≤ 20000)) && _) = _
          rw [decide_eq_false h1, Bool.false_and, Bool.false_and]
        rw [e] at q
        exact q H (Same.refl _)
    | _ =>
      rw [if_pos (by decide)]
      walk_at "go"
      exact q H (Same.refl _)
/-! ### parts_of -/
def spParts : Sp := fun vs H Q _ => ∃ (l : List Nat) (fs : List Str) (n : Nat), vs = [.str (tx l)] ∧ l.length ≤ 20000 ∧ PT.run (PT.pst (PT.cutT l)) ⟨[], [], 0⟩ l = some ⟨fs, [], n⟩ ∧ ∀ p H', Same H H' → H' p = some (.tup (fs.map V.str)) → Q (.ref p) H'
theorem ok_parts_of (D : Ds K mg Z) (B : Bt mg) (C0 : Cs mg) : FnOk P w K mg base CX0 1 Z.a_parts_of Z.d_parts_of P_parts_of spParts := by
  obtain ⟨⟨t_LIMIT, c_LIMIT⟩, ⟨t_ALPHABET, c_ALPHABET⟩, ⟨t_MAX_TEXT, c_MAX_TEXT⟩, ⟨t_MAX_SIGNS, c_MAX_SIGNS⟩, ⟨t_MAX_DEPTH, c_MAX_DEPTH⟩, ⟨t_OPEN, c_OPEN⟩, ⟨t_SHUT, c_SHUT⟩, ⟨t_AGAIN, c_AGAIN⟩⟩ := C0
  refine D.parts_of.F.ok sc_parts_of (fun vs H Q E h => ?_) (fun cdv A outer s H vs Q E hr h => ?_)
  · obtain ⟨l, fs, n, rfl, _⟩ := h
    rfl
  · obtain ⟨l, fs, n, rfl, hlen, hrun, q⟩ := h
    refine ⟨_, (pss_cons (ps_set (i := 1) sc_parts_of.nd rfl (Or.inl rfl) (pe_lst pa_nil))
    (pss_cons (ps_set (i := 2) sc_parts_of.nd rfl (Or.inl rfl) (pe_lst pa_nil))
    (pss_cons (ps_for PassesOwn.never rfl (pi_enumNK (K := K) rfl (by rfl) B.enumerate (pa_cons (pv 0) pa_nil)) (pg_tupK (K := K) (n := 2) rfl rfl (pgs_cons (pg_name (i := 3) sc_parts_of.nd rfl (Or.inl rfl)) (pgs_cons (pg_name (i := 4) sc_parts_of.nd rfl (Or.inl rfl)) pgs_nil)))
      (pss_one (ps_if (pt_cmpR op_eq (pv 4) (pe_glob (v := .str _) (by rfl) c_OPEN ⟨_, rfl⟩) (nomark _)) (pss_one (ps_expr (pe_lm PySem.F.plainAttrs_list PySem.F.slot_list_append PySem.F.type_list_append mt_append (pv 2) (pa_cons (pe_op op_add (pv 3) pe_int) pa_nil)))) (pss_one (ps_if (pt_cmpR op_eq (pv 4) (pe_glob (v := .str _) (by rfl) c_SHUT ⟨_, rfl⟩) (nomark _)) (pss_one (ps_expr (pe_lm PySem.F.plainAttrs_list PySem.F.slot_list_append PySem.F.type_list_append mt_append (pv 1) (pa_cons (pe_slice sl_str (pv 0) (po_some (pe_lm0 PySem.F.plainAttrs_list PySem.F.slot_list_pop PySem.F.type_list_pop mt_pop (pv 2))) (po_some (pv 3))) pa_nil)))) pss_nil)))))
    (pss_one (ps_ret (pe_callTy call_tupM (by rfl) B.tuple (by decide +kernel) (pa_cons (pv 1) pa_nil))))))), ?_⟩
    walk_at "rd"
    refine ⟨by decide, fun f hf => ?_⟩
    walk_at "go"
    refine ⟨by decide, fun b hb => ?_⟩
    walk_at "go"
    refine ⟨.str (tx l), rfl, LP.signs (tx l), rfl, ?_⟩
    have nfb : b ≠ f := fun e => by rw [e, upd_same] at hb; cases hb
    have hb0 : H b = none := by rw [← hb]; exact (upd_ne nfb).symm
    obtain ⟨Pv, hP⟩ := inv_bi (fun (r : List Nat) (σ : St) (H' : Hp) => ∃ (m : List Nat) (gs : List Str) (bg : List Nat) (o3 o4 : Option V), l = m ++ r ∧ σ = [some (.str (tx l)), some (.ref f), some (.ref b), o3, o4] ∧
      Same H H' ∧ H' f = some (.lst (gs.map V.str)) ∧ H' b = some (.lst (bg.map fun n => V.int ((n : Nat) : Int))) ∧ gs.length + bg.length ≤ m.length ∧ PT.run (PT.pst (PT.cutT l)) ⟨gs, bg, m.length⟩ r = some ⟨fs, [], n⟩)
    refine PT.loop_esfx (K := K) Pv ((hP _ _ _).mpr ⟨[], [], [], _, _, rfl, rfl, (Same.new hf).trans (Same.new hb), by rw [upd_ne nfb.symm, upd_same]; rfl, upd_same, Nat.le_refl _, hrun⟩) (fun m c r T σ H1 el hp hT => ?_) (fun σ H1 hp => ?_)
    · obtain ⟨m', gs, bg, o3, o4, el', rfl, sm, hf1, hb1, hle, hr1⟩ := (hP _ _ _).mp hp
      clear hp
      obtain rfl : m = m' := List.append_cancel_right (el.symm.trans el')
      have e2 := Same.new (o := HO.tup [.int ((m.length : Nat) : Int), .str (sg c)]) hT
      have hT2 : upd H1 T (HO.tup [.int ((m.length : Nat) : Int), .str (sg c)]) T = some (.tup [.int ((m.length : Nat) : Int), .str (sg c)]) := upd_same
      replace sm := sm.trans e2
      replace hf1 := e2 _ _ hf1
      replace hb1 := e2 _ _ hb1
      generalize upd H1 T (HO.tup [.int ((m.length : Nat) : Int), .str (sg c)]) = H2 at sm hf1 hb1 hT2 ⊢
      have hml : m.length < 20000 := by
        have := congrArg List.length el
        rw [List.length_append, List.length_cons] at this
        omega
      obtain ⟨s', hs1, hs2⟩ := PT.run_step hr1
      unfold PT.pst at hs1
      have bd : (20000 : Nat) ≤ sizeLine := by decide
      have el2 : (m ++ [c]) ++ r = l := by rw [el]; simp
      have ml1 : (m ++ [c]).length = m.length + 1 := by simp
      clear el el'
      walk_at "rd"
      refine ⟨_, SqT.of hT2, rfl, ?_⟩
      walk_at "rd"
      by_cases h40 : c = 40
      · subst h40
        rw [if_pos rfl] at hs1
        cases hs1
        walk_at "rd"
        walk_at "gg"
        refine ⟨by rw [List.length_map]; omega, (hP _ _ _).mpr ⟨m ++ [40], gs, bg ++ [m.length + 1], _, _, el2.symm, rfl, Same.lay sm hb0, by rw [upd_ne nfb.symm]; exact hf1, by rw [upd_same, List.map_append]; rfl, ?_, ?_⟩⟩
        · rw [ml1, List.length_append]
          show gs.length + (bg.length + 1) ≤ _
          omega
        · rw [ml1]
          exact hs2
      · by_cases h41 : c = 41
        · subst h41
          rw [if_neg h40, if_pos rfl] at hs1
          cases hg : bg.getLast? with
          | none =>
            rw [hg] at hs1
            cases hs1
          | some k =>
            rw [hg] at hs1
            cases hs1
            have hll := PT.last_len hg
            walk_at "rd"
            walk_at "gg"
            refine ⟨_, PT.last_map hg, _, rfl, by rw [PT.len_tx]; omega, _, by rw [upd_ne nfb.symm]; exact hf1, by rw [List.length_map]; omega, (hP _ _ _).mpr ⟨m ++ [41], gs ++ [PT.cutT l k m.length], bg.dropLast, _, _, el2.symm, rfl, Same.lay (Same.lay sm hb0) hf, by rw [upd_same, List.map_append]; rfl, by rw [upd_ne nfb, upd_same, PT.map_dropLast'], ?_, ?_⟩⟩
            · rw [ml1, List.length_append]
              show (gs.length + 1) + _ ≤ _
              omega
            · rw [ml1]
              exact hs2
        · rw [if_neg h40, if_neg h41] at hs1
          cases hs1
          walk_at "rd"
          walk_at "gg"
          exact (hP _ _ _).mpr ⟨m ++ [c], gs, bg, _, _, el2.symm, rfl, sm, hf1, hb1, by rw [ml1]; omega, by rw [ml1]; exact hs2⟩
    · obtain ⟨m, gs, bg, o3, o4, el', rfl, sm, hf1, hb1, hle, hr1⟩ := (hP _ _ _).mp hp
      cases hr1
      walk_at "gg"
      exact fun p hp => q p _ (sm.trans (Same.new hp)) upd_same
/-! ### weight_of -/
def spWeight : Sp := fun vs H Q _ => ∃ (l : List Nat) (W : Nat), vs = [.str (tx l)] ∧ PT.run PT.wst ⟨0, 0⟩ l = some ⟨W, 0⟩ ∧ Q (.int (W : Int)) H
theorem ok_weight_of (D : Ds K mg Z) (B : Bt mg) (C0 : Cs mg) : FnOk P w K mg base CX0 1 Z.a_weight_of Z.d_weight_of P_weight_of spWeight := by
  obtain ⟨⟨t_LIMIT, c_LIMIT⟩, ⟨t_ALPHABET, c_ALPHABET⟩, ⟨t_MAX_TEXT, c_MAX_TEXT⟩, ⟨t_MAX_SIGNS, c_MAX_SIGNS⟩, ⟨t_MAX_DEPTH, c_MAX_DEPTH⟩, ⟨t_OPEN, c_OPEN⟩, ⟨t_SHUT, c_SHUT⟩, ⟨t_AGAIN, c_AGAIN⟩⟩ := C0
  refine D.weight_of.F.ok sc_weight_of (fun vs H Q E h => ?_) (fun cdv A outer s H vs Q E hr h => ?_)
  · obtain ⟨l, W, rfl, _⟩ := h
    rfl
  · obtain ⟨l, W, rfl, hrun, q⟩ := h
    refine ⟨_, (pss_cons (ps_set (i := 1) sc_weight_of.nd rfl (Or.inl rfl) pe_int)
    (pss_cons (ps_set (i := 2) sc_weight_of.nd rfl (Or.inl rfl) pe_int)
    (pss_cons (ps_for PassesOwn.never rfl (pi_str (pv 0)) (pg_name (i := 3) sc_weight_of.nd rfl (Or.inl rfl))
      (pss_one (ps_if (pt_cmpR op_eq (pv 3) (pe_glob (v := .str _) (by rfl) c_OPEN ⟨_, rfl⟩) (nomark _)) (pss_one (ps_set (i := 2) sc_weight_of.nd rfl (Or.inl rfl) (pe_op op_mul pe_int (pv 2)))) (pss_one (ps_if (pt_cmpR op_eq (pv 3) (pe_glob (v := .str _) (by rfl) c_SHUT ⟨_, rfl⟩) (nomark _)) (pss_one (ps_set (i := 2) sc_weight_of.nd rfl (Or.inl rfl) (pe_op op_fdivW (pv 2) pe_int))) (pss_one (ps_if (pt_cmpR op_ne (pv 3) (pe_glob (v := .str _) (by rfl) c_AGAIN ⟨_, rfl⟩) (nomark _)) (pss_one (ps_set (i := 1) sc_weight_of.nd rfl (Or.inl rfl) (pe_op op_add (pv 1) (pv 2)))) pss_nil)))))))
    (pss_one (ps_ret (pv 1)))))), ?_⟩
    walk_at "rd"
    walk_at "go"
    walk_at "go"
    obtain ⟨Pv, hP⟩ := inv_bi (fun (r : List Nat) (σ : St) (H' : Hp) => ∃ (x k : Nat) (o : Option V), σ = [some (.str (tx l)), some (.int (x : Int)), some (.int ((2 ^ k : Nat) : Int)), o] ∧ H' = H ∧ PT.run PT.wst ⟨x, k⟩ r = some ⟨W, 0⟩)
    refine PT.loop_sfx Pv ((hP _ _ _).mpr ⟨0, 0, _, rfl, rfl, hrun⟩) (fun c r σ H1 _ hp => ?_) (fun σ H1 hp => ?_)
    · obtain ⟨x, k, o, rfl, rfl, hr1⟩ := (hP _ _ _).mp hp
      clear hp
      obtain ⟨s', hs1, hs2⟩ := PT.run_step hr1
      have fin : ∀ (x' k' : Nat) (i j : Int) (o : Option V), i = x' → j = ((2 ^ k' : Nat) : Int) → s' = ⟨x', k'⟩ → Pv r [some (.str (tx l)), some (.int i), some (.int j), o] H1 := fun x' k' i j o ei ej es => by
        subst ei ej es
        exact (hP _ _ _).mpr ⟨x', k', o, rfl, rfl, hs2⟩
      unfold PT.wst at hs1
      walk_at "rd"
      by_cases h40 : c = 40
      · subst h40
        rw [if_pos rfl] at hs1
        split at hs1
        · cases hs1
          walk_at "rd"
          walk_at "gg"
          refine ⟨.inl ⟨by decide, by decide⟩, ?_⟩
          exact fin x (k + 1) _ _ _ rfl (PT.two_pow k) rfl
        · cases hs1
      · by_cases h41 : c = 41
        · subst h41
          rw [if_neg h40, if_pos rfl] at hs1
          split at hs1
          · cases hs1
          · cases hs1
            walk_at "rd"
            walk_at "gg"
            refine ⟨⟨by decide, by decide⟩, ?_⟩
            exact fin x (k - 1) _ _ _ rfl (PT.half_pow (by assumption)) rfl
        · rw [if_neg h40, if_neg h41] at hs1
          by_cases h35 : c = 35
          · subst h35
            rw [if_pos rfl] at hs1
            cases hs1
            walk_at "rd"
            walk_at "gg"
            exact fin x k _ _ _ rfl rfl rfl
          · rw [if_neg h35] at hs1
            cases hs1
            walk_at "rd"
            walk_at "gg"
            exact fin (x + 2 ^ k) k _ _ _ rfl rfl rfl
    · obtain ⟨x, k, o, rfl, rfl, hr1⟩ := (hP _ _ _).mp hp
      cases hr1
      walk_at "gg"
/-! ### require_number -/
def spReq (K : PySem.W.Frag) : Sp := fun vs H Q _ => ∃ (n : Nat), vs = [.int (n : Int)] ∧ 1 ≤ n ∧ n < 10 ^ 60 ∧ Q .non H
theorem ok_require_number (D : Ds K mg Z) (B : Bt mg) (C0 : Cs mg) : FnOk P w K mg base CX0 3 Z.a_require_number Z.d_require_number P_require_number (spReq K) := by
  have G_is_count := ok_is_count (P := P) (w := w) (base := base) D B C0
  obtain ⟨⟨t_LIMIT, c_LIMIT⟩, ⟨t_ALPHABET, c_ALPHABET⟩, ⟨t_MAX_TEXT, c_MAX_TEXT⟩, ⟨t_MAX_SIGNS, c_MAX_SIGNS⟩, ⟨t_MAX_DEPTH, c_MAX_DEPTH⟩, ⟨t_OPEN, c_OPEN⟩, ⟨t_SHUT, c_SHUT⟩, ⟨t_AGAIN, c_AGAIN⟩⟩ := C0
  refine D.require_number.F.ok sc_require_number (fun vs H Q E h => ?_) (fun cdv A outer s H vs Q E hr h => ?_)
  · obtain ⟨n, rfl, _⟩ := h
    rfl
  · obtain ⟨n, rfl, h1, h2, q⟩ := h
    refine ⟨_, (pss_one (ps_if (PW.pt (pw_or (pt_not (pt_val (pe_df D.is_count G_is_count (hr.mono (by decide)) (by rfl) (pa_cons (pv 0) pa_nil)))) (pw_or1 (pt_cmpR op_eq (pv 0) pe_int (nomark _))))) (pss_one ps_dead) pss_nil)), ?_⟩
    walk_at "rd"
    refine ⟨_, _, rfl, .int _, ?_⟩
    have e : isCnt (.int (n : Int)) = true := by
      simp only [isCnt, Bool.and_eq_true, decide_eq_true_eq]
      refine ⟨⟨?_, ?_⟩, ?_⟩ <;> omega
    have e0 : ¬ ((n : Int) = 0) := by omega
    rw [e]
    walk_at "rd"
    walk_at "gg"
end
section
variable {P : Program} {w : World} {K : PySem.W.Frag} {mg : Str → Option Value} {base : Heap} {Z : Ad}
open PT (tx sg)
/-! ### TextAt, LengthAt: what a pattern comes to at a number -/
def fldN (n : Nat) : List (Str × V) := [("own_number", V.int ((n : Nat) : Int))]
def spAt0 (C : Addr) : Sp := fun vs H Q _ => ∃ (a dx : Addr) (n : Nat), vs = [.ref a, .int ((n : Nat) : Int)] ∧ H a = some (.ins C dx []) ∧ Q .non (upd H a (.ins C dx (fldN n)))
theorem ok_TextAt___init__ (D : Ds K mg Z) (B : Bt mg) (C0 : Cs mg) : FnOk P w K mg base CX0 1 Z.a_TextAt___init__ Z.d_TextAt___init__ P_TextAt___init__ (spAt0 Z.c_TextAt) := by
  obtain ⟨⟨t_LIMIT, c_LIMIT⟩, ⟨t_ALPHABET, c_ALPHABET⟩, ⟨t_MAX_TEXT, c_MAX_TEXT⟩, ⟨t_MAX_SIGNS, c_MAX_SIGNS⟩, ⟨t_MAX_DEPTH, c_MAX_DEPTH⟩, ⟨t_OPEN, c_OPEN⟩, ⟨t_SHUT, c_SHUT⟩, ⟨t_AGAIN, c_AGAIN⟩⟩ := C0
  refine D.TextAt___init__.F.ok sc_TextAt___init__ (fun vs H Q E h => ?_) (fun cdv A outer s H vs Q E hr h => ?_)
  · obtain ⟨a, dx, n, rfl, _⟩ := h
    rfl
  · obtain ⟨a, dx, n, rfl, ha, q⟩ := h
    refine ⟨_, (pss_one (ps_fldC D.TextAt D.TextAt_own_number (pv 0) (pv 1))), ?_⟩
    exact ⟨_, rfl, _, rfl, a, dx, [], rfl, ha, by decide, q⟩
theorem ok_LengthAt___init__ (D : Ds K mg Z) (B : Bt mg) (C0 : Cs mg) : FnOk P w K mg base CX0 1 Z.a_LengthAt___init__ Z.d_LengthAt___init__ P_LengthAt___init__ (spAt0 Z.c_LengthAt) := by
  obtain ⟨⟨t_LIMIT, c_LIMIT⟩, ⟨t_ALPHABET, c_ALPHABET⟩, ⟨t_MAX_TEXT, c_MAX_TEXT⟩, ⟨t_MAX_SIGNS, c_MAX_SIGNS⟩, ⟨t_MAX_DEPTH, c_MAX_DEPTH⟩, ⟨t_OPEN, c_OPEN⟩, ⟨t_SHUT, c_SHUT⟩, ⟨t_AGAIN, c_AGAIN⟩⟩ := C0
  refine D.LengthAt___init__.F.ok sc_LengthAt___init__ (fun vs H Q E h => ?_) (fun cdv A outer s H vs Q E hr h => ?_)
  · obtain ⟨a, dx, n, rfl, _⟩ := h
    rfl
  · obtain ⟨a, dx, n, rfl, ha, q⟩ := h
    refine ⟨_, (pss_one (ps_fldC D.LengthAt D.LengthAt_own_number (pv 0) (pv 1))), ?_⟩
    exact ⟨_, rfl, _, rfl, a, dx, [], rfl, ha, by decide, q⟩
def spAgT (C : Addr) : Sp := fun vs H Q _ => ∃ (a dx : Addr) (n : Nat) (x : List Nat) (p : V), vs = [.ref a, .str (tx x), p] ∧ H a = some (.ins C dx (fldN n)) ∧ n < 10 ^ 17 ∧ n * x.length ≤ 100000 ∧ Q (.str (tx (PT.times n x))) H
theorem ok_TextAt_again (D : Ds K mg Z) (B : Bt mg) (C0 : Cs mg) : FnOk P w K mg base CX0 1 Z.a_TextAt_again Z.d_TextAt_again P_TextAt_again (spAgT Z.c_TextAt) := by
  obtain ⟨⟨t_LIMIT, c_LIMIT⟩, ⟨t_ALPHABET, c_ALPHABET⟩, ⟨t_MAX_TEXT, c_MAX_TEXT⟩, ⟨t_MAX_SIGNS, c_MAX_SIGNS⟩, ⟨t_MAX_DEPTH, c_MAX_DEPTH⟩, ⟨t_OPEN, c_OPEN⟩, ⟨t_SHUT, c_SHUT⟩, ⟨t_AGAIN, c_AGAIN⟩⟩ := C0
  refine D.TextAt_again.F.ok sc_TextAt_again (fun vs H Q E h => ?_) (fun cdv A outer s H vs Q E hr h => ?_)
  · obtain ⟨a, dx, n, x, p, rfl, _⟩ := h
    rfl
  · obtain ⟨a, dx, n, x, p, rfl, ha, hn, hl, q⟩ := h
    refine ⟨_, (pss_one (ps_ret (pe_op op_repS (pv 1) (pe_fldC D.TextAt D.TextAt_own_number (pv 0))))), ?_⟩
    refine ⟨_, rfl, _, rfl, a, dx, _, _, rfl, ha, rfl, _, _, rfl, rfl, ⟨by omega, by omega, ?_⟩, ?_⟩
    · rw [PT.len_tx, Int.toNat_natCast, Nat.mul_comm]
      exact Nat.le_trans hl (by decide)
    · rw [PT.repS_tx]
      exact q
def spAgL (C : Addr) : Sp := fun vs H Q _ => ∃ (a dx : Addr) (n m : Nat) (p : V), vs = [.ref a, .int ((m : Nat) : Int), p] ∧ H a = some (.ins C dx (fldN n)) ∧ n < 10 ^ 60 ∧ m < PT.big ∧ Q (.int ((m * n : Nat) : Int)) H
theorem ok_LengthAt_again (D : Ds K mg Z) (B : Bt mg) (C0 : Cs mg) : FnOk P w K mg base CX0 1 Z.a_LengthAt_again Z.d_LengthAt_again P_LengthAt_again (spAgL Z.c_LengthAt) := by
  obtain ⟨⟨t_LIMIT, c_LIMIT⟩, ⟨t_ALPHABET, c_ALPHABET⟩, ⟨t_MAX_TEXT, c_MAX_TEXT⟩, ⟨t_MAX_SIGNS, c_MAX_SIGNS⟩, ⟨t_MAX_DEPTH, c_MAX_DEPTH⟩, ⟨t_OPEN, c_OPEN⟩, ⟨t_SHUT, c_SHUT⟩, ⟨t_AGAIN, c_AGAIN⟩⟩ := C0
  refine D.LengthAt_again.F.ok sc_LengthAt_again (fun vs H Q E h => ?_) (fun cdv A outer s H vs Q E hr h => ?_)
  · obtain ⟨a, dx, n, m, p, rfl, _⟩ := h
    rfl
  · obtain ⟨a, dx, n, m, p, rfl, ha, hn, hm, q⟩ := h
    refine ⟨_, (pss_one (ps_ret (pe_op op_mulW (pv 1) (pe_fldC D.LengthAt D.LengthAt_own_number (pv 0))))), ?_⟩
    refine ⟨_, rfl, _, rfl, a, dx, _, _, rfl, ha, rfl, _, _, rfl, rfl, ?_, ?_⟩
    · exact PT.mulW hm hn
    · rw [Int.natCast_mul] at q
      exact q
def spLet1 : Sp := fun vs H Q _ => ∃ (v x : V), vs = [v, x] ∧ Q x H
theorem ok_TextAt_letter (D : Ds K mg Z) (B : Bt mg) (C0 : Cs mg) : FnOk P w K mg base CX0 1 Z.a_TextAt_letter Z.d_TextAt_letter P_TextAt_letter spLet1 := by
  obtain ⟨⟨t_LIMIT, c_LIMIT⟩, ⟨t_ALPHABET, c_ALPHABET⟩, ⟨t_MAX_TEXT, c_MAX_TEXT⟩, ⟨t_MAX_SIGNS, c_MAX_SIGNS⟩, ⟨t_MAX_DEPTH, c_MAX_DEPTH⟩, ⟨t_OPEN, c_OPEN⟩, ⟨t_SHUT, c_SHUT⟩, ⟨t_AGAIN, c_AGAIN⟩⟩ := C0
  refine D.TextAt_letter.F.ok sc_TextAt_letter (fun vs H Q E h => ?_) (fun cdv A outer s H vs Q E hr h => ?_)
  · obtain ⟨v, x, rfl, _⟩ := h
    rfl
  · obtain ⟨v, x, rfl, q⟩ := h
    refine ⟨_, (pss_one (ps_ret (pv 1))), ?_⟩
    exact ⟨_, rfl, q⟩
def spLet2 : Sp := fun vs H Q _ => ∃ (v x : V), vs = [v, x] ∧ Q (.int ((1 : Nat) : Int)) H
theorem ok_LengthAt_letter (D : Ds K mg Z) (B : Bt mg) (C0 : Cs mg) : FnOk P w K mg base CX0 1 Z.a_LengthAt_letter Z.d_LengthAt_letter P_LengthAt_letter spLet2 := by
  obtain ⟨⟨t_LIMIT, c_LIMIT⟩, ⟨t_ALPHABET, c_ALPHABET⟩, ⟨t_MAX_TEXT, c_MAX_TEXT⟩, ⟨t_MAX_SIGNS, c_MAX_SIGNS⟩, ⟨t_MAX_DEPTH, c_MAX_DEPTH⟩, ⟨t_OPEN, c_OPEN⟩, ⟨t_SHUT, c_SHUT⟩, ⟨t_AGAIN, c_AGAIN⟩⟩ := C0
  refine D.LengthAt_letter.F.ok sc_LengthAt_letter (fun vs H Q E h => ?_) (fun cdv A outer s H vs Q E hr h => ?_)
  · obtain ⟨v, x, rfl, _⟩ := h
    rfl
  · obtain ⟨v, x, rfl, q⟩ := h
    refine ⟨_, (pss_one (ps_ret pe_int)), ?_⟩
    exact q
def spJnT : Sp := fun vs H Q _ => ∃ (v : V) (x y : List Nat), vs = [v, .str (tx x), .str (tx y)] ∧ (x ++ y).length ≤ 100000 ∧ Q (.str (tx (x ++ y))) H
theorem ok_TextAt_joined (D : Ds K mg Z) (B : Bt mg) (C0 : Cs mg) : FnOk P w K mg base CX0 1 Z.a_TextAt_joined Z.d_TextAt_joined P_TextAt_joined spJnT := by
  obtain ⟨⟨t_LIMIT, c_LIMIT⟩, ⟨t_ALPHABET, c_ALPHABET⟩, ⟨t_MAX_TEXT, c_MAX_TEXT⟩, ⟨t_MAX_SIGNS, c_MAX_SIGNS⟩, ⟨t_MAX_DEPTH, c_MAX_DEPTH⟩, ⟨t_OPEN, c_OPEN⟩, ⟨t_SHUT, c_SHUT⟩, ⟨t_AGAIN, c_AGAIN⟩⟩ := C0
  refine D.TextAt_joined.F.ok sc_TextAt_joined (fun vs H Q E h => ?_) (fun cdv A outer s H vs Q E hr h => ?_)
  · obtain ⟨v, x, y, rfl, _⟩ := h
    rfl
  · obtain ⟨v, x, y, rfl, hl, q⟩ := h
    refine ⟨_, (pss_one (ps_ret (pe_op op_add_str (pv 1) (pv 2)))), ?_⟩
    refine ⟨_, rfl, _, rfl, _, _, rfl, rfl, ?_, ?_⟩
    · rw [PT.len_tx, PT.len_tx]
      rw [List.length_append] at hl
      exact Nat.le_trans hl (by decide)
    · rw [PT.tx_append]
      exact q
def spJnL : Sp := fun vs H Q _ => ∃ (v : V) (x y : Nat), vs = [v, .int ((x : Nat) : Int), .int ((y : Nat) : Int)] ∧ Q (.int ((x + y : Nat) : Int)) H
theorem ok_LengthAt_joined (D : Ds K mg Z) (B : Bt mg) (C0 : Cs mg) : FnOk P w K mg base CX0 1 Z.a_LengthAt_joined Z.d_LengthAt_joined P_LengthAt_joined spJnL := by
  obtain ⟨⟨t_LIMIT, c_LIMIT⟩, ⟨t_ALPHABET, c_ALPHABET⟩, ⟨t_MAX_TEXT, c_MAX_TEXT⟩, ⟨t_MAX_SIGNS, c_MAX_SIGNS⟩, ⟨t_MAX_DEPTH, c_MAX_DEPTH⟩, ⟨t_OPEN, c_OPEN⟩, ⟨t_SHUT, c_SHUT⟩, ⟨t_AGAIN, c_AGAIN⟩⟩ := C0
  refine D.LengthAt_joined.F.ok sc_LengthAt_joined (fun vs H Q E h => ?_) (fun cdv A outer s H vs Q E hr h => ?_)
  · obtain ⟨v, x, y, rfl, _⟩ := h
    rfl
  · obtain ⟨v, x, y, rfl, q⟩ := h
    refine ⟨_, (pss_one (ps_ret (pe_op op_add (pv 1) (pv 2)))), ?_⟩
    refine ⟨_, rfl, _, rfl, _, _, rfl, rfl, ?_⟩
    exact q
/-- a text that is there or not -/
def ovT : Option (List Nat) → V
  | some x => .str (tx x)
  | none => .non
def ovL : Option Nat → V
  | some x => .int ((x : Nat) : Int)
  | none => .non
def spBhT (C : Addr) : Sp := fun vs H Q _ => ∃ (a dx : Addr) (n : Nat) (o : Option (List Nat)) (y : List Nat), vs = [.ref a, ovT o, .str (tx y)] ∧ H a = some (.ins C dx (fldN n)) ∧ (o.getD [] ++ y).length ≤ 100000 ∧ Q (.str (tx (o.getD [] ++ y))) H
theorem ok_TextAt_behind (D : Ds K mg Z) (B : Bt mg) (C0 : Cs mg) : FnOk P w K mg base CX0 2 Z.a_TextAt_behind Z.d_TextAt_behind P_TextAt_behind (spBhT Z.c_TextAt) := by
  have G_TextAt_joined := ok_TextAt_joined (P := P) (w := w) (base := base) D B C0
  obtain ⟨⟨t_LIMIT, c_LIMIT⟩, ⟨t_ALPHABET, c_ALPHABET⟩, ⟨t_MAX_TEXT, c_MAX_TEXT⟩, ⟨t_MAX_SIGNS, c_MAX_SIGNS⟩, ⟨t_MAX_DEPTH, c_MAX_DEPTH⟩, ⟨t_OPEN, c_OPEN⟩, ⟨t_SHUT, c_SHUT⟩, ⟨t_AGAIN, c_AGAIN⟩⟩ := C0
  refine D.TextAt_behind.F.ok sc_TextAt_behind (fun vs H Q E h => ?_) (fun cdv A outer s H vs Q E hr h => ?_)
  · obtain ⟨a, dx, n, o, y, rfl, _⟩ := h
    rfl
  · obtain ⟨a, dx, n, o, y, rfl, ha, hl, q⟩ := h
    refine ⟨_, (pss_one (ps_ret (pe_ifExp (pt_cmpR op_isN (pv 1) pe_non (nomark _)) (pv 2) (pe_mtP D.TextAt D.TextAt_joined G_TextAt_joined (hr.mono (by decide)) (pv 0) (pa_cons (pv 1) (pa_cons (pv 2) pa_nil)))))), ?_⟩
    cases o with
    | none =>
      unfold ovT
      walk_at "rd"
      exact q
    | some x =>
      unfold ovT
      walk_at "rd"
      exact ⟨rfl, _, _, _, rfl, hl, q⟩
def spBhL (C : Addr) : Sp := fun vs H Q _ => ∃ (a dx : Addr) (n : Nat) (o : Option Nat) (y : Nat), vs = [.ref a, ovL o, .int ((y : Nat) : Int)] ∧ H a = some (.ins C dx (fldN n)) ∧ Q (.int ((o.getD 0 + y : Nat) : Int)) H
theorem ok_LengthAt_behind (D : Ds K mg Z) (B : Bt mg) (C0 : Cs mg) : FnOk P w K mg base CX0 2 Z.a_LengthAt_behind Z.d_LengthAt_behind P_LengthAt_behind (spBhL Z.c_LengthAt) := by
  have G_LengthAt_joined := ok_LengthAt_joined (P := P) (w := w) (base := base) D B C0
  obtain ⟨⟨t_LIMIT, c_LIMIT⟩, ⟨t_ALPHABET, c_ALPHABET⟩, ⟨t_MAX_TEXT, c_MAX_TEXT⟩, ⟨t_MAX_SIGNS, c_MAX_SIGNS⟩, ⟨t_MAX_DEPTH, c_MAX_DEPTH⟩, ⟨t_OPEN, c_OPEN⟩, ⟨t_SHUT, c_SHUT⟩, ⟨t_AGAIN, c_AGAIN⟩⟩ := C0
  refine D.LengthAt_behind.F.ok sc_LengthAt_behind (fun vs H Q E h => ?_) (fun cdv A outer s H vs Q E hr h => ?_)
  · obtain ⟨a, dx, n, o, y, rfl, _⟩ := h
    rfl
  · obtain ⟨a, dx, n, o, y, rfl, ha, q⟩ := h
    refine ⟨_, (pss_one (ps_ret (pe_ifExp (pt_cmpR op_isN (pv 1) pe_non (nomark _)) (pv 2) (pe_mtP D.LengthAt D.LengthAt_joined G_LengthAt_joined (hr.mono (by decide)) (pv 0) (pa_cons (pv 1) (pa_cons (pv 2) pa_nil)))))), ?_⟩
    cases o with
    | none =>
      unfold ovL
      rw [Option.getD_none, Nat.zero_add] at q
      walk_at "rd"
    | some x =>
      unfold ovL
      walk_at "rd"
      exact ⟨rfl, _, _, _, rfl, q⟩
/-! ### fold -/
def spFoldT (C : Addr) : Sp := fun vs H Q _ => ∃ (a dx : Addr) (n : Nat) (l : List Nat) (x : List Nat), vs = [.ref a, .str (tx l)] ∧ H a = some (.ins C dx (fldN n)) ∧ n < 10 ^ 17 ∧ l.length ≤ 20000 ∧ PT.run (PT.fst n) ⟨none, []⟩ l = some ⟨some x, []⟩ ∧ 1 ≤ n ∧ ∀ H', Same H H' → Q (.str (tx x)) H'
theorem ok_TextAt_fold (D : Ds K mg Z) (B : Bt mg) (C0 : Cs mg) : FnOk P w K mg base CX0 3 Z.a_TextAt_fold Z.d_TextAt_fold P_TextAt_fold (spFoldT Z.c_TextAt) := by
  have G_TextAt_behind := ok_TextAt_behind (P := P) (w := w) (base := base) D B C0
  have G_TextAt_again := ok_TextAt_again (P := P) (w := w) (base := base) D B C0
  have G_TextAt_letter := ok_TextAt_letter (P := P) (w := w) (base := base) D B C0
  obtain ⟨⟨t_LIMIT, c_LIMIT⟩, ⟨t_ALPHABET, c_ALPHABET⟩, ⟨t_MAX_TEXT, c_MAX_TEXT⟩, ⟨t_MAX_SIGNS, c_MAX_SIGNS⟩, ⟨t_MAX_DEPTH, c_MAX_DEPTH⟩, ⟨t_OPEN, c_OPEN⟩, ⟨t_SHUT, c_SHUT⟩, ⟨t_AGAIN, c_AGAIN⟩⟩ := C0
  refine D.TextAt_fold.F.ok sc_TextAt_fold (fun vs H Q E h => ?_) (fun cdv A outer s H vs Q E hr h => ?_)
  · obtain ⟨a, dx, n, l, x, rfl, _⟩ := h
    rfl
  · obtain ⟨a, dx, n, l, x, rfl, ha, hn, hlen, hrun, hn1, q⟩ := h
    refine ⟨_, (pss_cons (ps_par3 (i := 2) (j := 3) (l := 4) (by rfl) sc_TextAt_fold.nd rfl rfl rfl (by decide) (by decide) (by decide) rfl rfl rfl (pa_cons pe_non (pa_cons (pe_lst pa_nil) (pa_cons pe_int pa_nil))) (by rfl))
    (pss_cons (ps_for PassesOwn.never rfl (pi_str (pv 1)) (pg_name (i := 5) sc_TextAt_fold.nd rfl (Or.inl rfl))
      (pss_one (ps_if (pt_cmpR op_eq (pv 5) (pe_glob (v := .str _) (by rfl) c_OPEN ⟨_, rfl⟩) (nomark _)) (pss_cons (ps_expr (pe_lm PySem.F.plainAttrs_list PySem.F.slot_list_append PySem.F.type_list_append mt_append (pv 3) (pa_cons (pv 2) pa_nil)))
    (pss_one (ps_set (i := 2) sc_TextAt_fold.nd rfl (Or.inl rfl) pe_non))) (pss_one (ps_if (pt_cmpR op_eq (pv 5) (pe_glob (v := .str _) (by rfl) c_AGAIN ⟨_, rfl⟩) (nomark _)) (pss_cons (ps_set (i := 2) sc_TextAt_fold.nd rfl (Or.inl rfl) (pe_mtP D.TextAt D.TextAt_behind G_TextAt_behind (hr.mono (by decide)) (pv 0) (pa_cons (pe_lm0 PySem.F.plainAttrs_list PySem.F.slot_list_pop PySem.F.type_list_pop mt_pop (pv 3)) (pa_cons (pe_mtP D.TextAt D.TextAt_again G_TextAt_again (hr.mono (by decide)) (pv 0) (pa_cons (pv 2) (pa_cons (pv 4) pa_nil))) pa_nil))))
    (pss_one (ps_aug (i := 4) sc_TextAt_fold.nd rfl (Or.inl rfl) pe_int ip_add))) (pss_one (ps_if (pt_cmpR op_ne (pv 5) (pe_glob (v := .str _) (by rfl) c_SHUT ⟨_, rfl⟩) (nomark _)) (pss_one (ps_set (i := 2) sc_TextAt_fold.nd rfl (Or.inl rfl) (pe_mtP D.TextAt D.TextAt_behind G_TextAt_behind (hr.mono (by decide)) (pv 0) (pa_cons (pv 2) (pa_cons (pe_mtP D.TextAt D.TextAt_letter G_TextAt_letter (hr.mono (by decide)) (pv 0) (pa_cons (pv 5) pa_nil)) pa_nil))))) pss_nil)))))))
    (pss_one (ps_ret (pv 2))))), ?_⟩
    walk_at "rd"
    refine ⟨by decide, fun wl hw => ?_⟩
    walk_at "rd"
    walk_at "gg"
    obtain ⟨Pv, hP⟩ := inv_bi (fun (r : List Nat) (σ : St) (H' : Hp) => ∃ (m : List Nat) (o : Option (List Nat)) (wt : List (Option (List Nat))) (k : Int) (o5 : Option V), m ++ r = l ∧ σ = [some (.ref a), some (.str (tx l)), some (ovT o), some (.ref wl), some (.int k), o5] ∧
      Same H H' ∧ H' wl = some (.lst (wt.map ovT)) ∧ wt.length ≤ m.length ∧ PT.run (PT.fst n) ⟨o, wt⟩ r = some ⟨some x, []⟩)
    refine PT.loop_sfx Pv ((hP _ _ _).mpr ⟨[], none, [], 0, _, rfl, rfl, Same.new hw, upd_same, Nat.le_refl _, hrun⟩) (fun c r σ H1 _ hp => ?_) (fun σ H1 hp => ?_)
    · obtain ⟨m, o, wt, k, o5, el, rfl, sm, hw1, hle, hr1⟩ := (hP _ _ _).mp hp
      clear hp
      obtain ⟨s', hs1, hs2⟩ := PT.run_step hr1
      have el2 : (m ++ [c]) ++ r = l := by rw [← el]; simp
      have ml1 : (m ++ [c]).length = m.length + 1 := by simp
      have hml : m.length < 20000 := by
        have := congrArg List.length el
        rw [List.length_append, List.length_cons] at this
        omega
      have bd : (20000 : Nat) ≤ sizeLine := by decide
      have ha1 := sm _ _ ha
      have fin : ∀ (o' : Option (List Nat)) (wt' : List (Option (List Nat))) (k' : Int) (u : V) (o5 : Option V) H', u = ovT o' → wt'.length ≤ wt.length + 1 → Same H H' → H' wl = some (.lst (wt'.map ovT)) → s' = ⟨o', wt'⟩ → Pv r [some (.ref a), some (.str (tx l)), some u, some (.ref wl), some (.int k'), o5] H' := fun o' wt' k' u o5 H' eu ew e1 e2 es => by
        subst eu es
        exact (hP _ _ _).mpr ⟨m ++ [c], o', wt', k', o5, el2, rfl, e1, e2, by omega, hs2⟩
      clear el el2
      unfold PT.fst at hs1
      walk_at "rd"
      by_cases h40 : c = 40
      · subst h40
        rw [if_pos rfl] at hs1
        cases hs1
        walk_at "rd"
        walk_at "gg"
        refine ⟨by rw [List.length_map]; omega, fin none (wt ++ [o]) k _ _ _ rfl (by rw [List.length_append]; exact Nat.le_refl _) (Same.lay sm hw) (by rw [upd_same, List.map_append]; rfl) rfl⟩
      · rw [if_neg h40] at hs1
        by_cases h35 : c = 35
        · subst h35
          rw [if_pos rfl] at hs1
          cases o with
          | none => cases hs1
          | some y =>
            cases hg : wt.getLast? with
            | none =>
              rw [hg] at hs1
              cases hs1
            | some v =>
              rw [hg] at hs1
              dsimp only at hs1
              split at hs1
              rotate_left
              · cases hs1
              rename_i hsz
              cases hs1
              have hll := PT.last_len hg
              walk_at "rd"
              walk_at "gg"
              have nwa : a ≠ wl := ne_of_none ha hw
              have ha2 : upd H1 wl (HO.lst (List.map ovT wt).dropLast) a = some (.ins Z.c_TextAt dx (fldN n)) := by
                rw [upd_ne nwa]
                exact ha1
              refine ⟨rfl, _, PT.last_map hg, dx, _, ha2, rfl, a, dx, n, y, _, rfl, ha2, hn, (by rw [List.length_append, PT.times_len] at hsz; omega), a, dx, n, v, _, rfl, ha2, hsz, ?_⟩
              walk_at "gg"
              exact fin _ wt.dropLast _ _ _ _ rfl (by omega) (Same.lay sm hw) (by rw [upd_same, PT.map_dropLast']) rfl
        · rw [if_neg h35] at hs1
          by_cases h41 : c = 41
          · subst h41
            rw [if_pos rfl] at hs1
            cases hs1
            walk_at "rd"
            walk_at "gg"
            exact fin o wt k _ _ _ rfl (Nat.le_succ _) sm hw1 rfl
          · rw [if_neg h41] at hs1
            split at hs1
            rotate_left
            · cases hs1
            rename_i hsz
            cases hs1
            walk_at "rd"
            walk_at "gg"
            exact ⟨rfl, rfl, _, _, rfl, a, dx, n, o, [c], rfl, ha1, hsz, fin _ wt _ _ _ _ rfl (Nat.le_succ _) sm hw1 rfl⟩
    · obtain ⟨m, o, wt, k, o5, el, rfl, sm, hw1, hle, hr1⟩ := (hP _ _ _).mp hp
      cases hr1
      walk_at "gg"
      exact q _ sm
def spFoldL (C : Addr) : Sp := fun vs H Q _ => ∃ (a dx : Addr) (n : Nat) (l : List Nat) (x : Nat), vs = [.ref a, .str (tx l)] ∧ H a = some (.ins C dx (fldN n)) ∧ n < 10 ^ 60 ∧ l.length ≤ 20000 ∧ PT.run (PT.lst n) ⟨none, []⟩ l = some ⟨some x, []⟩ ∧ 1 ≤ n ∧ ∀ H', Same H H' → Q (.int ((x : Nat) : Int)) H'
theorem ok_LengthAt_fold (D : Ds K mg Z) (B : Bt mg) (C0 : Cs mg) : FnOk P w K mg base CX0 3 Z.a_LengthAt_fold Z.d_LengthAt_fold P_LengthAt_fold (spFoldL Z.c_LengthAt) := by
  have G_LengthAt_behind := ok_LengthAt_behind (P := P) (w := w) (base := base) D B C0
  have G_LengthAt_again := ok_LengthAt_again (P := P) (w := w) (base := base) D B C0
  have G_LengthAt_letter := ok_LengthAt_letter (P := P) (w := w) (base := base) D B C0
  obtain ⟨⟨t_LIMIT, c_LIMIT⟩, ⟨t_ALPHABET, c_ALPHABET⟩, ⟨t_MAX_TEXT, c_MAX_TEXT⟩, ⟨t_MAX_SIGNS, c_MAX_SIGNS⟩, ⟨t_MAX_DEPTH, c_MAX_DEPTH⟩, ⟨t_OPEN, c_OPEN⟩, ⟨t_SHUT, c_SHUT⟩, ⟨t_AGAIN, c_AGAIN⟩⟩ := C0
  refine D.LengthAt_fold.F.ok sc_LengthAt_fold (fun vs H Q E h => ?_) (fun cdv A outer s H vs Q E hr h => ?_)
  · obtain ⟨a, dx, n, l, x, rfl, _⟩ := h
    rfl
  · obtain ⟨a, dx, n, l, x, rfl, ha, hn, hlen, hrun, hn1, q⟩ := h
    refine ⟨_, (pss_cons (ps_par3 (i := 2) (j := 3) (l := 4) (by rfl) sc_LengthAt_fold.nd rfl rfl rfl (by decide) (by decide) (by decide) rfl rfl rfl (pa_cons pe_non (pa_cons (pe_lst pa_nil) (pa_cons pe_int pa_nil))) (by rfl))
    (pss_cons (ps_for PassesOwn.never rfl (pi_str (pv 1)) (pg_name (i := 5) sc_LengthAt_fold.nd rfl (Or.inl rfl))
      (pss_one (ps_if (pt_cmpR op_eq (pv 5) (pe_glob (v := .str _) (by rfl) c_OPEN ⟨_, rfl⟩) (nomark _)) (pss_cons (ps_expr (pe_lm PySem.F.plainAttrs_list PySem.F.slot_list_append PySem.F.type_list_append mt_append (pv 3) (pa_cons (pv 2) pa_nil)))
    (pss_one (ps_set (i := 2) sc_LengthAt_fold.nd rfl (Or.inl rfl) pe_non))) (pss_one (ps_if (pt_cmpR op_eq (pv 5) (pe_glob (v := .str _) (by rfl) c_AGAIN ⟨_, rfl⟩) (nomark _)) (pss_cons (ps_set (i := 2) sc_LengthAt_fold.nd rfl (Or.inl rfl) (pe_mtP D.LengthAt D.LengthAt_behind G_LengthAt_behind (hr.mono (by decide)) (pv 0) (pa_cons (pe_lm0 PySem.F.plainAttrs_list PySem.F.slot_list_pop PySem.F.type_list_pop mt_pop (pv 3)) (pa_cons (pe_mtP D.LengthAt D.LengthAt_again G_LengthAt_again (hr.mono (by decide)) (pv 0) (pa_cons (pv 2) (pa_cons (pv 4) pa_nil))) pa_nil))))
    (pss_one (ps_aug (i := 4) sc_LengthAt_fold.nd rfl (Or.inl rfl) pe_int ip_add))) (pss_one (ps_if (pt_cmpR op_ne (pv 5) (pe_glob (v := .str _) (by rfl) c_SHUT ⟨_, rfl⟩) (nomark _)) (pss_one (ps_set (i := 2) sc_LengthAt_fold.nd rfl (Or.inl rfl) (pe_mtP D.LengthAt D.LengthAt_behind G_LengthAt_behind (hr.mono (by decide)) (pv 0) (pa_cons (pv 2) (pa_cons (pe_mtP D.LengthAt D.LengthAt_letter G_LengthAt_letter (hr.mono (by decide)) (pv 0) (pa_cons (pv 5) pa_nil)) pa_nil))))) pss_nil)))))))
    (pss_one (ps_ret (pv 2))))), ?_⟩
    walk_at "rd"
    refine ⟨by decide, fun wl hw => ?_⟩
    walk_at "rd"
    walk_at "gg"
    obtain ⟨Pv, hP⟩ := inv_bi (fun (r : List Nat) (σ : St) (H' : Hp) => ∃ (m : List Nat) (o : Option (Nat)) (wt : List (Option (Nat))) (k : Int) (o5 : Option V), m ++ r = l ∧ σ = [some (.ref a), some (.str (tx l)), some (ovL o), some (.ref wl), some (.int k), o5] ∧
      Same H H' ∧ H' wl = some (.lst (wt.map ovL)) ∧ wt.length ≤ m.length ∧ PT.run (PT.lst n) ⟨o, wt⟩ r = some ⟨some x, []⟩)
    refine PT.loop_sfx Pv ((hP _ _ _).mpr ⟨[], none, [], 0, _, rfl, rfl, Same.new hw, upd_same, Nat.le_refl _, hrun⟩) (fun c r σ H1 _ hp => ?_) (fun σ H1 hp => ?_)
    · obtain ⟨m, o, wt, k, o5, el, rfl, sm, hw1, hle, hr1⟩ := (hP _ _ _).mp hp
      clear hp
      obtain ⟨s', hs1, hs2⟩ := PT.run_step hr1
      have el2 : (m ++ [c]) ++ r = l := by rw [← el]; simp
      have ml1 : (m ++ [c]).length = m.length + 1 := by simp
      have hml : m.length < 20000 := by
        have := congrArg List.length el
        rw [List.length_append, List.length_cons] at this
        omega
      have bd : (20000 : Nat) ≤ sizeLine := by decide
      have ha1 := sm _ _ ha
      have fin : ∀ (o' : Option (Nat)) (wt' : List (Option (Nat))) (k' : Int) (u : V) (o5 : Option V) H', u = ovL o' → wt'.length ≤ wt.length + 1 → Same H H' → H' wl = some (.lst (wt'.map ovL)) → s' = ⟨o', wt'⟩ → Pv r [some (.ref a), some (.str (tx l)), some u, some (.ref wl), some (.int k'), o5] H' := fun o' wt' k' u o5 H' eu ew e1 e2 es => by
        subst eu es
        exact (hP _ _ _).mpr ⟨m ++ [c], o', wt', k', o5, el2, rfl, e1, e2, by omega, hs2⟩
      clear el el2
      unfold PT.lst at hs1
      walk_at "rd"
      by_cases h40 : c = 40
      · subst h40
        rw [if_pos rfl] at hs1
        cases hs1
        walk_at "rd"
        walk_at "gg"
        refine ⟨by rw [List.length_map]; omega, fin none (wt ++ [o]) k _ _ _ rfl (by rw [List.length_append]; exact Nat.le_refl _) (Same.lay sm hw) (by rw [upd_same, List.map_append]; rfl) rfl⟩
      · rw [if_neg h40] at hs1
        by_cases h35 : c = 35
        · subst h35
          rw [if_pos rfl] at hs1
          cases o with
          | none => cases hs1
          | some y =>
            cases hg : wt.getLast? with
            | none =>
              rw [hg] at hs1
              cases hs1
            | some v =>
              rw [hg] at hs1
              dsimp only at hs1
              split at hs1
              rotate_left
              · cases hs1
              rename_i hsz
              cases hs1
              have hll := PT.last_len hg
              walk_at "rd"
              walk_at "gg"
              have nwa : a ≠ wl := ne_of_none ha hw
              have ha2 : upd H1 wl (HO.lst (List.map ovL wt).dropLast) a = some (.ins Z.c_LengthAt dx (fldN n)) := by
                rw [upd_ne nwa]
                exact ha1
              refine ⟨rfl, _, PT.last_map hg, dx, _, ha2, rfl, a, dx, n, y, _, rfl, ha2, hn, hsz, a, dx, n, v, _, rfl, ha2, ?_⟩
              walk_at "gg"
              exact fin _ wt.dropLast _ _ _ _ rfl (by omega) (Same.lay sm hw) (by rw [upd_same, PT.map_dropLast']) rfl
        · rw [if_neg h35] at hs1
          by_cases h41 : c = 41
          · subst h41
            rw [if_pos rfl] at hs1
            cases hs1
            walk_at "rd"
            walk_at "gg"
            exact fin o wt k _ _ _ rfl (Nat.le_succ _) sm hw1 rfl
          · rw [if_neg h41] at hs1
            cases hs1
            walk_at "rd"
            walk_at "gg"
            exact ⟨rfl, rfl, _, _, rfl, a, dx, n, o, 1, rfl, ha1, fin _ wt _ _ _ _ rfl (Nat.le_succ _) sm hw1 rfl⟩
    · obtain ⟨m, o, wt, k, o5, el, rfl, sm, hw1, hle, hr1⟩ := (hP _ _ _).mp hp
      cases hr1
      walk_at "gg"
      exact q _ sm
end
section
open PT (tx sg)
variable {P : Program} {w : World} {K : PySem.W.Frag} {mg : Str → Option Value} {base : Heap} {Z : Ad}
/-! ### class Pattern -/
/-- a text of a pattern -/
structure Gd (l : List Nat) : Prop where
  sq : ∃ d, PT.Sq d l ∧ d ≤ 24
  len : l.length ≤ 20000
theorem Gd.pos {l : List Nat} (h : Gd l) : 1 ≤ l.length := by
  obtain ⟨d, s, _⟩ := h.sq
  exact s.pos
theorem Gd.isPat {l : List Nat} (h : Gd l) : isPat (.str (tx l)) = true := by
  obtain ⟨d, s, hd⟩ := h.sq
  obtain ⟨x, e, hx, he, _⟩ := s.depL
  have h1 := h.pos
  have h2 := h.len
  show ((decide (1 ≤ (tx l).length) && decide ((tx l).length ≤ 20000)) && (match PT.depL l.toArray.toList with
    | some d => decide (d ≤ 24)
    | none => false)) = true
  rw [PT.len_tx, decide_eq_true h1, decide_eq_true h2, show l.toArray.toList = l from by simp, he]
  exact decide_eq_true (by omega)
/-- the instance at a is that of the text l -/
def PatO (C : Addr) (H : Hp) (a : Addr) (l : List Nat) : Prop := ∃ (dx pp : Addr) (dd ww : Nat) (fs : List Str), SlX.Slt H a C dx [some (.int ((dd : Nat) : Int)), some (.ref pp), some (.str (tx l)), some (.int ((ww : Nat) : Int))] ∧ H pp = some (.tup (fs.map V.str)) ∧ PT.depL l = some dd ∧ PT.parL l = some fs ∧ PT.wtL l = some ww ∧ Gd l
theorem PatO.same {C : Addr} {H H' : Hp} {a : Addr} {l : List Nat} (e : Same H H') (h : PatO C H a l) : PatO C H' a l := by
  obtain ⟨dx, pp, dd, ww, fs, h1, h2, h3⟩ := h
  exact ⟨dx, pp, dd, ww, fs, Same.slt e h1, e _ _ h2, h3⟩
def spPatI (C : Addr) : Sp := fun vs H Q _ => ∃ (x dx : Addr) (l : List Nat), vs = [.ref x, .str (tx l)] ∧ H x = some (.ins C dx []) ∧ dx ≠ x ∧ Gd l ∧
  ∀ H', (∀ b o, b ≠ x → b ≠ dx → H b = some o → H' b = some o) → PatO C H' x l → Q .non H'
theorem ok_Pattern___init__ (D : Ds K mg Z) (B : Bt mg) (C0 : Cs mg) : FnOk P w K mg base CX0 5 Z.a_Pattern___init__ Z.d_Pattern___init__ P_Pattern___init__ (spPatI Z.c_Pattern) := by
  have G_is_pattern := ok_is_pattern (P := P) (w := w) (base := base) D B C0
  have G_depth_of := ok_depth_of (P := P) (w := w) (base := base) D B C0
  have G_parts_of := ok_parts_of (P := P) (w := w) (base := base) D B C0
  have G_weight_of := ok_weight_of (P := P) (w := w) (base := base) D B C0
  obtain ⟨⟨t_LIMIT, c_LIMIT⟩, ⟨t_ALPHABET, c_ALPHABET⟩, ⟨t_MAX_TEXT, c_MAX_TEXT⟩, ⟨t_MAX_SIGNS, c_MAX_SIGNS⟩, ⟨t_MAX_DEPTH, c_MAX_DEPTH⟩, ⟨t_OPEN, c_OPEN⟩, ⟨t_SHUT, c_SHUT⟩, ⟨t_AGAIN, c_AGAIN⟩⟩ := C0
  refine D.Pattern___init__.F.ok sc_Pattern___init__ (fun vs H Q E h => ?_) (fun cdv A outer s H vs Q E hr h => ?_)
  · obtain ⟨x, dx, l, rfl, _⟩ := h
    rfl
  · obtain ⟨x, dx, l, rfl, hx, hne, gd, q⟩ := h
    refine ⟨_, (pss_cons (ps_if (pt_not (pt_val (pe_df D.is_pattern G_is_pattern (hr.mono (by decide)) (by rfl) (pa_cons (pv 1) pa_nil)))) (pss_one ps_dead) pss_nil)
    (pss_cons (SlX.ps_sl (pv 0) (pv 1))
    (pss_cons (SlX.ps_sl (pv 0) (pe_df D.depth_of G_depth_of (hr.mono (by decide)) (by rfl) (pa_cons (pv 1) pa_nil)))
    (pss_cons (SlX.ps_sl (pv 0) (pe_df D.parts_of G_parts_of (hr.mono (by decide)) (by rfl) (pa_cons (pv 1) pa_nil)))
    (pss_one (SlX.ps_sl (pv 0) (pe_df D.weight_of G_weight_of (hr.mono (by decide)) (by rfl) (pa_cons (pv 1) pa_nil)))))))), ?_⟩
    obtain ⟨d, sq, hd⟩ := gd.sq
    obtain ⟨dd, e, hdd, edp, _⟩ := sq.depL
    obtain ⟨fs, n, hfs, epar, rpar⟩ := sq.parL
    obtain ⟨ww, hww, ewt, rwt⟩ := sq.wtL (by omega)
    have gl := gd.len
    walk_at "rd"
    refine ⟨_, rfl, okv_str (by omega), fun H1 e1 => ?_⟩
    rw [gd.isPat]
    walk_at "rd"
    walk_at "gg"
    refine ⟨_, rfl, _, rfl, x, Z.c_Pattern, dx, Z.q_Pattern_own_text, [], 2, rfl, .inl ⟨e1 _ _ hx, rfl⟩, D.Pattern.sc, D.Pattern_own_text, ?_⟩
    refine later ?_
    refine ⟨_, rfl, l, rfl, fun H2 e2 => ?_⟩
    refine ⟨_, rfl, x, Z.c_Pattern, dx, Z.q_Pattern_own_depth, _, 0, rfl, Same.slt e2 (SlX.slH_slt hne), D.Pattern.sc, D.Pattern_own_depth, ?_⟩
    refine later ?_
    refine ⟨_, rfl, l, fs, n, rfl, gl, rpar, fun p H3 e3 hp => ?_⟩
    refine ⟨_, rfl, x, Z.c_Pattern, dx, Z.q_Pattern_own_parts, _, 1, rfl, Same.slt e3 (SlX.slH_slt hne), D.Pattern.sc, D.Pattern_own_parts, ?_⟩
    refine later ?_
    refine ⟨_, rfl, l, ww, rfl, rwt, ?_⟩
    refine ⟨_, rfl, x, Z.c_Pattern, dx, Z.q_Pattern_own_weight, _, 3, rfl, SlX.slH_slt hne, D.Pattern.sc, D.Pattern_own_weight, ?_⟩
    have dv : PT.depV l = .int ((dd : Nat) : Int) := by
      unfold PT.depV
      rw [edp]
    rw [dv] at e3
    have x3 := e3 x _ upd_same
    have d3 := e3 dx (.xd []) (by unfold SlX.slH; rw [upd_ne hne, upd_same])
    have px : p ≠ x := fun z => by
      rw [z, x3] at hp
      exact absurd (Option.some.inj hp) (by unfold SlX.SlO; intro z; cases z)
    have pd : p ≠ dx := fun z => by
      rw [z, d3] at hp
      cases hp
    rw [dv]
    refine q _ (fun b o h1 h2 hb => ?_) ⟨dx, p, dd, ww, fs, SlX.slH_slt hne, ?_, edp, epar, ewt, gd⟩
    · rw [SlX.slH_ne h1 h2, SlX.slH_ne h1 h2]
      refine e3 _ _ ?_
      rw [SlX.slH_ne h1 h2]
      refine e2 _ _ ?_
      rw [SlX.slH_ne h1 h2]
      exact e1 _ _ hb
    · rw [SlX.slH_ne px pd, SlX.slH_ne px pd]
      exact hp
/-- Pattern(text) -/
theorem mk_pat {C : Addr} {H1 : Hp} {l : List Nat} {Q : Addr → Hp → Prop} {E : XK} (gd : Gd l) (q : ∀ x H2, Same H1 H2 → PatO C H2 x l → Q x H2) :
    ∀ x dx, H1 x = none → H1 dx = none → dx ≠ x → spPatI C [.ref x, .str (tx l)] (upd (upd H1 dx (.own x)) x (.ins C dx [])) (fun v H2 => v = .non ∧ Q x H2) E := by
  intro x dx hx hd hne
  refine ⟨x, dx, l, rfl, upd_same, hne, gd, fun H' low po => ⟨rfl, q x _ (fun b o eb => ?_) po⟩⟩
  refine low b o (ne_of_none eb hx) (ne_of_none eb hd) ?_
  rw [upd_ne (ne_of_none eb hx), upd_ne (ne_of_none eb hd)]
  exact eb
def spPr (C : Addr) (f : List Nat → Addr → Nat → Nat → V) : Sp := fun vs H Q _ => ∃ (a dx pp : Addr) (l : List Nat) (dd ww : Nat), vs = [.ref a] ∧ SlX.Slt H a C dx [some (.int ((dd : Nat) : Int)), some (.ref pp), some (.str (tx l)), some (.int ((ww : Nat) : Int))] ∧ Q (f l pp dd ww) H
theorem ok_Pattern_depth (D : Ds K mg Z) (B : Bt mg) (C0 : Cs mg) : FnOk P w K mg base CX0 1 Z.a_Pattern_depth Z.d_Pattern_depth P_Pattern_depth (spPr Z.c_Pattern (fun _ _ dd _ => .int ((dd : Nat) : Int))) := by
  obtain ⟨⟨t_LIMIT, c_LIMIT⟩, ⟨t_ALPHABET, c_ALPHABET⟩, ⟨t_MAX_TEXT, c_MAX_TEXT⟩, ⟨t_MAX_SIGNS, c_MAX_SIGNS⟩, ⟨t_MAX_DEPTH, c_MAX_DEPTH⟩, ⟨t_OPEN, c_OPEN⟩, ⟨t_SHUT, c_SHUT⟩, ⟨t_AGAIN, c_AGAIN⟩⟩ := C0
  refine D.Pattern_depth.F.ok sc_Pattern_depth (fun vs H Q E h => ?_) (fun cdv A outer s H vs Q E hr h => ?_)
  · obtain ⟨a, dx, pp, l, dd, ww, rfl, _⟩ := h
    rfl
  · obtain ⟨a, dx, pp, l, dd, ww, rfl, hs, q⟩ := h
    refine ⟨_, (pss_one (ps_ret (pe_slot D.Pattern D.Pattern_own_depth (pv 0)))), ?_⟩
    exact ⟨.ref a, rfl, a, dx, _, _, rfl, hs, rfl, q⟩
theorem same_plain {H : Hp} {o ox : Addr} {i1 i2 : HO} (ho : H o = none) (hox : H ox = none) : Same H (upd (upd (upd H ox (.own o)) o i1) o i2) := fun b u e => by
  rw [upd_ne (ne_of_none e ho), upd_ne (ne_of_none e ho), upd_ne (ne_of_none e hox)]
  exact e
/-! lengths and texts at a number -/
def spPLen (C : Addr) : Sp := fun vs H Q _ => ∃ (a : Addr) (l : List Nat) (n x : Nat), vs = [.ref a, .int ((n : Nat) : Int)] ∧ PatO C H a l ∧ 1 ≤ n ∧ n < 10 ^ 60 ∧ PT.run (PT.lst n) ⟨none, []⟩ l = some ⟨some x, []⟩ ∧ ∀ H', Same H H' → Q (.int ((x : Nat) : Int)) H'
theorem ok_Pattern_length (D : Ds K mg Z) (B : Bt mg) (C0 : Cs mg) : FnOk P w K mg base CX0 4 Z.a_Pattern_length Z.d_Pattern_length P_Pattern_length (spPLen Z.c_Pattern) := by
  have G_require_number := ok_require_number (P := P) (w := w) (base := base) D B C0
  have G_LengthAt_fold := ok_LengthAt_fold (P := P) (w := w) (base := base) D B C0
  have G_LengthAt___init__ := ok_LengthAt___init__ (P := P) (w := w) (base := base) D B C0
  obtain ⟨⟨t_LIMIT, c_LIMIT⟩, ⟨t_ALPHABET, c_ALPHABET⟩, ⟨t_MAX_TEXT, c_MAX_TEXT⟩, ⟨t_MAX_SIGNS, c_MAX_SIGNS⟩, ⟨t_MAX_DEPTH, c_MAX_DEPTH⟩, ⟨t_OPEN, c_OPEN⟩, ⟨t_SHUT, c_SHUT⟩, ⟨t_AGAIN, c_AGAIN⟩⟩ := C0
  refine D.Pattern_length.F.ok sc_Pattern_length (fun vs H Q E h => ?_) (fun cdv A outer s H vs Q E hr h => ?_)
  · obtain ⟨a, l, n, x, rfl, _⟩ := h
    rfl
  · obtain ⟨a, l, n, x, rfl, ⟨dx, pp, dd, ww, fs, hs, _, _, _, _, gd⟩, h1, h60, hrun, q⟩ := h
    refine ⟨_, (pss_cons (ps_expr (pe_df D.require_number G_require_number (hr.mono (by decide)) (by rfl) (pa_cons (pv 1) pa_nil)))
    (pss_one (ps_ret (pe_mtP D.LengthAt D.LengthAt_fold G_LengthAt_fold (hr.mono (by decide)) (pe_mkP D.LengthAt D.LengthAt___init__ G_LengthAt___init__ (hr.mono (by decide)) (by rfl) (pa_cons (pv 1) pa_nil)) (pa_cons (pe_slot D.Pattern D.Pattern_own_text (pv 0)) pa_nil))))), ?_⟩
    have gl := gd.len
    walk_at "rd"
    refine ⟨n, rfl, h1, h60, ?_⟩
    walk_at "gg"
    intro o ox ho hox hne
    have sm := same_plain (i1 := HO.ins Z.c_LengthAt ox []) (i2 := HO.ins Z.c_LengthAt ox (fldN n)) ho hox
    exact ⟨o, ox, n, rfl, upd_same, rfl, ox, _, upd_same, rfl, dx, _, Same.slt sm hs, _, rfl, o, ox, n, l, x, rfl, upd_same, h60, gl, hrun, h1, fun H' e => q H' (sm.trans e)⟩
def spPCall (C : Addr) : Sp := fun vs H Q _ => ∃ (a : Addr) (l : List Nat) (n : Nat) (x : List Nat), vs = [.ref a, .int ((n : Nat) : Int)] ∧ PatO C H a l ∧ 1 ≤ n ∧ n < 10 ^ 17 ∧ PT.run (PT.lst n) ⟨none, []⟩ l = some ⟨some x.length, []⟩ ∧ PT.run (PT.fst n) ⟨none, []⟩ l = some ⟨some x, []⟩ ∧ x.length ≤ 100000 ∧ ∀ H', Same H H' → Q (.str (tx x)) H'
theorem ok_Pattern___call__ (D : Ds K mg Z) (B : Bt mg) (C0 : Cs mg) : FnOk P w K mg base CX0 5 Z.a_Pattern___call__ Z.d_Pattern___call__ P_Pattern___call__ (spPCall Z.c_Pattern) := by
  have G_require_number := ok_require_number (P := P) (w := w) (base := base) D B C0
  have G_Pattern_length := ok_Pattern_length (P := P) (w := w) (base := base) D B C0
  have G_TextAt_fold := ok_TextAt_fold (P := P) (w := w) (base := base) D B C0
  have G_TextAt___init__ := ok_TextAt___init__ (P := P) (w := w) (base := base) D B C0
  obtain ⟨⟨t_LIMIT, c_LIMIT⟩, ⟨t_ALPHABET, c_ALPHABET⟩, ⟨t_MAX_TEXT, c_MAX_TEXT⟩, ⟨t_MAX_SIGNS, c_MAX_SIGNS⟩, ⟨t_MAX_DEPTH, c_MAX_DEPTH⟩, ⟨t_OPEN, c_OPEN⟩, ⟨t_SHUT, c_SHUT⟩, ⟨t_AGAIN, c_AGAIN⟩⟩ := C0
  refine D.Pattern___call__.F.ok sc_Pattern___call__ (fun vs H Q E h => ?_) (fun cdv A outer s H vs Q E hr h => ?_)
  · obtain ⟨a, l, n, x, rfl, _⟩ := h
    rfl
  · obtain ⟨a, l, n, x, rfl, po, h1, h17, hrun, hrun2, hx, q⟩ := h
    refine ⟨_, (pss_cons (ps_expr (pe_df D.require_number G_require_number (hr.mono (by decide)) (by rfl) (pa_cons (pv 1) pa_nil)))
    (pss_cons (ps_if (pt_cmpR op_gt (pe_mt D.Pattern D.Pattern_length G_Pattern_length (hr.mono (by decide)) (pv 0) (pa_cons (pv 1) pa_nil)) (pe_glob (v := .int _) (by rfl) c_MAX_TEXT ⟨_, rfl⟩) (nomark _)) (pss_one ps_dead) pss_nil)
    (pss_one (ps_ret (pe_mtP D.TextAt D.TextAt_fold G_TextAt_fold (hr.mono (by decide)) (pe_mkP D.TextAt D.TextAt___init__ G_TextAt___init__ (hr.mono (by decide)) (by rfl) (pa_cons (pv 1) pa_nil)) (pa_cons (pe_slot D.Pattern D.Pattern_own_text (pv 0)) pa_nil)))))), ?_⟩
    obtain ⟨dx, pp, dd, ww, fs, hs, _, _, _, _, gd⟩ := id po
    have gl := gd.len
    have h60 : n < 10 ^ 60 := Nat.lt_trans h17 (by decide)
    walk_at "rd"
    refine ⟨n, rfl, h1, h60, ?_⟩
    walk_at "gg"
    refine ⟨dx, _, hs, a, l, n, x.length, rfl, po, h1, h60, hrun, fun H1 e1 => ?_⟩
    have hgt : ¬ ((x.length : Int) > 100000) := by omega
    replace hs := Same.slt e1 hs
    walk_at "rd"
    walk_at "gg"
    intro o ox ho hox hne
    have sm := same_plain (i1 := HO.ins Z.c_TextAt ox []) (i2 := HO.ins Z.c_TextAt ox (fldN n)) ho hox
    exact ⟨o, ox, n, rfl, upd_same, rfl, ox, _, upd_same, rfl, dx, _, Same.slt sm hs, _, rfl, o, ox, n, l, x, rfl, upd_same, h17, gl, hrun2, h1, fun H' e => q H' (e1.trans (sm.trans e))⟩
/-! patterns put together -/
theorem Gd.rep {l : List Nat} (h : Gd l) (hd : ∃ d, PT.Sq d l ∧ d ≤ 23) (hl : l.length ≤ 19997) : Gd (40 :: (l ++ [41, 35])) := by
  obtain ⟨d, s, hd⟩ := hd
  exact ⟨⟨d + 1, .rep s, by omega⟩, by simp; omega⟩
theorem Gd.cat {l m : List Nat} (h : Gd l) (k : Gd m) (hl : l.length + m.length ≤ 20000) : Gd (l ++ m) := by
  obtain ⟨d, s, hd⟩ := h.sq
  obtain ⟨e, t, he⟩ := k.sq
  exact ⟨⟨24, .cat (s.mono hd) (t.mono he), Nat.le_refl _⟩, by rw [List.length_append]; exact hl⟩
theorem cat0 (l : List Nat) : Str.empty ++ tx l = tx l := by
  rw [show Str.empty = tx [] from rfl, PT.tx_append]
  rfl
theorem cat1 : Str.empty ++ sg 40 = tx [40] := by
  rw [PT.sg_tx]
  exact cat0 _
end
section
open PT (tx sg)
variable {P : Program} {w : World} {K : PySem.W.Frag} {mg : Str → Option Value} {base : Heap} {Z : Ad}
/-! ### where a pattern is refused -/
def spInst (C : Addr) : Sp := fun vs H Q _ => ∃ (a : Addr) (l : List Nat), vs = [.ref a] ∧ PatO C H a l ∧ Q (.bl false) H
theorem ok_is_patternI (D : Ds K mg Z) (B : Bt mg) (C0 : Cs mg) (Y : Tx K Z) : FnOk P w K mg base CX0 4 Z.a_is_pattern Z.d_is_pattern P_is_pattern (spInst Z.c_Pattern) := by
  have G_depth_of := ok_depth_of (P := P) (w := w) (base := base) D B C0
  obtain ⟨⟨t_LIMIT, c_LIMIT⟩, ⟨t_ALPHABET, c_ALPHABET⟩, ⟨t_MAX_TEXT, c_MAX_TEXT⟩, ⟨t_MAX_SIGNS, c_MAX_SIGNS⟩, ⟨t_MAX_DEPTH, c_MAX_DEPTH⟩, ⟨t_OPEN, c_OPEN⟩, ⟨t_SHUT, c_SHUT⟩, ⟨t_AGAIN, c_AGAIN⟩⟩ := C0
  refine D.is_pattern.F.ok sc_is_pattern (fun vs H Q E h => ?_) (fun cdv A outer s H vs Q E hr h => ?_)
  · obtain ⟨a, l, rfl, _⟩ := h
    rfl
  · obtain ⟨a, l, rfl, ⟨dx, pp, dd, ww, fs, hs, _⟩, q⟩ := h
    refine ⟨_, (pss_cons (ps_if (PW.pt (pw_or (pt_not (pt_val (pe_callB (call_isiSK (K := K) rfl (.type "str")) (by rfl) B.isinstance (by decide +kernel) (pa_cons (pv 0) (pa_cons (pe_bltn (v := .ty "str") (by rfl) B.str (by decide +kernel) rfl) pa_nil))))) (pw_or1 (pt_not (pt_chain op_le op_le pe_int (pe_callB call_len_str (by rfl) B.len (by decide +kernel) (pa_cons (pv 0) pa_nil)) (pe_glob (v := .int _) (by rfl) c_MAX_SIGNS ⟨_, rfl⟩)))))) (pss_one (ps_ret pe_bl)) pss_nil)
    (pss_cons (ps_set (i := 1) sc_is_pattern.nd rfl (Or.inl rfl) (pe_df D.depth_of G_depth_of (hr.mono (by decide)) (by rfl) (pa_cons (pv 0) pa_nil)))
    (pss_one (ps_ret (pe_and (pe_cmpR op_notN (pv 1) pe_non (nomark _)) (pe_one (pe_cmpR op_le (pv 1) (pe_glob (v := .int _) (by rfl) c_MAX_DEPTH ⟨_, rfl⟩) (nomark _)))))))), ?_⟩
    walk_at "rd"
    refine ⟨a, Z.c_Pattern, dx, _, .ty "str", false, rfl, rfl, fun w e => e, hs, D.Pattern.sc, D.Pattern.si, Y.ps, ?_⟩
    walk_at "rd"
    walk_at "gg"
/-- a value that is no text of a pattern, or one that is -/
def spIsp (K : PySem.W.Frag) (C : Addr) : Bool → Sp
  | true => sp1 K isPat
  | false => spInst C
theorem ok_isp (D : Ds K mg Z) (B : Bt mg) (C0 : Cs mg) (Y : Tx K Z) : FnOk P w K mg base CX0 4 Z.a_is_pattern Z.d_is_pattern P_is_pattern (fun vs H Q E => ∃ i, spIsp K Z.c_Pattern i vs H Q E) :=
  fnOk_ex fun i => match i with
    | true => ok_is_pattern D B C0
    | false => ok_is_patternI D B C0 Y
def NoP (K : PySem.W.Frag) (C : Addr) (H : Hp) (v : V) : Prop := (OkV K H v ∧ isPat v = false) ∨ ∃ a l, v = .ref a ∧ PatO C H a l
theorem NoP.same {C : Addr} {H H' : Hp} {v : V} (e : Same H H') (h : NoP K C H v) : NoP K C H' v := by
  rcases h with ⟨h, h2⟩ | ⟨a, l, h, h2⟩
  · exact .inl ⟨OkV.same e h, h2⟩
  · exact .inr ⟨a, l, h, h2.same e⟩
def spPatX (K : PySem.W.Frag) (C CE : Addr) : Sp := fun vs H Q E => ∃ (x dx : Addr) (v : V), vs = [.ref x, v] ∧ H x = some (.ins C dx []) ∧ dx ≠ x ∧
  ((∃ l, v = .str (tx l) ∧ Gd l ∧ ∀ H', (∀ b o, b ≠ x → b ≠ dx → H b = some o → H' b = some o) → PatO C H' x l → Q .non H') ∨ (NoP K C H v ∧ ∀ H', Same H H' → E (.ref CE) none H'))
theorem okX_Pattern___init__ (D : Ds K mg Z) (B : Bt mg) (C0 : Cs mg) (Y : Tx K Z) : FnOk P w K mg base (L2.CX P w) 5 Z.a_Pattern___init__ Z.d_Pattern___init__ P_Pattern___init__ (spPatX K Z.c_Pattern Z.c_InvalidPattern) := by
  have G_is_pattern := ok_isp (P := P) (w := w) (base := base) D B C0 Y
  have G_depth_of := ok_depth_of (P := P) (w := w) (base := base) D B C0
  have G_parts_of := ok_parts_of (P := P) (w := w) (base := base) D B C0
  have G_weight_of := ok_weight_of (P := P) (w := w) (base := base) D B C0
  obtain ⟨⟨t_LIMIT, c_LIMIT⟩, ⟨t_ALPHABET, c_ALPHABET⟩, ⟨t_MAX_TEXT, c_MAX_TEXT⟩, ⟨t_MAX_SIGNS, c_MAX_SIGNS⟩, ⟨t_MAX_DEPTH, c_MAX_DEPTH⟩, ⟨t_OPEN, c_OPEN⟩, ⟨t_SHUT, c_SHUT⟩, ⟨t_AGAIN, c_AGAIN⟩⟩ := C0
  refine okX D.Pattern___init__.F sc_Pattern___init__ (fun vs H Q E h => ?_) (fun cdv A outer s H vs Q E hr tk h => ?_)
  · obtain ⟨x, dx, v, rfl, _⟩ := h
    rfl
  · obtain ⟨x, dx, v, rfl, hx, hne, hh⟩ := h
    refine ⟨_, (pss_cons (ps_if (pt_not (pt_val (pe_df D.is_pattern G_is_pattern (hr.mono (by decide)) (by rfl) (pa_cons (pv 1) pa_nil)))) (pss_one (ps_raise rfl tk (pmk_new0 D.InvalidPattern (by rfl)))) pss_nil)
    (pss_cons (SlX.ps_sl (pv 0) (pv 1))
    (pss_cons (SlX.ps_sl (pv 0) (pe_df D.depth_of G_depth_of (hr.mono (by decide)) (by rfl) (pa_cons (pv 1) pa_nil)))
    (pss_cons (SlX.ps_sl (pv 0) (pe_df D.parts_of G_parts_of (hr.mono (by decide)) (by rfl) (pa_cons (pv 1) pa_nil)))
    (pss_one (SlX.ps_sl (pv 0) (pe_df D.weight_of G_weight_of (hr.mono (by decide)) (by rfl) (pa_cons (pv 1) pa_nil)))))))), ?_⟩
    rcases hh with ⟨l, rfl, gd, q⟩ | ⟨np, q⟩
    · obtain ⟨d, sq, hd⟩ := gd.sq
      obtain ⟨dd, e, hdd, edp, _⟩ := sq.depL
      obtain ⟨fs, n, hfs, epar, rpar⟩ := sq.parL
      obtain ⟨ww, hww, ewt, rwt⟩ := sq.wtL (by omega)
      have gl := gd.len
      walk_at "rd"
      refine ⟨true, _, rfl, okv_str (by omega), fun H1 e1 => ?_⟩
      rw [gd.isPat]
      walk_at "rd"
      walk_at "gg"
      refine ⟨_, rfl, _, rfl, x, Z.c_Pattern, dx, Z.q_Pattern_own_text, [], 2, rfl, .inl ⟨e1 _ _ hx, rfl⟩, D.Pattern.sc, D.Pattern_own_text, ?_⟩
      refine later ?_
      refine ⟨_, rfl, l, rfl, fun H2 e2 => ?_⟩
      refine ⟨_, rfl, x, Z.c_Pattern, dx, Z.q_Pattern_own_depth, _, 0, rfl, Same.slt e2 (SlX.slH_slt hne), D.Pattern.sc, D.Pattern_own_depth, ?_⟩
      refine later ?_
      refine ⟨_, rfl, l, fs, n, rfl, gl, rpar, fun p H3 e3 hp => ?_⟩
      refine ⟨_, rfl, x, Z.c_Pattern, dx, Z.q_Pattern_own_parts, _, 1, rfl, Same.slt e3 (SlX.slH_slt hne), D.Pattern.sc, D.Pattern_own_parts, ?_⟩
      refine later ?_
      refine ⟨_, rfl, l, ww, rfl, rwt, ?_⟩
      refine ⟨_, rfl, x, Z.c_Pattern, dx, Z.q_Pattern_own_weight, _, 3, rfl, SlX.slH_slt hne, D.Pattern.sc, D.Pattern_own_weight, ?_⟩
      have dv : PT.depV l = .int ((dd : Nat) : Int) := by
        unfold PT.depV
        rw [edp]
      rw [dv] at e3
      have x3 := e3 x _ upd_same
      have d3 := e3 dx (.xd []) (by unfold SlX.slH; rw [upd_ne hne, upd_same])
      have px : p ≠ x := fun z => by
        rw [z, x3] at hp
        exact absurd (Option.some.inj hp) (by unfold SlX.SlO; intro z; cases z)
      have pd : p ≠ dx := fun z => by
        rw [z, d3] at hp
        cases hp
      rw [dv]
      refine q _ (fun b o h1 h2 hb => ?_) ⟨dx, p, dd, ww, fs, SlX.slH_slt hne, ?_, edp, epar, ewt, gd⟩
      · rw [SlX.slH_ne h1 h2, SlX.slH_ne h1 h2]
        refine e3 _ _ ?_
        rw [SlX.slH_ne h1 h2]
        refine e2 _ _ ?_
        rw [SlX.slH_ne h1 h2]
        exact e1 _ _ hb
      · rw [SlX.slH_ne px pd, SlX.slH_ne px pd]
        exact hp
    · walk_at "rd"
      rcases np with ⟨ok, np⟩ | ⟨a, l, rfl, po⟩
      · refine ⟨true, _, rfl, ok, fun H1 e1 => ?_⟩
        rw [np]
        walk_at "rd"
        walk_at "gg"
      · refine ⟨false, a, l, rfl, po, ?_⟩
        have q2 := q H (Same.refl _)
        walk_at "rd"
        walk_at "gg"
/-- Pattern(text), where it is one -/
theorem mkX_yes {C CE : Addr} {H1 : Hp} {l : List Nat} {Q : Addr → Hp → Prop} {E : XK} (gd : Gd l) (q : ∀ x H2, Same H1 H2 → PatO C H2 x l → Q x H2) :
    ∀ x dx, H1 x = none → H1 dx = none → dx ≠ x → spPatX K C CE [.ref x, .str (tx l)] (upd (upd H1 dx (.own x)) x (.ins C dx [])) (fun v H2 => v = .non ∧ Q x H2) E := by
  intro x dx hx hd hne
  refine ⟨x, dx, _, rfl, upd_same, hne, .inl ⟨l, rfl, gd, fun H' low po => ⟨rfl, q x _ (fun b o eb => ?_) po⟩⟩⟩
  refine low b o (ne_of_none eb hx) (ne_of_none eb hd) ?_
  rw [upd_ne (ne_of_none eb hx), upd_ne (ne_of_none eb hd)]
  exact eb
/-- and where it is none -/
theorem mkX_no {C CE : Addr} {H1 : Hp} {v : V} {Q : Addr → Hp → Prop} {E : XK} (np : NoP K C H1 v) (q : ∀ H2, Same H1 H2 → E (.ref CE) none H2) :
    ∀ x dx, H1 x = none → H1 dx = none → dx ≠ x → spPatX K C CE [.ref x, v] (upd (upd H1 dx (.own x)) x (.ins C dx [])) (fun v H2 => v = .non ∧ Q x H2) E := by
  intro x dx hx hd hne
  have sm : Same H1 (upd (upd H1 dx (.own x)) x (.ins C dx [])) := fun b o eb => by
    rw [upd_ne (ne_of_none eb hx), upd_ne (ne_of_none eb hd)]
    exact eb
  exact ⟨x, dx, v, rfl, upd_same, hne, .inr ⟨np.same sm, fun H' e => q H' (sm.trans e)⟩⟩
/-- made or refused -/
def Mk2 (C CE : Addr) (H : Hp) (m : List Nat) (Q : VK) (E : XK) : Prop := (Gd m ∧ ∀ x H', Same H H' → PatO C H' x m → Q (.ref x) H') ∨ (isPat (.str (tx m)) = false ∧ ∀ H', Same H H' → E (.ref CE) none H')
theorem Mk2.go {C CE : Addr} {H : Hp} {m : List Nat} {Q : VK} {E : XK} (hl : m.length ≤ 1000000) (h : Mk2 C CE H m Q E) :
    ∀ x dx, H x = none → H dx = none → dx ≠ x → spPatX K C CE [.ref x, .str (tx m)] (upd (upd H dx (.own x)) x (.ins C dx [])) (fun v H2 => v = .non ∧ Q (.ref x) H2) E := by
  rcases h with ⟨gd, q⟩ | ⟨np, q⟩
  · exact mkX_yes (Q := fun x H2 => Q (.ref x) H2) gd q
  · exact mkX_no (Q := fun x H2 => Q (.ref x) H2) (.inl ⟨okv_str hl, np⟩) q
def spRepX (C CE : Addr) : Sp := fun vs H Q E => ∃ (a : Addr) (l : List Nat), vs = [.ref a] ∧ PatO C H a l ∧ Mk2 C CE H (40 :: (l ++ [41, 35])) Q E
theorem okX_Pattern_repeated (D : Ds K mg Z) (B : Bt mg) (C0 : Cs mg) (Y : Tx K Z) : FnOk P w K mg base (L2.CX P w) 7 Z.a_Pattern_repeated Z.d_Pattern_repeated P_Pattern_repeated (spRepX Z.c_Pattern Z.c_InvalidPattern) := by
  have GX_Pattern___init__ := okX_Pattern___init__ (P := P) (w := w) (base := base) D B C0 Y
  obtain ⟨⟨t_LIMIT, c_LIMIT⟩, ⟨t_ALPHABET, c_ALPHABET⟩, ⟨t_MAX_TEXT, c_MAX_TEXT⟩, ⟨t_MAX_SIGNS, c_MAX_SIGNS⟩, ⟨t_MAX_DEPTH, c_MAX_DEPTH⟩, ⟨t_OPEN, c_OPEN⟩, ⟨t_SHUT, c_SHUT⟩, ⟨t_AGAIN, c_AGAIN⟩⟩ := C0
  refine okX D.Pattern_repeated.F sc_Pattern_repeated (fun vs H Q E h => ?_) (fun cdv A outer s H vs Q E hr tk h => ?_)
  · obtain ⟨a, l, rfl, _⟩ := h
    rfl
  · obtain ⟨a, l, rfl, po, q⟩ := h
    refine ⟨_, (pss_one (ps_ret (pe_mkX tk D.Pattern D.Pattern___init__ GX_Pattern___init__ (hr.mono (by decide)) (by rfl) (pa_cons (pe_joined (PJ.cons (pe_fmt (pe_glob (v := .str _) (by rfl) c_OPEN ⟨_, rfl⟩)) (PJ.cons (pe_fmt (pe_slot D.Pattern D.Pattern_own_text (pv 0))) (PJ.cons (pe_fmt (pe_glob (v := .str _) (by rfl) c_SHUT ⟨_, rfl⟩)) (PJ.cons (pe_fmt (pe_glob (v := .str _) (by rfl) c_AGAIN ⟨_, rfl⟩)) PJ.nil))))) pa_nil)))), ?_⟩
    obtain ⟨dx, pp, dd, ww, fs, hs, _, _, _, _, gd⟩ := id po
    have gl := gd.len
    have bd : 20100 ≤ sizeLine := by decide
    walk_at "rd"
    refine ⟨Nat.le_trans (show 1 ≤ 20100 by decide) bd, ?_, dx, _, hs, _, rfl, .inl ⟨tx l, rfl, by rw [PT.len_tx]; omega, ?_, Nat.le_trans (show 1 ≤ 20100 by decide) bd, ?_, Nat.le_trans (show 1 ≤ 20100 by decide) bd, ?_, ?_⟩⟩
    · rw [cat1, PT.len_tx]
      exact Nat.le_trans (show 1 ≤ 20100 by decide) bd
    · rw [cat1, PT.tx_append, PT.len_tx]
      simp
      omega
    · rw [cat1, PT.tx_append, PT.sg_tx, PT.tx_append, PT.len_tx]
      simp
      omega
    · rw [cat1, PT.tx_append, PT.sg_tx, PT.sg_tx, PT.tx_append, PT.tx_append, PT.len_tx]
      simp
      omega
    · rw [cat1, PT.tx_append, PT.sg_tx, PT.sg_tx, PT.tx_append, PT.tx_append, show [40] ++ l ++ [41] ++ [35] = 40 :: (l ++ [41, 35]) from by simp]
      exact q.go (by simp; omega)
def spAddX (C CE : Addr) : Sp := fun vs H Q E => ∃ (a b : Addr) (l m : List Nat), vs = [.ref a, .ref b] ∧ PatO C H a l ∧ PatO C H b m ∧ Mk2 C CE H (l ++ m) Q E
theorem okX_Pattern___add__ (D : Ds K mg Z) (B : Bt mg) (C0 : Cs mg) (Y : Tx K Z) : FnOk P w K mg base (L2.CX P w) 7 Z.a_Pattern___add__ Z.d_Pattern___add__ P_Pattern___add__ (spAddX Z.c_Pattern Z.c_InvalidPattern) := by
  have GX_Pattern___init__ := okX_Pattern___init__ (P := P) (w := w) (base := base) D B C0 Y
  obtain ⟨⟨t_LIMIT, c_LIMIT⟩, ⟨t_ALPHABET, c_ALPHABET⟩, ⟨t_MAX_TEXT, c_MAX_TEXT⟩, ⟨t_MAX_SIGNS, c_MAX_SIGNS⟩, ⟨t_MAX_DEPTH, c_MAX_DEPTH⟩, ⟨t_OPEN, c_OPEN⟩, ⟨t_SHUT, c_SHUT⟩, ⟨t_AGAIN, c_AGAIN⟩⟩ := C0
  refine okX D.Pattern___add__.F sc_Pattern___add__ (fun vs H Q E h => ?_) (fun cdv A outer s H vs Q E hr tk h => ?_)
  · obtain ⟨a, b, l, m, rfl, _⟩ := h
    rfl
  · obtain ⟨a, b, l, m, rfl, po, po2, q⟩ := h
    refine ⟨_, (pss_cons (ps_if (pt_not (pt_val (pe_callB (call_isE (K := K) rfl D.Pattern D.Pattern_kn) (by rfl) B.isinstance (by decide +kernel) (pa_cons (pv 1) (pa_cons (pe_glob (v := .ref Z.c_Pattern) (by rfl) D.Pattern.g rfl) pa_nil))))) (pss_one ps_dead) pss_nil)
    (pss_one (ps_ret (pe_mkX tk D.Pattern D.Pattern___init__ GX_Pattern___init__ (hr.mono (by decide)) (by rfl) (pa_cons (pe_joined (PJ.cons (pe_fmt (pe_slot D.Pattern D.Pattern_own_text (pv 0))) (PJ.cons (pe_fmt (pe_slot D.Pattern D.Pattern_own_text (pv 1))) PJ.nil))) pa_nil))))), ?_⟩
    obtain ⟨dx, pp, dd, ww, fs, hs, _, _, _, _, gd⟩ := id po
    obtain ⟨dx2, pp2, dd2, ww2, fs2, hs2, _, _, _, _, gd2⟩ := id po2
    walk_at "rd"
    refine .inl ⟨dx2, _, hs2, ?_⟩
    walk_at "gg"
    have gl := gd.len
    have gl2 := gd2.len
    have bd : 50000 ≤ sizeLine := by decide
    refine ⟨dx, _, hs, _, rfl, .inl ⟨tx l, rfl, by rw [PT.len_tx]; omega, ?_, dx2, _, hs2, _, rfl, .inl ⟨tx m, rfl, by rw [PT.len_tx]; omega, ?_, ?_⟩⟩⟩
    · rw [cat0, PT.len_tx]
      omega
    · rw [cat0, PT.tx_append, PT.len_tx, List.length_append]
      omega
    · rw [cat0, PT.tx_append]
      exact q.go (by rw [List.length_append]; omega)
end
section
open PT (tx sg)
variable {P : Program} {w : World} {K : PySem.W.Frag} {mg : Str → Option Value} {base : Heap} {Z : Ad}
/-! ### draws -/
def zm (l : List Nat) : Nat := l.length + 100 * l.count 40
theorem zm_len (l : List Nat) : l.length ≤ zm l := Nat.le_add_right _ _
theorem zm_append (l m : List Nat) : zm (l ++ m) = zm l + zm m := by
  unfold zm
  rw [List.length_append, List.count_append]
  omega
theorem zm_one {c : Nat} (h : PT.Lt c) : zm [c] = 1 := by
  unfold zm PT.Lt at *
  rw [List.count_singleton, if_neg (by simp; omega)]
  rfl
theorem zm_rep (m : List Nat) : zm (40 :: (m ++ [41, 35])) = zm m + 103 := by
  rw [show 40 :: (m ++ [41, 35]) = [40] ++ (m ++ [41, 35]) from rfl, zm_append, zm_append, show zm [40] = 101 from rfl, show zm [41, 35] = 2 from rfl]
  omega
def lts (cs : List Nat) : List V := cs.map fun c => V.str (sg c)
/-- at most how long a part is -/
def U : Nat → Nat
  | 0 => 1
  | d + 1 => 103 + 2 * U d
theorem U_pos : ∀ d, 1 ≤ U d
  | 0 => Nat.le_refl _
  | d + 1 => by show 1 ≤ 103 + 2 * U d; omega
def spDrawn (dd : Nat) : Sp := fun vs H Q _ => ∃ (d a : Addr) (x y z : Int) (cs : List Nat) (k : Nat), vs = [.ref d, .ref a, .int ((k : Nat) : Int), .int ((dd : Nat) : Int)] ∧ 1 ≤ k ∧ k ≤ 3 ∧ H d = some (.lst [.int x, .int y, .int z]) ∧ a ≠ d ∧ H a = some (.lst (lts cs)) ∧ 1 ≤ cs.length ∧ cs.length ≤ 1000 ∧ (∀ c, c ∈ cs → PT.Lt c) ∧
  ∀ l H', Dk d H H' → PT.Sq dd l → zm l ≤ k * U dd → Q (.str (tx l)) H'
theorem ok_drawn0 (D : Ds K mg Z) : FnOk P w K mg base CX0 1 Z.a_drawn_pattern Z.d_drawn_pattern P_drawn_pattern (fun _ _ _ _ => False) := by
  exact D.drawn_pattern.F.ok sc_drawn_pattern (fun vs H Q E h => h.elim) (fun cdv A outer s H vs Q E hr h => h.elim)
theorem ok_drawn_pattern (D : Ds K mg Z) (B : Bt mg) (C0 : Cs mg) : ∀ dd, dd ≤ 3 → FnOk P w K mg base CX0 (dd + 3) Z.a_drawn_pattern Z.d_drawn_pattern P_drawn_pattern (spDrawn dd) := by
  have G_roll := ok_roll (P := P) (w := w) (base := base) D B
  have G_pick := ok_pick (P := P) (w := w) (base := base) D B
  obtain ⟨⟨t_LIMIT, c_LIMIT⟩, ⟨t_ALPHABET, c_ALPHABET⟩, ⟨t_MAX_TEXT, c_MAX_TEXT⟩, ⟨t_MAX_SIGNS, c_MAX_SIGNS⟩, ⟨t_MAX_DEPTH, c_MAX_DEPTH⟩, ⟨t_OPEN, c_OPEN⟩, ⟨t_SHUT, c_SHUT⟩, ⟨t_AGAIN, c_AGAIN⟩⟩ := C0
  intro dd
  induction dd with
  | zero =>
    intro _
    have G_drawn_pattern := ok_drawn0 (P := P) (w := w) (base := base) (K := K) (mg := mg) (Z := Z) D
    refine D.drawn_pattern.F.ok sc_drawn_pattern (fun vs H Q E h => ?_) (fun cdv A outer s H vs Q E hr h => ?_)
    · obtain ⟨d, a, x, y, z, cs, k, rfl, _⟩ := h
      rfl
    · obtain ⟨d, a, x, y, z, cs, k, rfl, hk1, hk3, hd, nad, ha, hc1, hc2, lt, q⟩ := h
      refine ⟨_, (pss_cons (ps_set (i := 4) sc_drawn_pattern.nd rfl (Or.inl rfl) pe_str)
    (pss_cons (ps_for PassesOwn.never rfl (pi_range1 (by rfl) B.range (pa_cons (pe_op op_add pe_int (pe_df D.roll G_roll (hr.mono (by omega)) (by rfl) (pa_cons (pv 0) (pa_cons (pv 2) pa_nil)))) pa_nil)) (pg_name (i := 5) sc_drawn_pattern.nd rfl (Or.inl rfl))
      (pss_one (ps_if (PW.pt (pw_and (pt_cmpR op_gt (pv 3) pe_int (nomark _)) (pw_and1 (pt_cmpR op_eq (pe_df D.roll G_roll (hr.mono (by omega)) (by rfl) (pa_cons (pv 0) (pa_cons pe_int pa_nil))) pe_int (nomark _))))) (pss_one (ps_set (i := 4) sc_drawn_pattern.nd rfl (Or.inl rfl) (pe_op op_add_str (pe_op op_add_str (pe_op op_add_str (pv 4) pe_str) (pe_df D.drawn_pattern G_drawn_pattern (hr.mono (by omega)) (by rfl) (pa_cons (pv 0) (pa_cons (pv 1) (pa_cons pe_int (pa_cons (pe_op op_sub (pv 3) pe_int) pa_nil)))))) pe_str))) (pss_one (ps_set (i := 4) sc_drawn_pattern.nd rfl (Or.inl rfl) (pe_op op_add_str (pv 4) (pe_df D.pick G_pick (hr.mono (by omega)) (by rfl) (pa_cons (pv 0) (pa_cons (pv 1) pa_nil)))))))))
    (pss_one (ps_ret (pv 4))))), ?_⟩
      walk_at "rd"
      walk_at "gg"
      refine ⟨d, x, y, z, _, rfl, hd, by omega, Nat.lt_of_lt_of_le (log2_of (k := 10) (by omega) (by decide)) (by decide), fun r x' y' z' r0 r1 => ⟨r, rfl, by omega, by omega, ?_⟩⟩
      have k0 : Dk d H (upd H d (HO.lst [.int x', .int y', .int z'])) := Dk.roll x' y' z'
      generalize upd H d (HO.lst [.int x', .int y', .int z']) = H0 at k0 ⊢
      obtain ⟨n, hn, hn1, hnk⟩ : ∃ n : Nat, (1 + r).toNat = n ∧ 1 ≤ n ∧ n ≤ k := ⟨_, rfl, by omega, by omega⟩
      rw [hn]
      clear hn r0 r1
      obtain ⟨Pv, hP⟩ := inv_bi (fun (i : Nat) (σ : St) (H' : Hp) => ∃ (l : List Nat) (o5 : Option V), σ = [some (.ref d), some (.ref a), some (.int ((k : Nat) : Int)), some (.int ((0 : Nat) : Int)), some (.str (tx l)), o5] ∧ Dk d H H' ∧ (i = 0 → l = []) ∧ (1 ≤ i → PT.Sq 0 l) ∧ zm l ≤ i * U 0)
      refine loop_range Pv ((hP _ _ _).mpr ⟨[], _, rfl, k0, fun _ => rfl, fun h => absurd h (by decide), Nat.zero_le _⟩) (fun i σ H1 hi hpv => ?_) (fun σ H1 hpv => ?_)
      · obtain ⟨l, o5, rfl, k1, i0, i1, il⟩ := (hP _ _ _).mp hpv
        clear hpv
        obtain ⟨x1, y1, z1, hd1⟩ := k1.2
        have ha1 := k1.1 _ _ nad ha
        have hll : l.length ≤ 3000 := by
          have hz := zm_len l
          have h1 : i * U 0 ≤ 3 * U 0 := Nat.mul_le_mul_right _ (by omega)
          have h2 : U 0 ≤ 729 := by decide
          omega
        have bd : (9000 : Nat) ≤ sizeLine := by decide
        have up := U_pos 0
        have hgt : ¬ ((0 : Int) < 0) := by decide
        have fin : ∀ (m : List Nat) (o5 : Option V) (H' : Hp), Dk d H H' → PT.Sq 0 m → zm m ≤ U 0 → Pv (i + 1) [some (.ref d), some (.ref a), some (.int ((k : Nat) : Int)), some (.int ((0 : Nat) : Int)), some (.str (tx (l ++ m))), o5] H' := fun m o5 H' e1 e2 e3 => by
          refine (hP _ _ _).mpr ⟨l ++ m, o5, rfl, e1, fun h => absurd h (by omega), fun _ => ?_, ?_⟩
          · by_cases h : i = 0
            · rw [i0 h]
              exact e2
            · exact .cat (i1 (by omega)) e2
          · rw [zm_append, Nat.succ_mul]
            omega
        walk_at "rd"
        walk_at "gg"
        refine ⟨d, x1, y1, z1, _, lts cs, rfl, hd1, .inl ⟨a, rfl, nad, ha1⟩, by unfold lts; rw [List.length_map]; omega, by unfold lts; rw [List.length_map]; omega, fun v hv x2 y2 z2 => ?_⟩
        obtain ⟨c, hc, rfl⟩ := List.mem_map.mp hv
        refine ⟨_, rfl, ?_, ?_⟩
        · rw [PT.sg_tx, PT.len_tx, PT.len_tx]
          show _ + 1 ≤ _
          omega
        · rw [PT.sg_tx, PT.tx_append]
          exact fin [c] _ _ (k1.trans (Dk.roll x2 y2 z2)) (.one (lt c hc)) (by rw [zm_one (lt c hc)]; exact up)
      · obtain ⟨l, o5, rfl, k1, i0, i1, il⟩ := (hP _ _ _).mp hpv
        have q' := q l H1 k1 (i1 hn1) (Nat.le_trans il (Nat.mul_le_mul_right _ hnk))
        walk_at "gg"
  | succ dd ih =>
    intro hdd
    have G_drawn_pattern := ih (by omega)
    refine D.drawn_pattern.F.ok sc_drawn_pattern (fun vs H Q E h => ?_) (fun cdv A outer s H vs Q E hr h => ?_)
    · obtain ⟨d, a, x, y, z, cs, k, rfl, _⟩ := h
      rfl
    · obtain ⟨d, a, x, y, z, cs, k, rfl, hk1, hk3, hd, nad, ha, hc1, hc2, lt, q⟩ := h
      refine ⟨_, (pss_cons (ps_set (i := 4) sc_drawn_pattern.nd rfl (Or.inl rfl) pe_str)
    (pss_cons (ps_for PassesOwn.never rfl (pi_range1 (by rfl) B.range (pa_cons (pe_op op_add pe_int (pe_df D.roll G_roll (hr.mono (by omega)) (by rfl) (pa_cons (pv 0) (pa_cons (pv 2) pa_nil)))) pa_nil)) (pg_name (i := 5) sc_drawn_pattern.nd rfl (Or.inl rfl))
      (pss_one (ps_if (PW.pt (pw_and (pt_cmpR op_gt (pv 3) pe_int (nomark _)) (pw_and1 (pt_cmpR op_eq (pe_df D.roll G_roll (hr.mono (by omega)) (by rfl) (pa_cons (pv 0) (pa_cons pe_int pa_nil))) pe_int (nomark _))))) (pss_one (ps_set (i := 4) sc_drawn_pattern.nd rfl (Or.inl rfl) (pe_op op_add_str (pe_op op_add_str (pe_op op_add_str (pv 4) pe_str) (pe_df D.drawn_pattern G_drawn_pattern (hr.mono (by omega)) (by rfl) (pa_cons (pv 0) (pa_cons (pv 1) (pa_cons pe_int (pa_cons (pe_op op_sub (pv 3) pe_int) pa_nil)))))) pe_str))) (pss_one (ps_set (i := 4) sc_drawn_pattern.nd rfl (Or.inl rfl) (pe_op op_add_str (pv 4) (pe_df D.pick G_pick (hr.mono (by omega)) (by rfl) (pa_cons (pv 0) (pa_cons (pv 1) pa_nil)))))))))
    (pss_one (ps_ret (pv 4))))), ?_⟩
      walk_at "rd"
      walk_at "gg"
      refine ⟨d, x, y, z, _, rfl, hd, by omega, Nat.lt_of_lt_of_le (log2_of (k := 10) (by omega) (by decide)) (by decide), fun r x' y' z' r0 r1 => ⟨r, rfl, by omega, by omega, ?_⟩⟩
      have k0 : Dk d H (upd H d (HO.lst [.int x', .int y', .int z'])) := Dk.roll x' y' z'
      generalize upd H d (HO.lst [.int x', .int y', .int z']) = H0 at k0 ⊢
      obtain ⟨n, hn, hn1, hnk⟩ : ∃ n : Nat, (1 + r).toNat = n ∧ 1 ≤ n ∧ n ≤ k := ⟨_, rfl, by omega, by omega⟩
      rw [hn]
      clear hn r0 r1
      obtain ⟨Pv, hP⟩ := inv_bi (fun (i : Nat) (σ : St) (H' : Hp) => ∃ (l : List Nat) (o5 : Option V), σ = [some (.ref d), some (.ref a), some (.int ((k : Nat) : Int)), some (.int (((dd + 1) : Nat) : Int)), some (.str (tx l)), o5] ∧ Dk d H H' ∧ (i = 0 → l = []) ∧ (1 ≤ i → PT.Sq (dd + 1) l) ∧ zm l ≤ i * U (dd + 1))
      refine loop_range Pv ((hP _ _ _).mpr ⟨[], _, rfl, k0, fun _ => rfl, fun h => absurd h (by decide), Nat.zero_le _⟩) (fun i σ H1 hi hpv => ?_) (fun σ H1 hpv => ?_)
      · obtain ⟨l, o5, rfl, k1, i0, i1, il⟩ := (hP _ _ _).mp hpv
        clear hpv
        obtain ⟨x1, y1, z1, hd1⟩ := k1.2
        have ha1 := k1.1 _ _ nad ha
        have hll : l.length ≤ 3000 := by
          have hz := zm_len l
          have h1 : i * U (dd + 1) ≤ 3 * U (dd + 1) := Nat.mul_le_mul_right _ (by omega)
          have h2 : U (dd + 1) ≤ 729 := by rcases (show dd = 0 ∨ dd = 1 ∨ dd = 2 by omega) with rfl | rfl | rfl <;> decide
          omega
        have bd : (9000 : Nat) ≤ sizeLine := by decide
        have up := U_pos (dd + 1)
        have fin : ∀ (m : List Nat) (o5 : Option V) (H' : Hp), Dk d H H' → PT.Sq (dd + 1) m → zm m ≤ U (dd + 1) → Pv (i + 1) [some (.ref d), some (.ref a), some (.int ((k : Nat) : Int)), some (.int (((dd + 1) : Nat) : Int)), some (.str (tx (l ++ m))), o5] H' := fun m o5 H' e1 e2 e3 => by
          refine (hP _ _ _).mpr ⟨l ++ m, o5, rfl, e1, fun h => absurd h (by omega), fun _ => ?_, ?_⟩
          · by_cases h : i = 0
            · rw [i0 h]
              exact e2
            · exact .cat (i1 (by omega)) e2
          · rw [zm_append, Nat.succ_mul]
            omega
        have hgt : (0 : Int) < ((dd + 1 : Nat) : Int) := by omega
        walk_at "rd"
        walk_at "gg"
        refine ⟨d, x1, y1, z1, _, rfl, hd1, by decide, by decide, fun r2 x2 y2 z2 r0 r1 => ?_⟩
        have k2 : Dk d H (upd H1 d (HO.lst [.int x2, .int y2, .int z2])) := k1.trans (Dk.roll x2 y2 z2)
        have hd2 : upd H1 d (HO.lst [.int x2, .int y2, .int z2]) d = some (.lst [.int x2, .int y2, .int z2]) := upd_same
        generalize upd H1 d (HO.lst [.int x2, .int y2, .int z2]) = H2 at k2 hd2 ⊢
        have ha2 := k2.1 _ _ nad ha
        clear hd1 ha1
        walk_at "rd"
        by_cases h0 : r2 = 0
        · subst h0
          walk_at "rd"
          walk_at "gg"
          have ud : U dd ≤ 313 := by rcases (show dd = 0 ∨ dd = 1 ∨ dd = 2 by omega) with rfl | rfl | rfl <;> decide
          have us : U (dd + 1) = 103 + 2 * U dd := rfl
          have e1 : tx l ++ sg 40 = tx (l ++ [40]) := by rw [PT.sg_tx, PT.tx_append]
          refine ⟨?_, d, a, x2, y2, z2, cs, 2, by rw [show ((dd + 1 : Nat) : Int) - 1 = ((dd : Nat) : Int) by omega]; rfl, by decide, by decide, hd2, nad, ha2, hc1, hc2, lt, fun m H3 k3 sq3 hm => have hzm := zm_len m; ⟨_, rfl, ?_, ?_, ?_⟩⟩
          · rw [PT.sg_tx, PT.len_tx, PT.len_tx]
            show _ + 1 ≤ _
            omega
          · rw [e1, PT.len_tx, PT.len_tx, List.length_append]
            show _ + 1 + _ ≤ _
            omega
          · rw [e1, PT.tx_append, PT.len_tx, List.length_append, List.length_append]
            show _ + 1 + _ + 2 ≤ _
            omega
          · rw [e1, PT.tx_append, show Str.ofString ")#" = tx [41, 35] from rfl, PT.tx_append, show l ++ [40] ++ m ++ [41, 35] = l ++ (40 :: (m ++ [41, 35])) from by simp]
            refine fin _ _ _ (k2.trans k3) (.rep sq3) ?_
            rw [zm_rep]
            omega
        · walk_at "rd"
          walk_at "gg"
          refine ⟨d, x2, y2, z2, _, lts cs, rfl, hd2, .inl ⟨a, rfl, nad, ha2⟩, by unfold lts; rw [List.length_map]; omega, by unfold lts; rw [List.length_map]; omega, fun v hv x4 y4 z4 => ?_⟩
          obtain ⟨c, hc, rfl⟩ := List.mem_map.mp hv
          refine ⟨_, rfl, ?_, ?_⟩
          · rw [PT.sg_tx, PT.len_tx, PT.len_tx]
            show _ + 1 ≤ _
            omega
          · rw [PT.sg_tx, PT.tx_append]
            exact fin [c] _ _ (k2.trans (Dk.roll x4 y4 z4)) (.one (lt c hc)) (by rw [zm_one (lt c hc)]; exact up)
      · obtain ⟨l, o5, rfl, k1, i0, i1, il⟩ := (hP _ _ _).mp hpv
        have q' := q l H1 k1 (i1 hn1) (Nat.le_trans il (Nat.mul_le_mul_right _ hnk))
        walk_at "gg"

/-! ### texts cut -/
theorem sIx_nat (n d i : Nat) : HT.sIx n d (some ((i : Nat) : Int)) = min i n := by
  unfold HT.sIx
  first | (simp; omega) | (split <;> omega) | simp
theorem tl_tx (l : List Nat) : (tx l).cps.toList = l := by
  show l.toArray.toList = l
  simp
theorem cut_to (l : List Nat) (i : Nat) : cutS (tx l) none (some ((i : Nat) : Int)) = tx (l.take i) := by
  unfold cutS
  rw [sIx_nat, tl_tx, PT.len_tx]
  show tx ((l.drop 0).take (min i l.length - 0)) = _
  rw [List.drop_zero, Nat.sub_zero]
  congr 1
  by_cases h : i ≤ l.length
  · rw [Nat.min_eq_left h]
  · rw [Nat.min_eq_right (by omega), List.take_length, List.take_of_length_le (by omega)]
theorem cut_from (l : List Nat) (i : Nat) : cutS (tx l) (some ((i : Nat) : Int)) none = tx (l.drop i) := by
  unfold cutS
  rw [sIx_nat, tl_tx, PT.len_tx]
  show tx ((l.drop (min i l.length)).take (l.length - min i l.length)) = _
  congr 1
  rw [List.take_of_length_le (by rw [List.length_drop]; omega)]
  by_cases h : i ≤ l.length
  · rw [Nat.min_eq_left h]
  · rw [Nat.min_eq_right (by omega), List.drop_length, List.drop_of_length_le (by omega)]
theorem cut_two (l : List Nat) (i : Nat) : cutS (tx l) (some ((i : Nat) : Int)) (some ((i + 2 : Nat) : Int)) = tx ((l.drop i).take 2) := by
  unfold cutS
  rw [sIx_nat, sIx_nat, tl_tx, PT.len_tx]
  show tx ((l.drop (min i l.length)).take (min (i + 2) l.length - min i l.length)) = _
  congr 1
  by_cases h : i + 2 ≤ l.length
  · rw [Nat.min_eq_left h, Nat.min_eq_left (by omega), Nat.add_sub_cancel_left]
  · by_cases h2 : i ≤ l.length
    · rw [Nat.min_eq_right (by omega), Nat.min_eq_left h2, List.take_of_length_le (by rw [List.length_drop]; omega), List.take_of_length_le (by rw [List.length_drop]; omega)]
    · rw [Nat.min_eq_right (by omega), Nat.min_eq_right (by omega), List.drop_length, List.drop_of_length_le (by omega)]
      simp
/-! ### a text bent -/
theorem tx_self (s : Str) : s = tx s.cps.toList := by
  show s = ⟨s.cps.toList.toArray⟩
  simp
def signsB : List V := [.str "a", .str "(", .str ")", .str "#", .str ")#", .str "()", .str "A", .str "1", .str " ", .str "(a)#", .str ""]
theorem signsB_ok {v : V} (h : v ∈ signsB) : ∃ m : List Nat, v = .str (tx m) ∧ m.length ≤ 4 ∧ m.count 40 ≤ 1 := by
  have key : ∀ s : Str, s.cps.toList.length ≤ 4 → s.cps.toList.count 40 ≤ 1 → ∃ m : List Nat, V.str s = .str (tx m) ∧ m.length ≤ 4 ∧ m.count 40 ≤ 1 := fun s h1 h2 => ⟨s.cps.toList, by rw [← tx_self], h1, h2⟩
  unfold signsB at h
  simp only [List.mem_cons, List.not_mem_nil, or_false] at h
  rcases h with rfl | rfl | rfl | rfl | rfl | rfl | rfl | rfl | rfl | rfl | rfl <;> exact key _ (by decide +kernel) (by decide +kernel)
def spBent : Sp := fun vs H Q _ => ∃ (d : Addr) (x y z : Int) (l : List Nat), vs = [.ref d, .str (tx l)] ∧ H d = some (.lst [.int x, .int y, .int z]) ∧ l.length ≤ 4000 ∧
  ∀ l' H', Dk d H H' → l'.length ≤ l.length + 4 → l'.count 40 ≤ l.count 40 + 1 → Q (.str (tx l')) H'
theorem ok_bent (D : Ds K mg Z) (B : Bt mg) (C0 : Cs mg) : FnOk P w K mg base CX0 3 Z.a_bent Z.d_bent P_bent spBent := by
  have G_roll := ok_roll (P := P) (w := w) (base := base) D B
  have G_pick := ok_pick (P := P) (w := w) (base := base) D B
  obtain ⟨⟨t_LIMIT, c_LIMIT⟩, ⟨t_ALPHABET, c_ALPHABET⟩, ⟨t_MAX_TEXT, c_MAX_TEXT⟩, ⟨t_MAX_SIGNS, c_MAX_SIGNS⟩, ⟨t_MAX_DEPTH, c_MAX_DEPTH⟩, ⟨t_OPEN, c_OPEN⟩, ⟨t_SHUT, c_SHUT⟩, ⟨t_AGAIN, c_AGAIN⟩⟩ := C0
  refine D.bent.F.ok sc_bent (fun vs H Q E h => ?_) (fun cdv A outer s H vs Q E hr h => ?_)
  · obtain ⟨d, x, y, z, l, rfl, _⟩ := h
    rfl
  · obtain ⟨d, x, y, z, l, rfl, hd, hl, q⟩ := h
    refine ⟨_, (pss_cons (ps_set (i := 2) sc_bent.nd rfl (Or.inl rfl) (pe_df D.roll G_roll (hr.mono (by decide)) (by rfl) (pa_cons (pv 0) (pa_cons (pe_op op_add (pe_callB call_len_str (by rfl) B.len (by decide +kernel) (pa_cons (pv 1) pa_nil)) pe_int) pa_nil))))
    (pss_cons (ps_set (i := 3) sc_bent.nd rfl (Or.inl rfl) (pe_df D.pick G_pick (hr.mono (by decide)) (by rfl) (pa_cons (pv 0) (pa_cons (pe_lst (pa_cons pe_str (pa_cons pe_str (pa_cons pe_str (pa_cons pe_str (pa_cons pe_str (pa_cons pe_str (pa_cons pe_str (pa_cons pe_str (pa_cons pe_str (pa_cons pe_str (pa_cons pe_str pa_nil)))))))))))) pa_nil))))
    (pss_cons (ps_set (i := 4) sc_bent.nd rfl (Or.inl rfl) (pe_df D.roll G_roll (hr.mono (by decide)) (by rfl) (pa_cons (pv 0) (pa_cons pe_int pa_nil))))
    (pss_one (ps_ret (pe_ifExp (pt_cmpR op_eq (pv 4) pe_int (nomark _)) (pe_op op_add_str (pe_slice sl_str (pv 1) po_none (po_some (pv 2))) (pe_slice sl_str (pv 1) (po_some (pe_op op_add (pv 2) pe_int)) po_none)) (pe_op op_add_str (pe_op op_add_str (pe_slice sl_str (pv 1) po_none (po_some (pv 2))) (pv 3)) (pe_slice sl_str (pv 1) (po_some (pe_op op_add (pv 2) (pe_callTy call_intB (by rfl) B.int (by decide +kernel) (pa_cons (pe_cmpR op_eq (pv 4) pe_int (nomark _)) pa_nil)))) po_none)))))))), ?_⟩
    have bd : (9000 : Nat) ≤ sizeLine := by decide
    walk_at "rd"
    rw [PT.len_tx]
    refine ⟨by omega, d, x, y, z, _, rfl, hd, by omega, Nat.lt_of_lt_of_le (log2_of (k := 13) (by omega) (by decide)) (by decide), fun r x1 y1 z1 r0 r1 => ?_⟩
    obtain ⟨a, rfl⟩ : ∃ a : Nat, r = (a : Int) := ⟨r.toNat, by omega⟩
    have ha : a ≤ l.length := by omega
    clear r0 r1
    have k1 : Dk d H (upd H d (HO.lst [.int x1, .int y1, .int z1])) := Dk.roll x1 y1 z1
    have hd1 : upd H d (HO.lst [.int x1, .int y1, .int z1]) d = some (.lst [.int x1, .int y1, .int z1]) := upd_same
    generalize upd H d (HO.lst [.int x1, .int y1, .int z1]) = H1 at k1 hd1 ⊢
    walk_at "gg"
    refine ⟨Nat.le_trans (by decide) bd, fun p hp => ?_⟩
    rw [show [V.str (Str.ofString "a"), V.str (sg 40), V.str (sg 41), V.str (sg 35), V.str (Str.ofString ")#"), V.str (Str.ofString "()"), V.str (Str.ofString "A"), V.str (Str.ofString "1"), V.str (Str.ofString " "), V.str (Str.ofString "(a)#"), V.str (Str.ofString "")] = signsB from rfl]
    have npd : p ≠ d := Dk.ne hd1 hp
    have hp2 : upd H1 p (HO.lst signsB) p = some (.lst signsB) := upd_same
    have hd2 : upd H1 p (HO.lst signsB) d = some (.lst [.int x1, .int y1, .int z1]) := by rw [upd_ne npd.symm]; exact hd1
    have k2 : Dk d H (upd H1 p (HO.lst signsB)) := k1.trans (Dk.of hd1 (Same.new hp))
    refine ⟨d, x1, y1, z1, .ref p, signsB, rfl, hd2, .inl ⟨p, rfl, npd, hp2⟩, by decide, by decide, fun v hv x2 y2 z2 => ?_⟩
    obtain ⟨m, rfl, hm1, hm2⟩ := signsB_ok hv
    have k3 := k2.trans (Dk.roll x2 y2 z2)
    have hd3 : upd (upd H1 p (HO.lst signsB)) d (HO.lst [.int x2, .int y2, .int z2]) d = some (.lst [.int x2, .int y2, .int z2]) := upd_same
    generalize upd (upd H1 p (HO.lst signsB)) d (HO.lst [.int x2, .int y2, .int z2]) = H3 at k3 hd3 ⊢
    clear hd hd1 hd2 hp2 hp k2 k1 hv
    walk_at "go"
    refine ⟨d, x2, y2, z2, _, rfl, hd3, by decide, by decide, fun r3 x3 y3 z3 r0 r1 => ?_⟩
    have k4 := k3.trans (Dk.roll x3 y3 z3)
    generalize upd H3 d (HO.lst [.int x3, .int y3, .int z3]) = H4 at k4 ⊢
    have lt_ := PT.len_tx l
    have h1 : (l.take a).length ≤ l.length := by rw [List.length_take]; omega
    have h2 : ∀ b, (l.drop b).length ≤ l.length := fun b => by rw [List.length_drop]; omega
    have h3 : ∀ b, a ≤ b → (l.take a).length + (l.drop b).length ≤ l.length := fun b hb => by rw [List.length_take, List.length_drop]; omega
    have c3 : ∀ b, a ≤ b → (l.take a).count 40 + (l.drop b).count 40 ≤ l.count 40 := fun b hb => by
      have e1 : (l.drop b).count 40 ≤ (l.drop a).count 40 := by
        obtain ⟨i, rfl⟩ : ∃ i, b = a + i := ⟨b - a, by omega⟩
        rw [← List.drop_drop]
        exact (List.drop_sublist _ _).count_le _
      have e2 : l.count 40 = (l.take a).count 40 + (l.drop a).count 40 := by
        rw [← List.count_append, List.take_append_drop]
      omega
    walk_at "gg"
    by_cases hw : r3 = 0
    · subst hw
      walk_at "rd"
      rw [show ((a : Int) + 1) = ((a + 1 : Nat) : Int) from rfl, cut_to, cut_from, PT.len_tx, PT.len_tx, PT.tx_append]
      have := h3 (a + 1) (by omega)
      have := c3 (a + 1) (by omega)
      have := h2 (a + 1)
      refine ⟨by omega, by omega, by omega, q _ _ k4 ?_ ?_⟩
      · rw [List.length_append]
        omega
      · rw [List.count_append]
        omega
    · walk_at "rd"
      obtain ⟨b, hb, hab⟩ : ∃ b : Nat, ((a : Int) + if decide (r3 = 1) = true then 1 else 0) = ((b : Nat) : Int) ∧ a ≤ b := by
        by_cases h : r3 = 1
        · exact ⟨a + 1, by rw [if_pos (by simpa using h)]; rfl, by omega⟩
        · exact ⟨a, by rw [if_neg (by simpa using h)]; omega, by omega⟩
      have := h3 b hab
      have := c3 b hab
      have := h2 b
      rw [hb, cut_to, cut_from, PT.tx_append, PT.tx_append, PT.len_tx, PT.len_tx, PT.len_tx, PT.len_tx, List.length_append]
      refine ⟨by omega, by omega, by omega, by omega, q _ _ k4 ?_ ?_⟩
      · rw [List.length_append, List.length_append]
        omega
      · rw [List.count_append, List.count_append]
        omega
end
section
open PT (tx sg)
variable {P : Program} {w : World} {K : PySem.W.Frag} {mg : Str → Option Value} {base : Heap} {Z : Ad}
/-! ### the law's own reader -/
theorem le_a (c : Nat) : (!decide ([c] < (Str.ofString "a").cps.toList)) = decide (97 ≤ c) := by
  have e : (Str.ofString "a").cps.toList = [97] := by decide +kernel
  rw [e, ← decide_not]
  refine decide_eq_decide.mpr ?_
  show ¬ [c] < [97] ↔ _
  rw [List.cons_lt_cons_iff]
  simp
theorem le_z (c : Nat) : (!decide ((Str.ofString "z").cps.toList < [c])) = decide (c ≤ 122) := by
  have e : (Str.ofString "z").cps.toList = [122] := by decide +kernel
  rw [e, ← decide_not]
  refine decide_eq_decide.mpr ?_
  show ¬ [122] < [c] ↔ _
  rw [List.cons_lt_cons_iff]
  simp
def endV (a : Nat) : Option Nat → V
  | none => .int (-1)
  | some k => .int ((a + k : Nat) : Int)
def spSeq (n : Nat) : Sp := fun vs H Q _ => ∃ (l : List Nat) (a : Nat), vs = [.str (tx l), .int ((a : Nat) : Int)] ∧ a ≤ l.length ∧ l.length ≤ 4000 ∧ (l.drop a).count 40 < n ∧ ∀ o, PT.Longest (l.drop a) o → Q (endV a o) H
theorem ok_sequence_end (D : Ds K mg Z) (B : Bt mg) (C0 : Cs mg) : ∀ n, FnOk P w K mg base CX0 (n + 1) Z.a_sequence_end Z.d_sequence_end P_sequence_end (spSeq n) := by
  obtain ⟨⟨t_LIMIT, c_LIMIT⟩, ⟨t_ALPHABET, c_ALPHABET⟩, ⟨t_MAX_TEXT, c_MAX_TEXT⟩, ⟨t_MAX_SIGNS, c_MAX_SIGNS⟩, ⟨t_MAX_DEPTH, c_MAX_DEPTH⟩, ⟨t_OPEN, c_OPEN⟩, ⟨t_SHUT, c_SHUT⟩, ⟨t_AGAIN, c_AGAIN⟩⟩ := C0
  intro n
  induction n with
  | zero =>
    refine D.sequence_end.F.ok sc_sequence_end (fun vs H Q E h => ?_) (fun cdv A outer s H vs Q E hr h => ?_)
    · obtain ⟨l, a, rfl, _⟩ := h
      rfl
    · obtain ⟨l, a, rfl, _, _, hc, _⟩ := h
      exact absurd hc (Nat.not_lt_zero _)
  | succ n ih =>
    have G_sequence_end := ih
    refine D.sequence_end.F.ok sc_sequence_end (fun vs H Q E h => ?_) (fun cdv A outer s H vs Q E hr h => ?_)
    · obtain ⟨l, a, rfl, _⟩ := h
      rfl
    · obtain ⟨l, a, rfl, ha, hl, hc, q⟩ := h
      refine ⟨_, (pss_cons (ps_set (i := 2) sc_sequence_end.nd rfl (Or.inl rfl) (pe_un un_neg pe_int))
    (pss_cons (ps_while PassesOwn.never (pt_cmpR op_lt (pv 1) (pe_callB call_len_str (by rfl) B.len (by decide +kernel) (pa_cons (pv 0) pa_nil)) (nomark _)) (pss_cons (ps_if (pt_chain op_le_str op_le_str pe_str (pe_ix ix_str (pv 0) (pv 1) (fun _ _ => rfl)) pe_str) (pss_one (ps_set (i := 1) sc_sequence_end.nd rfl (Or.inl rfl) (pe_op op_add (pv 1) pe_int))) (pss_one (ps_if (pt_cmpR op_eq (pe_ix ix_str (pv 0) (pv 1) (fun _ _ => rfl)) pe_str (nomark _)) (pss_cons (ps_set (i := 3) sc_sequence_end.nd rfl (Or.inl rfl) (pe_df D.sequence_end G_sequence_end (hr.mono (by omega)) (by rfl) (pa_cons (pv 0) (pa_cons (pe_op op_add (pv 1) pe_int) pa_nil))))
    (pss_cons (ps_if (PW.pt (pw_or (pt_cmpR op_lt (pv 3) pe_int (nomark _)) (pw_or1 (pt_cmpR op_ne (pe_slice sl_str (pv 0) (po_some (pv 3)) (po_some (pe_op op_add (pv 3) pe_int))) pe_str (nomark _))))) (pss_one (ps_ret (pv 2))) pss_nil)
    (pss_one (ps_set (i := 1) sc_sequence_end.nd rfl (Or.inl rfl) (pe_op op_add (pv 3) pe_int))))) (pss_one (ps_ret (pv 2))))))
    (pss_one (ps_set (i := 2) sc_sequence_end.nd rfl (Or.inl rfl) (pv 1)))))
    (pss_one (ps_ret (pv 2))))), ?_⟩
      have bd : (9000 : Nat) ≤ sizeLine := by decide
      obtain ⟨r, hr0⟩ : ∃ r, l.drop a = r := ⟨_, rfl⟩
      rw [hr0] at hc q
      have lr : r.length = l.length - a := by rw [← hr0]; exact List.length_drop
      have lt_ := PT.len_tx l
      walk_at "rd"
      walk_at "go"
      obtain ⟨W, hW⟩ := inv_bi (fun (m : Nat) (σ' : St) (H' : Hp) => ∃ (k : Nat) (o3 : Option V), m + k = r.length ∧ σ' = [some (.str (tx l)), some (.int ((a + k : Nat) : Int)), some (endV a (PT.soFar k)), o3] ∧ H' = H ∧ PT.SoFar r k)
      refine ⟨W, ⟨r.length, (hW _ _ _).mpr ⟨0, none, rfl, rfl, rfl, .start r⟩⟩, ?_⟩
      intro m σ' H' hw
      obtain ⟨k, o3, hm, rfl, rfl, sf⟩ := (hW _ _ _).mp hw
      clear hw
      have d2 : ∀ j, l.drop (a + j) = r.drop j := fun j => by rw [← hr0, List.drop_drop]
      clear hr0
      by_cases hk : k < r.length
      · have hlt : ((a + k : Nat) : Int) < ((l.length : Nat) : Int) := by omega
        obtain ⟨c, t, hd⟩ : ∃ c t, r.drop k = c :: t := ⟨r[k], r.drop (k + 1), List.drop_eq_getElem_cons hk⟩
        have ix : atI (tx l).cps.toList ((a + k : Nat) : Int) = some c := atI_nat (by
          rw [tl_tx]
          have e := d2 k
          rw [hd] at e
          have := congrArg (fun l : List Nat => l[0]?) e
          simpa [List.getElem?_drop] using this)
        have dt : r.drop (k + 1) = t := by
          have e := congrArg (List.drop 1) hd
          rw [List.drop_drop] at e
          exact e
        obtain ⟨N, hN1, hN2⟩ : ∃ N : St → Hp → Prop, (∀ σ2 H2, N σ2 H2 → ∃ m', m' < m ∧ W m' σ2 H2) ∧ ∀ (k' : Nat) (i j : Int) (o3' : Option V), i = ((a + k' : Nat) : Int) → j = ((a + k' : Nat) : Int) → k < k' → PT.SoFar r k' → N [some (.str (tx l)), some (.int i), some (.int j), o3'] H' := by
          refine ⟨fun σ2 H2 => ∃ m', m' < m ∧ W m' σ2 H2, fun σ2 H2 h => h, fun k' i j o3' h2 h3 h1 h4 => ?_⟩
          subst h2 h3
          have := h4.le
          exact ⟨r.length - k', by omega, (hW _ _ _).mpr ⟨k', o3', by omega, by unfold PT.soFar; rw [if_neg (by omega)]; rfl, rfl, h4⟩⟩
        walk_at "rd"
        refine ⟨by omega, N, hN1, by omega, ?_⟩
        clear hN1 hW
        rw [le_a, le_z]
        by_cases hlet : 97 ≤ c ∧ c ≤ 122
        · obtain ⟨l1, l2⟩ := hlet
          have := hN2 (k + 1) _ _ o3 rfl rfl (by omega) (sf.letter hd ⟨l1, l2⟩)
          rw [if_pos (decide_eq_true l1), if_pos (decide_eq_true l2)]
          walk_at "gg"
          exact this
        · by_cases h40 : c = 40
          · subst h40
            rw [if_neg (by decide)]
            walk_at "gg"
            refine ⟨by omega, ?_⟩
            rw [if_pos (show decide ((⟨#[40]⟩ : Str) = sg 40) = true from decide_eq_true rfl)]
            have d3 : l.drop (a + k + 1) = t := by rw [← dt, Nat.add_assoc]; exact d2 (k + 1)
            have ct : t.count 40 < n := by
              have e : r.take k ++ 40 :: t = r := by rw [← hd, List.take_append_drop]
              rw [← e, List.count_append, List.count_cons_self] at hc
              omega
            clear dt
            walk_at "gg"
            refine ⟨l, a + k + 1, rfl, by omega, hl, by rw [d3]; exact ct, fun o ho => ?_⟩
            rw [d3] at ho
            cases o with
            | none =>
              have q2 := q _ (sf.nopart hd none ho (fun i h => by cases h))
              rw [show endV (a + k + 1) none = V.int (-1) from rfl]
              have neg : (-1 : Int) < 0 := by decide
              walk_at "gg"
            | some i =>
              have neg : ¬ (((a + k + 1 + i : Nat) : Int) < 0) := by omega
              have d4 : l.drop (a + k + 1 + i) = t.drop i := by rw [← List.drop_drop, d3]
              clear d3
              have c2 := cut_two l (a + k + 1 + i)
              rw [d4] at c2
              clear d4
              rw [show endV (a + k + 1) (some i) = V.int ((a + k + 1 + i : Nat) : Int) from rfl]
              have i2 : ((a + k + 1 + i : Nat) : Int) + 2 = ((a + k + 1 + i + 2 : Nat) : Int) := by omega
              have e2 : Str.ofString ")#" = tx [41, 35] := rfl
              by_cases hb : (t.drop i).take 2 = [41, 35]
              · have q3 := hN2 (k + (i + 3)) _ _ (some (V.int ((a + k + 1 + i : Nat) : Int))) (show ((a + k + 1 + i + 2 : Nat) : Int) = _ by omega) (show ((a + k + 1 + i + 2 : Nat) : Int) = _ by omega) (by omega) (sf.part hd ho hb)
                rw [hb] at c2
                clear hb
                walk_at "gg"
                refine ⟨by omega, ?_⟩
                walk_at "gg"
              · have q2 := q _ (sf.nopart hd (some i) ho (fun j h => by cases h; exact hb))
                have ne : ¬ (tx ((t.drop i).take 2) = tx [41, 35]) := fun e => hb (PT.tx_inj.mp e)
                walk_at "gg"
                refine ⟨by omega, ?_⟩
                walk_at "gg"
          · have same : ∀ {p : Prop}, p → (if decide (97 ≤ c) = true then (if decide (c ≤ 122) = true then N [some (.str (tx l)), some (.int 0), some (.int 0), o3] H' else p) else p) := fun {p} h => by
              by_cases h1 : 97 ≤ c
              · rw [if_pos (decide_eq_true h1), if_neg (by simp; omega)]
                exact h
              · rw [if_neg (by simp; omega)]
                exact h
            have q2 := q _ (sf.bad hd hlet h40)
            have e40 : decide ((⟨#[c]⟩ : Str) = sg 40) = false := decide_eq_false fun e => h40 (PT.sg_inj.mp e)
            by_cases h1 : 97 ≤ c
            · rw [if_pos (decide_eq_true h1), if_neg (by simp; omega)]
              walk_at "gg"
              refine ⟨by omega, ?_⟩
              walk_at "gg"
            · rw [if_neg (by simp; omega)]
              walk_at "gg"
              refine ⟨by omega, ?_⟩
              walk_at "gg"
      · have hlt : ¬ (((a + k : Nat) : Int) < ((l.length : Nat) : Int)) := by omega
        obtain rfl : k = r.length := by have := sf.le; omega
        have q2 := q _ sf.whole
        clear lr
        walk_at "rd"
        refine ⟨by omega, ?_⟩
        walk_at "gg"
end
section
open PT (tx sg)
open LamX (Tabs TabS ExtN)
variable {P : Program} {w : World} {K : PySem.W.Frag} {mg : Str → Option Value} {base : Heap} {Z : Ad}
/-! ### the dice and the tables change, the rest stays -/
structure Dn (T : List (Addr × Str)) (d : Addr) (H H' : Hp) : Prop where
  keep : ∀ b o, b ≠ d → (∀ ps, o ≠ .tbl ps) → H b = some o → H' b = some o
  dice : ∃ x y z : Int, H' d = some (.lst [.int x, .int y, .int z])
  tab : Tabs T H'
theorem tabs_dk {T : List (Addr × Str)} {d : Addr} {H H' : Hp} {xs : List V} (hd : H d = some (.lst xs)) (t : Tabs T H) (k : ∀ b o, b ≠ d → H b = some o → H' b = some o) : Tabs T H' := fun p hp => by
  obtain ⟨ps, h1, h2, h3⟩ := t p hp
  refine ⟨ps, k _ _ (fun e => by rw [e, hd] at h1; cases h1) h1, h2, fun pos cv hc => ?_⟩
  obtain ⟨c, e1, e2⟩ := h3 pos cv hc
  refine ⟨c, e1, k _ _ (fun e => ?_) e2⟩
  rw [e, hd] at e2
  unfold LamX.CodeO at e2
  cases e2
section
variable {T : List (Addr × Str)} {d : Addr} {H H' H2 : Hp}
theorem Dn.refl {x y z : Int} (hd : H d = some (.lst [.int x, .int y, .int z])) (t : Tabs T H) : Dn T d H H := ⟨fun _ _ _ _ e => e, ⟨x, y, z, hd⟩, t⟩
theorem Dn.dk (h : Dn T d H H') (k : Dk d H' H2) : Dn T d H H2 := by
  obtain ⟨x, y, z, hd⟩ := h.dice
  exact ⟨fun b o hb hn e => k.1 b o hb (h.keep b o hb hn e), k.2, tabs_dk hd h.tab k.1⟩
theorem Dn.same (h : Dn T d H H') (k : Same H' H2) : Dn T d H H2 := by
  obtain ⟨x, y, z, hd⟩ := h.dice
  exact h.dk (Dk.of hd k)
theorem Dn.ext (h : Dn T d H H') (k : ExtN H' H2) (t : Tabs T H2) : Dn T d H H2 := by
  obtain ⟨x, y, z, hd⟩ := h.dice
  exact ⟨fun b o hb hn e => k b o (h.keep b o hb hn e) hn, ⟨x, y, z, k _ _ hd (fun ps e => by cases e)⟩, t⟩
theorem Dn.trans (h : Dn T d H H') (k : Dn T d H' H2) : Dn T d H H2 := ⟨fun b o hb hn e => k.keep b o hb hn (h.keep b o hb hn e), k.dice, k.tab⟩
end
/-! ### texts near patterns -/
theorem isPat_dep {l : List Nat} (h : l.length ≤ 20000) (hc : l.count 40 ≤ 24) : isPat (.str (tx l)) = decide (PT.depL l ≠ none) := by
  show ((decide (1 ≤ (tx l).length) && decide ((tx l).length ≤ 20000)) && (match PT.depL l.toArray.toList with
    | some d => decide (d ≤ 24)
    | none => false)) = _
  rw [PT.len_tx, show l.toArray.toList = l from by simp, decide_eq_true h, Bool.and_true]
  cases hd : PT.depL l with
  | none => simp
  | some x =>
    have h1 := PT.depL_le hd
    have h2 : 1 ≤ l.length := (PT.depL_sq hd).pos
    rw [decide_eq_true h2]
    simp
    omega
theorem isPat_gd {l : List Nat} (h : l.length ≤ 20000) (hp : isPat (.str (tx l)) = true) : Gd l := by
  have hp : ((decide (1 ≤ (tx l).length) && decide ((tx l).length ≤ 20000)) && (match PT.depL l.toArray.toList with
    | some d => decide (d ≤ 24)
    | none => false)) = true := hp
  rw [show l.toArray.toList = l from by simp, Bool.and_eq_true] at hp
  cases hd : PT.depL l with
  | none => rw [hd] at hp; cases hp.2
  | some x =>
    rw [hd] at hp
    exact ⟨⟨x, PT.depL_sq hd, of_decide_eq_true hp.2⟩, h⟩
/-! ### values that are no texts of patterns, carried on -/
theorem PatO.kp {C : Addr} {H H' : Hp} {a : Addr} {l : List Nat} (k : ∀ b o, (∀ ps, o ≠ .tbl ps) → (∀ xs, o ≠ .lst xs) → H b = some o → H' b = some o) (h : PatO C H a l) : PatO C H' a l := by
  obtain ⟨dx, pp, dd, ww, fs, h1, h2, h3⟩ := h
  refine ⟨dx, pp, dd, ww, fs, ?_, k _ _ (fun _ z => by cases z) (fun _ z => by cases z) h2, h3⟩
  rcases h1 with ⟨h1, h2⟩ | ⟨h1, h2⟩
  · exact .inl ⟨k _ _ (fun _ z => by cases z) (fun _ z => by cases z) h1, h2⟩
  · exact .inr ⟨k _ _ (fun _ z => by unfold SlX.SlO at z; cases z) (fun _ z => by unfold SlX.SlO at z; cases z) h1, k _ _ (fun _ z => by cases z) (fun _ z => by cases z) h2⟩
theorem NoP.dk {C d : Addr} {H H' : Hp} {x y z : Int} {v : V} (hd : H d = some (.lst [.int x, .int y, .int z])) (k : Dk d H H') (hv : v ≠ .ref d) (h : NoP K C H v) : NoP K C H' v := by
  rcases h with ⟨⟨⟨t, p⟩, hz⟩, h2⟩ | ⟨a, l, rfl, h2⟩
  · refine .inl ⟨⟨⟨t, ?_⟩, hz⟩, h2⟩
    cases p with
    | non => exact .non
    | bl b => exact .bl b
    | int i => exact .int i
    | str x => exact .str x
    | lst h => exact .lst (k.1 _ _ (fun e => hv (by rw [e])) h)
    | tup h => exact .tup (k.1 _ _ (fun e => hv (by rw [e])) h)
    | dct h => exact .dct (k.1 _ _ (fun e => hv (by rw [e])) h)
  · exact .inr ⟨a, l, rfl, h2.kp fun b o _ hl e => k.1 b o (fun z => by rw [z, hd] at e; exact hl _ (Option.some.inj e).symm) e⟩
theorem NoP.ext {C : Addr} {H H' : Hp} {v : V} (k : ExtN H H') (h : NoP K C H v) : NoP K C H' v := by
  rcases h with ⟨⟨⟨t, p⟩, hz⟩, h2⟩ | ⟨a, l, rfl, h2⟩
  · refine .inl ⟨⟨⟨t, ?_⟩, hz⟩, h2⟩
    cases p with
    | non => exact .non
    | bl b => exact .bl b
    | int i => exact .int i
    | str x => exact .str x
    | lst h => exact .lst (k _ _ h (fun _ z => by cases z))
    | tup h => exact .tup (k _ _ h (fun _ z => by cases z))
    | dct h => exact .dct (k _ _ h (fun _ z => by cases z))
  · exact .inr ⟨a, l, rfl, h2.kp fun b o ht _ e => k b o e ht⟩
theorem isp_no {C : Addr} {H : Hp} {v : V} {Q : VK} {E : XK} (np : NoP K C H v) (q : ∀ H', Same H H' → Q (.bl false) H') : ∃ i, spIsp K C i [v] H Q E := by
  rcases np with ⟨ok, h⟩ | ⟨a, l, rfl, po⟩
  · exact ⟨true, v, rfl, ok, fun H' e => by rw [h]; exact q H' e⟩
  · exact ⟨false, a, l, rfl, po, q H (Same.refl _)⟩
theorem gdA : Gd [97] := ⟨⟨0, .one ⟨by decide, by decide⟩, by decide⟩, by decide⟩
theorem two_ways {T : List (Addr × Str)} {d : Addr} {H H4 : Hp} {l1 : List Nat} {c : Bool} {K : V → Hp → Prop} {m k : Nat} (dn : Dn T d H H4) (hl : l1.length ≤ m) (hm : m ≤ 4000) (hc : l1.count 40 ≤ k)
    (key : ∀ l2 H3, Dn T d H H3 → l2.length ≤ m + 4 → l2.count 40 ≤ k + 1 → K (.str (tx l2)) H3) : if c = true then spBent [V.ref d, V.str (tx l1)] H4 (fun x H1 => K x H1) E0 else K (.str (tx l1)) H4 := by
  cases c with
  | false => exact key l1 H4 dn (by omega) (by omega)
  | true =>
    obtain ⟨x, y, z, hd⟩ := dn.dice
    exact ⟨d, x, y, z, l1, rfl, hd, by omega, fun l2 H3 k3 h1 h2 => key l2 H3 (dn.dk k3) (by omega) (by omega)⟩
theorem due_way {l2 : List Nat} {H5 : Hp} {K1 : V → Hp → Prop} {K2 : Prop} (hl : l2.length ≤ 4000) (hc : l2.count 40 ≤ 23) (k1 : ∀ x, decide (x = V.int ↑(tx l2).length) = isPat (.str (tx l2)) → K1 x H5) (k2 : false = isPat (.str (tx l2)) → K2) :
    if (!decide (tx l2 = Str.ofString "")) = true then spSeq 24 [V.str (tx l2), V.int 0] H5 (fun x H1 => (tx l2).length ≤ sizeLine ∧ scal x (V.int ↑(tx l2).length) = true ∧ K1 x H1) E0 else K2 := by
  have e := isPat_dep (l := l2) (by omega) (by omega)
  by_cases h0 : l2 = []
  · subst h0
    rw [if_neg (by decide)]
    exact k2 (by rw [e]; rfl)
  · rw [if_pos (by
      rw [decide_eq_false]
      · rfl
      · exact fun z => h0 (PT.tx_inj.mp (show tx l2 = tx [] from z)))]
    refine ⟨l2, 0, rfl, Nat.zero_le _, hl, by rw [List.drop_zero]; omega, fun o ho => ⟨by rw [PT.len_tx]; exact Nat.le_trans hl (by decide), by cases o <;> rfl, k1 _ ?_⟩⟩
    rw [List.drop_zero] at ho
    rw [e]
    refine decide_eq_decide.mpr (Iff.trans ?_ ho.all.symm)
    rw [PT.len_tx]
    cases o with
    | none =>
      show V.int (-1) = V.int _ ↔ _
      constructor
      · intro z
        have z := V.int.inj z
        omega
      · intro z
        cases z
    | some k =>
      show V.int ((0 + k : Nat) : Int) = V.int _ ↔ _
      constructor
      · intro z
        have z := V.int.inj z
        rw [show k = l2.length by omega]
      · intro z
        cases z
        rw [Nat.zero_add]
def spRight (Z : Ad) : Sp := fun vs H Q _ => ∃ (d : Addr) (x y z : Int), vs = [.ref d] ∧ H d = some (.lst [.int x, .int y, .int z]) ∧ Tabs (tabs Z) H ∧ ∀ H', Dn (tabs Z) d H H' → Q (.bl true) H'
theorem ok_right (D : Ds K mg Z) (B : Bt mg) (C0 : Cs mg) (Y : Tx K Z) (TT : Tt mg base Z) : FnOk P w K mg base CX0 41 Z.a_right Z.d_right P_right (spRight Z) := by
  have G_roll := ok_roll (P := P) (w := w) (base := base) D B
  have G_pick := ok_pick (P := P) (w := w) (base := base) D B
  have G_bent := ok_bent (P := P) (w := w) (base := base) D B C0
  have G_drawn_pattern := ok_drawn_pattern (P := P) (w := w) (base := base) D B C0 3 (Nat.le_refl _)
  have G_sequence_end := ok_sequence_end (P := P) (w := w) (base := base) D B C0 24
  have G_is_pattern := ok_isp (P := P) (w := w) (base := base) D B C0 Y
  have G_Pattern___init__ := ok_Pattern___init__ (P := P) (w := w) (base := base) D B C0
  have GX_Pattern___init__ := okX_Pattern___init__ (P := P) (w := w) (base := base) D B C0 Y
  obtain ⟨⟨t_LIMIT, c_LIMIT⟩, ⟨t_ALPHABET, c_ALPHABET⟩, ⟨t_MAX_TEXT, c_MAX_TEXT⟩, ⟨t_MAX_SIGNS, c_MAX_SIGNS⟩, ⟨t_MAX_DEPTH, c_MAX_DEPTH⟩, ⟨t_OPEN, c_OPEN⟩, ⟨t_SHUT, c_SHUT⟩, ⟨t_AGAIN, c_AGAIN⟩⟩ := C0
  refine okL D.right.F TT.c_right sc_right (fun vs H Q E h => ?_) (fun A outer s H vs Q E hr h => ?_)
  · obtain ⟨d, x, y, z, rfl, _⟩ := h
    rfl
  · obtain ⟨d, x, y, z, rfl, hd, tab, q⟩ := h
    refine ⟨_, (pss_cons (ps_set (i := 1) sc_right.nd rfl (Or.inl rfl) (pe_df D.drawn_pattern G_drawn_pattern (hr.mono (by decide)) (by rfl) (pa_cons (pv 0) (pa_cons (pe_lst (pa_cons pe_str (pa_cons pe_str pa_nil))) (pa_cons pe_int (pa_cons pe_int pa_nil))))))
    (pss_cons (ps_for PassesOwn.never rfl (pi_range1 (by rfl) B.range (pa_cons pe_int pa_nil)) (pg_name (i := 2) sc_right.nd rfl (Or.inl rfl))
      (pss_cons (ps_set (i := 3) sc_right.nd rfl (Or.inr rfl) (pe_df D.bent G_bent (hr.mono (by decide)) (by rfl) (pa_cons (pv 0) (pa_cons (pv 1) pa_nil))))
    (pss_cons (ps_set (i := 3) sc_right.nd rfl (Or.inr rfl) (pe_ifExp (pt_cmpR op_eq (pe_df D.roll G_roll (hr.mono (by decide)) (by rfl) (pa_cons (pv 0) (pa_cons pe_int pa_nil))) pe_int (nomark _)) (pe_df D.bent G_bent (hr.mono (by decide)) (by rfl) (pa_cons (pv 0) (pa_cons (pv 3) pa_nil))) (pv 3)))
    (pss_cons (ps_set (i := 4) sc_right.nd rfl (Or.inl rfl) (pe_and (pe_cmpR op_ne (pv 3) pe_str (nomark _)) (pe_one (pe_cmpR op_eq (pe_df D.sequence_end G_sequence_end (hr.mono (by decide)) (by rfl) (pa_cons (pv 3) (pa_cons pe_int pa_nil))) (pe_callB call_len_str (by rfl) B.len (by decide +kernel) (pa_cons (pv 3) pa_nil)) (nomark _)))))
    (pss_one (ps_if (PW.pt (pw_or (pt_cmpR op_ne (pe_callB call_reprB (by rfl) B.repr (by decide +kernel) (pa_cons (pe_df D.is_pattern G_is_pattern (hr.mono (by decide)) (by rfl) (pa_cons (pv 3) pa_nil)) pa_nil)) (pe_callB call_reprB (by rfl) B.repr (by decide +kernel) (pa_cons (pv 4) pa_nil)) (nomark _)) (pw_or1 (pt_cmpR op_eq (pe_lw (T := tabs Z) 7 rfl D.is_word sc_is_word rfl (Or.inl rfl) rfl rfl D.InvalidPattern.g (by decide) (fun _ => rfl) (by rfl) TT.b_right rfl TT.m_right TT.u_right (hr.mono (by decide)) (LamX.lamS_by (by rfl)) rfl (fun _ _ _ _ _ => rfl)
      (fun A outer s H E f c2 hr => (pe_mkX takes_lam D.Pattern D.Pattern___init__ GX_Pattern___init__ (hr.mono (by decide)) (by rfl) (pa_cons (pv 3) pa_nil)))) (pv 4) (nomark _))))) (pss_one (ps_ret pe_bl)) pss_nil))))))
    (pss_cons (ps_set (i := 5) sc_right.nd rfl (Or.inr rfl) (pe_df D.pick G_pick (hr.mono (by decide)) (by rfl) (pa_cons (pv 0) (pa_cons (pe_lst (pa_cons pe_non (pa_cons pe_int (pa_cons pe_bl (pa_cons (pe_tup pa_nil) (pa_cons (pe_tup (pa_cons pe_str pa_nil)) (pa_cons (pe_lst (pa_cons pe_str pa_nil)) (pa_cons pe_dnewK (pa_cons (pe_tup (pa_cons pe_str (pa_cons pe_str pa_nil))) (pa_cons (pe_mkS D.Pattern D.Pattern___init__ G_Pattern___init__ (hr.mono (by decide)) (by rfl) (pa_cons pe_str pa_nil)) pa_nil)))))))))) pa_nil))))
    (pss_one (ps_ret (pe_and (pe_cmpR op_isBl (pe_df D.is_pattern G_is_pattern (hr.mono (by decide)) (by rfl) (pa_cons (pv 5) pa_nil)) pe_bl (nomark _)) (pe_one (pe_lw (T := tabs Z) 7 rfl D.is_word sc_is_word rfl (Or.inl rfl) rfl rfl D.InvalidPattern.g (by decide) (fun _ => rfl) (by rfl) TT.b_right rfl TT.m_right TT.u_right (hr.mono (by decide)) (LamX.lamS_by (by rfl)) rfl (fun _ _ _ _ _ => rfl)
      (fun A outer s H E f c2 hr => (pe_mkX takes_lam D.Pattern D.Pattern___init__ GX_Pattern___init__ (hr.mono (by decide)) (by rfl) (pa_cons (pv 5) pa_nil))))))))))), ?_⟩
    have bd : (30000 : Nat) ≤ sizeLine := by decide
    walk_at "rd"
    refine ⟨Nat.le_trans (by decide) bd, fun p hp => ?_⟩
    have npd : p ≠ d := Dk.ne hd hp
    have e0 := Same.new (o := HO.lst [V.str (Str.ofString "a"), V.str (Str.ofString "b")]) hp
    have hp0 : upd H p (HO.lst [V.str (Str.ofString "a"), V.str (Str.ofString "b")]) p = some (.lst (lts [97, 98])) := upd_same
    have dn0 := (Dn.refl hd tab).same e0
    have hd0 := e0 _ _ hd
    generalize upd H p (HO.lst [V.str (Str.ofString "a"), V.str (Str.ofString "b")]) = H0 at dn0 hd0 hp0 ⊢
    refine ⟨d, p, x, y, z, [97, 98], 3, rfl, by decide, by decide, hd0, npd, hp0, by decide, by decide, fun c hc => ?_, fun l H1 k1 sq hz => ?_⟩
    · unfold PT.Lt
      rcases List.mem_cons.mp hc with rfl | hc
      · decide
      · rw [List.mem_singleton.mp hc]
        decide
    have dn1 := dn0.dk k1
    clear k1 hp0 hd0 dn0 e0 hp npd hd tab
    have hU : 3 * U 3 = 2187 := by decide
    have hzl := zm_len l
    have hlen : l.length ≤ 2200 := by omega
    have hcnt : l.count 40 ≤ 21 := by
      unfold zm at hz
      omega
    clear hU hzl hz
    walk_at "gg"
    refine ⟨by decide, by decide, ?_⟩
    obtain ⟨Pv, hP⟩ := inv_bi (fun (i : Nat) (σ : St) (H' : Hp) => ∃ (o2 o3 o4 : Option V), σ = [some (.ref d), some (.str (tx l)), o2, o3, o4, none] ∧ Dn (tabs Z) d H H')
    refine loop_range Pv ((hP _ _ _).mpr ⟨none, none, none, rfl, dn1⟩) (fun i σ H2 hi hpv => ?_) (fun σ H2 hpv => ?_)
    · obtain ⟨o2, o3, o4, rfl, dn2⟩ := (hP _ _ _).mp hpv
      clear hpv dn1
      obtain ⟨x2, y2, z2, hd2⟩ := dn2.dice
      walk_at "rd"
      walk_at "gg"
      refine ⟨d, x2, y2, z2, l, rfl, hd2, by omega, fun l1 H3 k3 hl1 hc1 => ?_⟩
      have dn3 := dn2.dk k3
      clear hd2 dn2 k3
      obtain ⟨x3, y3, z3, hd3⟩ := dn3.dice
      walk_at "gg"
      refine ⟨d, x3, y3, z3, _, rfl, hd3, by decide, by decide, fun r x4 y4 z4 r0 r1 => ?_⟩
      have dn4 := dn3.dk (Dk.roll x4 y4 z4)
      generalize upd H3 d (HO.lst [.int x4, .int y4, .int z4]) = H4 at dn4 ⊢
      clear hd3 dn3 r0 r1
      walk_at "rd"
      refine two_ways (m := 2204) (k := 22) dn4 (by omega) (by decide) (by omega) (fun l2 H5 dn5 hl2 hc2 => ?_)
      clear hl1 hc1 dn4
      walk_at "gg"
      have fin : ∀ H7 o4', Dn (tabs Z) d H H7 → Pv (i + 1) [some (.ref d), some (.str (tx l)), some (.int ((i : Nat) : Int)), some (.str (tx l2)), o4', none] H7 := fun H7 o4' dn7 => (hP _ _ _).mpr ⟨_, _, _, rfl, dn7⟩
      clear hP
      refine due_way (by omega) (by omega) (fun x hx => ?_) (fun hx => ?_) <;> rw [hx] <;> clear hx
      all_goals
        walk_at "gg"
        refine ⟨true, _, rfl, okv_str (by omega), fun H6 e6 => ⟨_, rfl, ?_⟩⟩
        rw [if_neg (by simp)]
        have dn6 := dn5.same e6
        refine ⟨dn6.tab, fun H7 e7 t7 => ?_⟩
        have dn7 := dn6.ext e7 t7
        clear dn6 e7 t7
        cases hb : isPat (.str (tx l2)) with
        | true =>
          refine mkX_yes (isPat_gd (by omega) hb) (fun y H8 e8 po => ?_)
          have f8 := fun o4' => fin H8 o4' (dn7.same e8)
          clear hb
          walk_at "rd"
          walk_at "gg"
        | false =>
          refine mkX_no (.inl ⟨okv_str (by omega), hb⟩) (fun H8 e8 => ⟨Y.ex, ?_⟩)
          have f8 := fun o4' => fin H8 o4' (dn7.same e8)
          clear hb
          walk_at "rd"
          walk_at "gg"
    · obtain ⟨o2, o3, o4, rfl, dn2⟩ := (hP _ _ _).mp hpv
      clear hpv dn1 hP Pv
      walk_at "gg"
      refine ⟨Nat.zero_le _, fun a1 h1 => ⟨Nat.le_trans (by decide) bd, fun a2 h2 => ⟨Nat.le_trans (by decide) bd, fun a3 h3 => fun a4 h4 => ⟨Nat.le_trans (by decide) bd, fun a5 h5 => ?_⟩⟩⟩⟩
      obtain ⟨x3, y3, z3, hd2⟩ := dn2.dice
      have s1 := Same.new (o := HO.tup []) h1
      have s2 := Same.new (o := HO.tup [V.str (Str.ofString "a")]) h2
      have s3 := Same.new (o := HO.lst [V.str (Str.ofString "a")]) h3
      have s4 := Same.new (o := HO.dK []) h4
      have s5 := Same.new (o := HO.tup [V.str (Str.ofString "a"), V.str (Str.ofString "b")]) h5
      have n1 : a1 ≠ d := Dk.ne hd2 h1
      have n2 : a2 ≠ d := Dk.ne (s1 _ _ hd2) h2
      have n3 : a3 ≠ d := Dk.ne (s2 _ _ (s1 _ _ hd2)) h3
      have n4 : a4 ≠ d := Dk.ne (s3 _ _ (s2 _ _ (s1 _ _ hd2))) h4
      have n5 : a5 ≠ d := Dk.ne (s4 _ _ (s3 _ _ (s2 _ _ (s1 _ _ hd2)))) h5
      have f1 := s5 a1 (HO.tup []) (s4 _ _ (s3 _ _ (s2 _ _ upd_same)))
      have f2 := s5 a2 (HO.tup [V.str (Str.ofString "a")]) (s4 _ _ (s3 _ _ upd_same))
      have f3 := s5 a3 (HO.lst [V.str (Str.ofString "a")]) (s4 _ _ upd_same)
      have f4 := s5 a4 (HO.dK []) upd_same
      have f5 : upd (upd (upd (upd (upd H2 a1 (HO.tup [])) a2 (HO.tup [V.str (Str.ofString "a")])) a3 (HO.lst [V.str (Str.ofString "a")])) a4 (HO.dK [])) a5 (HO.tup [V.str (Str.ofString "a"), V.str (Str.ofString "b")]) a5 = some (HO.tup [V.str (Str.ofString "a"), V.str (Str.ofString "b")]) := upd_same
      have dn3 := ((((dn2.same s1).same s2).same s3).same s4).same s5
      generalize upd (upd (upd (upd (upd H2 a1 (HO.tup [])) a2 (HO.tup [V.str (Str.ofString "a")])) a3 (HO.lst [V.str (Str.ofString "a")])) a4 (HO.dK [])) a5 (HO.tup [V.str (Str.ofString "a"), V.str (Str.ofString "b")]) = H7 at f1 f2 f3 f4 f5 dn3 ⊢
      clear s1 s2 s3 s4 s5 h1 h2 h3 h4 h5 hd2 dn2
      obtain ⟨x4, y4, z4, hd3⟩ := dn3.dice
      refine mk_pat (l := [97]) gdA (fun a6 H8 e8 po => ⟨Nat.le_trans (by decide) bd, fun a7 h7 => ?_⟩)
      have s7 := Same.new (o := HO.lst [V.non, V.int 0, V.bl true, V.ref a1, V.ref a2, V.ref a3, V.ref a4, V.ref a5, V.ref a6]) h7
      have n7 : a7 ≠ d := Dk.ne (e8 _ _ hd3) h7
      have f7 : upd H8 a7 (HO.lst [V.non, V.int 0, V.bl true, V.ref a1, V.ref a2, V.ref a3, V.ref a4, V.ref a5, V.ref a6]) a7 = some (HO.lst [V.non, V.int 0, V.bl true, V.ref a1, V.ref a2, V.ref a3, V.ref a4, V.ref a5, V.ref a6]) := upd_same
      have e9 := e8.trans s7
      replace f1 := e9 _ _ f1
      replace f2 := e9 _ _ f2
      replace f3 := e9 _ _ f3
      replace f4 := e9 _ _ f4
      replace f5 := e9 _ _ f5
      replace hd3 := e9 _ _ hd3
      replace po := po.same s7
      replace dn3 := dn3.same e9
      generalize upd H8 a7 (HO.lst [V.non, V.int 0, V.bl true, V.ref a1, V.ref a2, V.ref a3, V.ref a4, V.ref a5, V.ref a6]) = H9 at f1 f2 f3 f4 f5 hd3 po dn3 f7 ⊢
      clear s7 e9 e8 h7
      have n6 : a6 ≠ d := fun e => by
        obtain ⟨dx, pp, dd, ww, fs, hs, _⟩ := po
        rw [e] at hs
        rcases hs with ⟨h1, _⟩ | ⟨h1, _⟩
        · rw [hd3] at h1; cases h1
        · rw [hd3] at h1
          unfold SlX.SlO at h1
          cases h1
      refine ⟨d, x4, y4, z4, .ref a7, _, rfl, hd3, .inl ⟨a7, rfl, n7, f7⟩, by simp, by simp, fun v hv x5 y5 z5 => ?_⟩
      have np : NoP K Z.c_Pattern H9 v ∧ v ≠ .ref d := by
        simp only [List.mem_cons, List.not_mem_nil, or_false] at hv
        rcases hv with rfl | rfl | rfl | rfl | rfl | rfl | rfl | rfl | rfl
        · exact ⟨.inl ⟨⟨⟨_, .non⟩, by decide⟩, rfl⟩, fun z => by cases z⟩
        · exact ⟨.inl ⟨⟨⟨_, .int _⟩, by decide⟩, rfl⟩, fun z => by cases z⟩
        · exact ⟨.inl ⟨⟨⟨_, .bl _⟩, by decide⟩, rfl⟩, fun z => by cases z⟩
        · exact ⟨.inl ⟨⟨⟨_, .tup f1⟩, Nat.zero_le _⟩, rfl⟩, fun z => n1 (V.ref.inj z)⟩
        · exact ⟨.inl ⟨⟨⟨_, .tup f2⟩, Nat.zero_le _⟩, rfl⟩, fun z => n2 (V.ref.inj z)⟩
        · exact ⟨.inl ⟨⟨⟨_, .lst f3⟩, Nat.zero_le _⟩, rfl⟩, fun z => n3 (V.ref.inj z)⟩
        · exact ⟨.inl ⟨⟨⟨_, .dct f4⟩, Nat.zero_le _⟩, rfl⟩, fun z => n4 (V.ref.inj z)⟩
        · exact ⟨.inl ⟨⟨⟨_, .tup f5⟩, Nat.zero_le _⟩, rfl⟩, fun z => n5 (V.ref.inj z)⟩
        · exact ⟨.inr ⟨a6, _, rfl, po⟩, fun z => n6 (V.ref.inj z)⟩
      have k6 : Dk d H9 (upd H9 d (HO.lst [.int x5, .int y5, .int z5])) := Dk.roll x5 y5 z5
      have np2 := np.1.dk hd3 k6 np.2
      have dn4 := dn3.dk k6
      generalize upd H9 d (HO.lst [.int x5, .int y5, .int z5]) = H10 at np2 dn4 ⊢
      clear np f1 f2 f3 f4 f5 hd3 po dn3 f7 k6 hv n1 n2 n3 n4 n5 n6 n7
      walk_at "gg"
      refine isp_no np2 (fun H11 e11 => ?_)
      walk_at "rd"
      have dn5 := dn4.same e11
      refine ⟨dn5.tab, fun H12 e12 t12 => mkX_no ((np2.same e11).ext e12) (fun H13 e13 => ⟨Y.ex, q _ ((dn5.ext e12 t12).same e13)⟩)⟩
end
section
open PT (tx sg)
open LamX (Tabs TabS ExtN)
variable {P : Program} {w : World} {K : PySem.W.Frag} {mg : Str → Option Value} {base : Heap} {Z : Ad}
/-! ### the law -/
def nest : Nat → List Nat
  | 0 => [97]
  | n + 1 => 40 :: (nest n ++ [41, 35])
theorem sq_nest : ∀ n, PT.Sq n (nest n)
  | 0 => .one ⟨by decide, by decide⟩
  | n + 1 => .rep (sq_nest n)
theorem len_nest : ∀ n, (nest n).length = 3 * n + 1
  | 0 => rfl
  | n + 1 => by
    show (40 :: (nest n ++ [41, 35])).length = _
    rw [List.length_cons, List.length_append, len_nest n]
    show _ + 2 + 1 = _
    omega
theorem gd_nest : Gd (nest 24) := ⟨⟨24, sq_nest 24, Nat.le_refl _⟩, by rw [len_nest]; decide⟩
theorem dep_nest : PT.depL (nest 24) = some 24 := by decide +kernel
theorem no_nest : isPat (.str (tx (nest 25))) = false := by decide +kernel
theorem fst_nest : PT.run (PT.fst 1) ⟨none, []⟩ (nest 24) = some ⟨some [97], []⟩ := by decide +kernel
theorem lst_nest : PT.run (PT.lst 1) ⟨none, []⟩ (nest 24) = some ⟨some [97].length, []⟩ := by decide +kernel
theorem sq_times : ∀ n, PT.Sq 0 (PT.times (n + 1) [97])
  | 0 => .one ⟨by decide, by decide⟩
  | n + 1 => by
    have h := PT.Sq.cat (PT.Sq.one (d := 0) (c := 97) ⟨by decide, by decide⟩) (sq_times n)
    exact h
theorem gd_times : Gd (PT.times 20000 [97]) := ⟨⟨0, sq_times 19999, by decide⟩, by rw [PT.times_len]; decide⟩
theorem too_long {l : List Nat} (h : 20000 < l.length) : isPat (.str (tx l)) = false := by
  show ((decide (1 ≤ (tx l).length) && decide ((tx l).length ≤ 20000)) && _) = _
  rw [PT.len_tx, decide_eq_false (show ¬ (l.length ≤ 20000) by omega), Bool.and_false, Bool.false_and]
theorem deep_eq : repS (sg 40) 24 ++ Str.ofString "a" ++ repS (Str.ofString ")#") 24 = tx (nest 24) := by decide +kernel
theorem deeper_eq : sg 40 ++ tx (nest 24) ++ Str.ofString ")#" = tx (nest 25) := by decide +kernel
def badL : List V := [V.str (Str.ofString ""), V.str (Str.ofString "()#"), V.str (Str.ofString "(a)"), V.str (Str.ofString "a#"), V.str (sg 35), V.str (Str.ofString "(a#)"), V.str (Str.ofString "a)#"), V.str (Str.ofString "(a"), V.str (Str.ofString "(a)##"), V.str (Str.ofString "A"), V.str (Str.ofString "a b"), V.str (Str.ofString "((a)#"), V.str (tx (nest 25)), V.str (tx (PT.times 20001 [97]))]
theorem badL_no {H : Hp} {C : Addr} {v : V} (h : v ∈ badL) : NoP K C H v := by
  have key : ∀ s : Str, s.length ≤ 1000000 → isPat (.str s) = false → NoP K C H (.str s) := fun s h1 h2 => .inl ⟨⟨⟨_, .str _⟩, h1⟩, h2⟩
  unfold badL at h
  simp only [List.mem_cons, List.not_mem_nil, or_false] at h
  rcases h with rfl | rfl | rfl | rfl | rfl | rfl | rfl | rfl | rfl | rfl | rfl | rfl | rfl | rfl
  all_goals first
    | exact key _ (by decide +kernel) (by decide +kernel)
    | exact key _ (by rw [PT.len_tx, len_nest]; decide) no_nest
    | exact key _ (by rw [PT.len_tx, PT.times_len]; decide) (too_long (by rw [PT.times_len]; decide))
theorem gdB : Gd [98] := ⟨⟨0, .one ⟨by decide, by decide⟩, by decide⟩, by decide⟩
theorem sql_ext {H H' : Hp} {a : Addr} {xs : List V} (e : ExtN H H') (h : SqL K H a xs) : SqL K H' a xs := by
  rcases h with h | h
  · refine .inl ?_
    rcases h with h | ⟨o, h⟩
    · exact .inl (e _ _ h (fun _ z => by cases z))
    · exact .inr ⟨o, e _ _ h (fun _ z => by cases z)⟩
  · exact .inr h
/-- both patterns, the tables and the list of what was told -/
structure Told (Z : Ad) (u1 u2 pt : Addr) (xs : List V) (H : Hp) : Prop where
  one : PatO Z.c_Pattern H u1 (PT.times 20000 [97])
  two : PatO Z.c_Pattern H u2 (nest 24)
  tab : Tabs (tabs Z) H
  lst : H pt = some (.lst xs)
theorem Told.same {u1 u2 pt : Addr} {xs : List V} {H H' : Hp} (h : Told Z u1 u2 pt xs H) (e : Same H H') : Told Z u1 u2 pt xs H' := ⟨h.one.same e, h.two.same e, h.tab.ext e, e _ _ h.lst⟩
theorem Told.ext {u1 u2 pt : Addr} {xs : List V} {H H' : Hp} (h : Told Z u1 u2 pt xs H) (e : ExtN H H') (t : Tabs (tabs Z) H') : Told Z u1 u2 pt xs H' :=
  ⟨h.one.kp fun b o ht _ hb => e b o hb ht, h.two.kp fun b o ht _ hb => e b o hb ht, t, e _ _ h.lst (fun _ z => by cases z)⟩
theorem Told.put {u1 u2 pt : Addr} {xs : List V} {H : Hp} (h : Told Z u1 u2 pt xs H) (ys : List V) : Told Z u1 u2 pt ys (upd H pt (.lst ys)) := by
  have k : ∀ b o, (∀ ps, o ≠ .tbl ps) → (∀ zs, o ≠ .lst zs) → H b = some o → upd H pt (.lst ys) b = some o := fun b o _ hl hb => by
    rw [upd_ne (fun z => by rw [z, h.lst] at hb; exact hl _ (Option.some.inj hb).symm)]
    exact hb
  exact ⟨h.one.kp k, h.two.kp k, tabs_dk h.lst h.tab (fun b o hb e => by rw [upd_ne hb]; exact e), upd_same⟩
def spLaw (K : PySem.W.Frag) (Z : Ad) : Sp := fun vs H Q _ => ∃ (a : Addr) (ns : List Int), vs = [.ref a] ∧ SqL K H a (ns.map V.int) ∧ ns.length ≤ 63 ∧ Tabs (tabs Z) H ∧ ∀ H', Q (.bl true) H'
theorem ok_law (D : Ds K mg Z) (B : Bt mg) (C0 : Cs mg) (Y : Tx K Z) (TT : Tt mg base Z) : FnOk P w K mg base CX0 61 Z.a_law Z.d_law P_law (spLaw K Z) := by
  have G_dice := ok_dice (P := P) (w := w) (base := base) D B
  have G_right := ok_right (P := P) (w := w) (base := base) D B C0 Y TT
  have G_is_pattern := ok_isp (P := P) (w := w) (base := base) D B C0 Y
  have G_Pattern___init__ := ok_Pattern___init__ (P := P) (w := w) (base := base) D B C0
  have GX_Pattern___init__ := okX_Pattern___init__ (P := P) (w := w) (base := base) D B C0 Y
  have GX_Pattern_repeated := okX_Pattern_repeated (P := P) (w := w) (base := base) D B C0 Y
  have GX_Pattern___add__ := okX_Pattern___add__ (P := P) (w := w) (base := base) D B C0 Y
  have G_Pattern___call__ := ok_Pattern___call__ (P := P) (w := w) (base := base) D B C0
  have G_Pattern_depth := ok_Pattern_depth (P := P) (w := w) (base := base) D B C0
  obtain ⟨⟨t_LIMIT, c_LIMIT⟩, ⟨t_ALPHABET, c_ALPHABET⟩, ⟨t_MAX_TEXT, c_MAX_TEXT⟩, ⟨t_MAX_SIGNS, c_MAX_SIGNS⟩, ⟨t_MAX_DEPTH, c_MAX_DEPTH⟩, ⟨t_OPEN, c_OPEN⟩, ⟨t_SHUT, c_SHUT⟩, ⟨t_AGAIN, c_AGAIN⟩⟩ := C0
  refine okL D.law.F TT.c_law sc_law (fun vs H Q E h => ?_) (fun A outer s H vs Q E hr h => ?_)
  · obtain ⟨a, ns, rfl, _⟩ := h
    rfl
  · obtain ⟨a, ns, rfl, hS, hlen, tab, q⟩ := h
    refine ⟨_, (pss_cons (ps_for PassesOwn.never rfl (pi_range1 (by rfl) B.range (pa_cons (pe_callB (call_max2 rfl) (by rfl) B.max (by decide +kernel) (pa_cons pe_int (pa_cons (pe_callB (call_min2 rfl) (by rfl) B.min (by decide +kernel) (pa_cons pe_int (pa_cons (pe_callB (call_lenK (K := K) rfl) (by rfl) B.len (by decide +kernel) (pa_cons (pv 0) pa_nil)) pa_nil))) pa_nil))) pa_nil)) (pg_name (i := 1) sc_law.nd rfl (Or.inl rfl))
      (pss_cons (ps_set (i := 2) sc_law.nd rfl (Or.inl rfl) (pe_df D.dice G_dice (hr.mono (by decide)) (by rfl) (pa_cons (pv 0) (pa_cons (pv 1) pa_nil))))
    (pss_one (ps_for PassesOwn.never rfl (pi_range1 (by rfl) B.range (pa_cons pe_int pa_nil)) (pg_name (i := 3) sc_law.nd rfl (Or.inl rfl))
      (pss_one (ps_if (pt_not (pt_val (pe_df D.right G_right (hr.mono (by decide)) (by rfl) (pa_cons (pv 2) pa_nil)))) (pss_one (ps_ret pe_bl)) pss_nil))))))
    (pss_cons (ps_set (i := 4) sc_law.nd rfl (Or.inl rfl) (pe_op op_add_str (pe_op op_add_str (pe_op op_repS pe_str pe_int) pe_str) (pe_op op_repS pe_str pe_int)))
    (pss_cons (ps_set (i := 5) sc_law.nd rfl (Or.inl rfl) (pe_lst (pa_cons pe_str (pa_cons pe_str (pa_cons pe_str (pa_cons pe_str (pa_cons pe_str (pa_cons pe_str (pa_cons pe_str (pa_cons pe_str (pa_cons pe_str (pa_cons pe_str (pa_cons pe_str (pa_cons pe_str (pa_cons (pe_op op_add_str (pe_op op_add_str pe_str (pv 4)) pe_str) pa_nil)))))))))))))))
    (pss_cons (ps_expr (pe_lm PySem.F.plainAttrs_list PySem.F.slot_list_append PySem.F.type_list_append mt_append (pv 5) (pa_cons (pe_op op_repS pe_str pe_int) pa_nil)))
    (pss_cons (ps_if (pt_cmpR (op_neK (K := K) rfl hr.units) (pe_lc (own := [("_law_text", 6)]) (g := gName 6) rfl sc_law.nd (pi_listK (K := K) rfl (pv 5)) (blkOk_by (N := N_law) (sc := defScope s_law) (by decide +kernel)) (fun _ _ _ _ _ => (pg_name (i := 6) sc_law.nd rfl (Or.inr rfl))) (fun _ _ _ _ _ => (pts_one (PW.pt (pw_or (pt_val (pe_df D.is_pattern G_is_pattern (hr.mono (by decide)) (by rfl) (pa_cons (pv 6) pa_nil))) (pw_or1 (pt_not (pt_val (pe_lw (T := tabs Z) 7 rfl D.is_word sc_is_word rfl (Or.inl rfl) rfl rfl D.InvalidPattern.g (by decide) (fun _ => rfl) (by rfl) TT.b_law rfl TT.m_law TT.u_law (hr.mono (by decide)) (LamX.lamS_by (by rfl)) rfl (fun _ _ _ _ _ => rfl)
      (fun A outer s H E f c2 hr => (pe_mkX takes_lam D.Pattern D.Pattern___init__ GX_Pattern___init__ (hr.mono (by decide)) (by rfl) (pa_cons (pv 6) pa_nil))))))))))) (fun _ _ _ _ _ => (pv 6))) (pe_lst pa_nil) (nomark _)) (pss_one (ps_ret pe_bl)) pss_nil)
    (pss_cons (ps_asg (pe_tup (pa_cons (pe_mkS D.Pattern D.Pattern___init__ G_Pattern___init__ (hr.mono (by decide)) (by rfl) (pa_cons (pe_op op_repS pe_str pe_int) pa_nil)) (pa_cons (pe_mkS D.Pattern D.Pattern___init__ G_Pattern___init__ (hr.mono (by decide)) (by rfl) (pa_cons (pv 4) pa_nil)) pa_nil))) (pg_tupK (K := K) (n := 2) rfl rfl (pgs_cons (pg_name (i := 7) sc_law.nd rfl (Or.inr rfl)) (pgs_cons (pg_name (i := 8) sc_law.nd rfl (Or.inr rfl)) pgs_nil))))
    (pss_cons (ps_set (i := 9) sc_law.nd rfl (Or.inl rfl) (pe_lst (pa_cons (pe_lw (T := tabs Z) 7 rfl D.is_word sc_is_word rfl (Or.inl rfl) rfl rfl D.InvalidPattern.g (by decide) (fun _ => rfl) (by rfl) TT.b_law rfl TT.m_law TT.u_law (hr.mono (by decide)) (LamX.lamS_by (by rfl)) rfl (fun _ _ _ _ _ => rfl)
      (fun A outer s H E f c2 hr => (pe_op (op_binX (op := .Add) takes_lam D.Pattern D.Pattern___add__ GX_Pattern___add__ (hr.mono (by decide))) (pv 7) (pe_mkX takes_lam D.Pattern D.Pattern___init__ GX_Pattern___init__ (hr.mono (by decide)) (by rfl) (pa_cons pe_str pa_nil))))) pa_nil)))
    (pss_cons (ps_expr (pe_lm PySem.F.plainAttrs_list PySem.F.slot_list_append PySem.F.type_list_append mt_append (pv 9) (pa_cons (pe_lw (T := tabs Z) 7 rfl D.is_word sc_is_word rfl (Or.inl rfl) rfl rfl D.InvalidPattern.g (by decide) (fun _ => rfl) (by rfl) TT.b_law rfl TT.m_law TT.u_law (hr.mono (by decide)) (LamX.lamS_by (by rfl)) rfl (fun _ _ _ _ _ => rfl)
      (fun A outer s H E f c2 hr => (pe_mt0X takes_lam D.Pattern D.Pattern_repeated GX_Pattern_repeated (hr.mono (by decide)) (pv 7)))) pa_nil)))
    (pss_cons (ps_expr (pe_lm PySem.F.plainAttrs_list PySem.F.slot_list_append PySem.F.type_list_append mt_append (pv 9) (pa_cons (pe_lw (T := tabs Z) 7 rfl D.is_word sc_is_word rfl (Or.inl rfl) rfl rfl D.InvalidPattern.g (by decide) (fun _ => rfl) (by rfl) TT.b_law rfl TT.m_law TT.u_law (hr.mono (by decide)) (LamX.lamS_by (by rfl)) rfl (fun _ _ _ _ _ => rfl)
      (fun A outer s H E f c2 hr => (pe_mt0X takes_lam D.Pattern D.Pattern_repeated GX_Pattern_repeated (hr.mono (by decide)) (pv 8)))) pa_nil)))
    (pss_cons (ps_expr (pe_lm PySem.F.plainAttrs_list PySem.F.slot_list_append PySem.F.type_list_append mt_append (pv 9) (pa_cons (pe_lw (T := tabs Z) 7 rfl D.is_word sc_is_word rfl (Or.inl rfl) rfl rfl D.InvalidPattern.g (by decide) (fun _ => rfl) (by rfl) TT.b_law rfl TT.m_law TT.u_law (hr.mono (by decide)) (LamX.lamS_by (by rfl)) rfl (fun _ _ _ _ _ => rfl)
      (fun A outer s H E f c2 hr => (pe_op (op_binX (op := .Add) takes_lam D.Pattern D.Pattern___add__ GX_Pattern___add__ (hr.mono (by decide))) (pv 8) (pe_mkX takes_lam D.Pattern D.Pattern___init__ GX_Pattern___init__ (hr.mono (by decide)) (by rfl) (pa_cons pe_str pa_nil))))) pa_nil)))
    (pss_one (ps_ret (pe_and (pe_cmpR (op_eqK (K := K) rfl hr.units) (pv 9) (pe_lst (pa_cons pe_bl (pa_cons pe_bl (pa_cons pe_bl (pa_cons pe_bl pa_nil))))) (nomark _)) (pe_and (pe_cmpR op_eq (pe_pr D.Pattern D.Pattern_depth G_Pattern_depth (hr.mono (by decide)) (pv 8)) pe_int (nomark _)) (pe_one (pe_cmpR op_eq (pe_callS D.Pattern___call__ D.Pattern_fi G_Pattern___call__ (hr.mono (by decide)) (pv 8) (pa_cons pe_int pa_nil)) pe_str (nomark _))))))))))))))))), ?_⟩
    walk_at "rd"
    refine ⟨_, .inl hS, ?_⟩
    have hm : ∀ k : Nat, (1 : Int) ≤ (if (if (k : Int) < 6 then (k : Int) else 6) > 1 then if (k : Int) < 6 then (k : Int) else 6 else 1) ∧ (if (if (k : Int) < 6 then (k : Int) else 6) > 1 then if (k : Int) < 6 then (k : Int) else 6 else 1) ≤ 6 := by
      intro k
      split <;> split <;> omega
    obtain ⟨m0, m1⟩ := hm (ns.map V.int).length
    generalize (if (if ((ns.map V.int).length : Int) < 6 then ((ns.map V.int).length : Int) else 6) > 1 then if ((ns.map V.int).length : Int) < 6 then ((ns.map V.int).length : Int) else 6 else 1) = m at m0 m1 ⊢
    refine ⟨by omega, by omega, ?_⟩
    obtain ⟨Pv, hP⟩ := inv_bi (fun (i : Nat) (σ : St) (H' : Hp) => ∃ (o1 o2 o3 : Option V), σ = [some (.ref a), o1, o2, o3, none, none, none, none, none, none] ∧ ExtN H H' ∧ Tabs (tabs Z) H')
    refine loop_range Pv ((hP _ _ _).mpr ⟨_, _, _, rfl, ExtN.refl H, tab⟩) ?_ ?_
    · intro i σ H1 hi hp
      obtain ⟨o1, o2, o3, rfl, e1, t1⟩ := (hP _ _ _).mp hp
      clear hp
      walk_at "rd"
      walk_at "gg"
      refine ⟨a, ns, i, rfl, sql_ext e1 hS, fun d x y hd => ?_⟩
      have s2 := Same.new (o := HO.lst [.int x, .int y, .int 0]) hd
      have hd2 : upd H1 d (HO.lst [.int x, .int y, .int 0]) d = some (.lst [.int x, .int y, .int 0]) := upd_same
      generalize upd H1 d (HO.lst [.int x, .int y, .int 0]) = H2 at s2 hd2 ⊢
      have t2 := t1.ext s2
      walk_at "gg"
      refine ⟨by decide, by decide, ?_⟩
      obtain ⟨Rv, hR⟩ := inv_bi (fun (j : Nat) (σ : St) (H' : Hp) => ∃ (o3 : Option V), σ = [some (.ref a), some (.int ((i : Nat) : Int)), some (.ref d), o3, none, none, none, none, none, none] ∧ Dn (tabs Z) d H2 H')
      refine loop_range Rv ((hR _ _ _).mpr ⟨_, rfl, Dn.refl hd2 t2⟩) ?_ ?_
      · intro j σ H3 hj hp
        obtain ⟨o3', rfl, dn⟩ := (hR _ _ _).mp hp
        clear hp
        obtain ⟨x3, y3, z3, hd3⟩ := dn.dice
        walk_at "rd"
        walk_at "gg"
        refine ⟨d, x3, y3, z3, rfl, hd3, dn.tab, fun H4 dn4 => ?_⟩
        have fin := (hR (j + 1) [some (.ref a), some (.int ((i : Nat) : Int)), some (.ref d), some (.int ((j : Nat) : Int)), none, none, none, none, none, none] H4).mpr ⟨_, rfl, dn.trans dn4⟩
        clear hR
        walk_at "rd"
        walk_at "gg"
      · intro σ H3 hp
        obtain ⟨o3', rfl, dn⟩ := (hR _ _ _).mp hp
        clear hp
        refine (hP _ _ _).mpr ⟨_, _, _, rfl, fun b o eb hn => dn.keep b o (fun z => ?_) hn (s2 _ _ (e1 b o eb hn)), dn.tab⟩
        have := e1 b o eb hn
        rw [z, hd] at this
        cases this
    · intro σ H1 hp
      obtain ⟨o1, o2, o3, rfl, e1, t1⟩ := (hP _ _ _).mp hp
      clear hp hP Pv
      have bd : (30000 : Nat) ≤ sizeLine := by decide
      walk_at "gg"
      refine ⟨by decide, by decide, Nat.le_trans (by decide) bd, Nat.le_trans (by decide +kernel) bd, by decide, by decide, Nat.le_trans (by decide) bd, Nat.le_trans (by decide +kernel) bd, ?_⟩
      rw [deep_eq]
      walk_at "gg"
      refine ⟨Nat.le_trans (by decide +kernel) bd, Nat.le_trans (by decide +kernel) bd, Nat.le_trans (by decide) bd, fun p hp => ?_⟩
      rw [deeper_eq]
      have er : repS (Str.ofString "a") 20001 = tx (PT.times 20001 [97]) := PT.repS_tx [97] 20001
      walk_at "gg"
      refine ⟨by decide, by decide, Nat.le_trans (by decide) bd, Nat.lt_of_lt_of_le (by decide) bd, ?_⟩
      rw [show [V.str (Str.ofString ""), V.str (Str.ofString "()#"), V.str (Str.ofString "(a)"), V.str (Str.ofString "a#"), V.str (sg 35), V.str (Str.ofString "(a#)"), V.str (Str.ofString "a)#"), V.str (Str.ofString "(a"), V.str (Str.ofString "(a)##"), V.str (Str.ofString "A"), V.str (Str.ofString "a b"), V.str (Str.ofString "((a)#"), V.str (tx (nest 25)), V.str (tx (PT.times 20001 [97]))] = badL from rfl]
      have s2 := Same.new (o := HO.lst badL) hp
      have hb : upd H1 p (HO.lst badL) p = some (.lst badL) := upd_same
      generalize upd H1 p (HO.lst badL) = H2 at s2 hb ⊢
      have t2 := t1.ext s2
      clear hp s2 t1 e1 er
      walk_at "go"
      refine ⟨⟨_, SqL.of hb⟩, fun De hD => ?_⟩
      refine lc_list (K := K) (a := p) (xs := badL) (fun i H' => H' p = some (.lst badL) ∧ Tabs (tabs Z) H' ∧ H' De = some (.lst [])) ?_ (fun i H' _ h => SqL.of h.1) (fun i x H' hx ⟨h1, h2, h3⟩ => ?_) (fun H' ⟨h1, h2, h3⟩ => ?_)
      · have sD := Same.new (o := HO.lst []) hD
        exact ⟨sD _ _ hb, t2.ext sD, upd_same⟩
      · have np : NoP K Z.c_Pattern H' x := badL_no (List.mem_of_getElem? hx)
        walk_at "rd"
        refine isp_no np (fun H3 e3 => ?_)
        walk_at "rd"
        have t3 := h2.ext e3
        refine ⟨t3, fun H4 e4 t4 => mkX_no ((np.same e3).ext e4) (fun H5 e5 => ⟨Y.ex, ?_⟩)⟩
        have k5 : ∀ b xs, H' b = some (.lst xs) → H5 b = some (.lst xs) := fun b xs e => e5 _ _ (e4 _ _ (e3 _ _ e) (fun _ z => by cases z))
        have f5 := k5 _ _ h1
        have g5 := k5 _ _ h3
        have t5 := t4.ext e5
        walk_at "rd"
        done
      · refine ⟨Nat.zero_le _, fun p1 hp1 => ne_same (d := .list []) (.lst (SqL.of (Same.new hp1 _ _ h3)) .nil) (.lst (SqL.of upd_same) .nil) (by decide +kernel) ⟨_, rfl, ?_⟩⟩
        have t3 := h2.ext (Same.new (o := HO.lst []) hp1)
        generalize upd H' p1 (HO.lst []) = H3 at t3 ⊢
        clear hp1 h1 h2 h3 hb t2
        have er : repS (Str.ofString "a") 20000 = tx (PT.times 20000 [97]) := PT.repS_tx [97] 20000
        walk_at "rd"
        walk_at "gg"
        refine ⟨by decide, by decide, Nat.le_trans (by decide) bd, mk_pat gd_times fun u1 H4 e4 po1 => mk_pat gd_nest fun u2 H5 e5 po2 => ?_⟩
        replace po1 := po1.same e5
        have t5 := (t3.ext e4).ext e5
        clear e4 e5 t3 er
        walk_at "rd"
        refine ⟨Nat.le_trans (by decide) bd, fun p2 hp2 => ⟨_, SqT.of upd_same, rfl, _, _, rfl, _, _, rfl, rfl, ?_⟩⟩
        have s6 := Same.new (o := HO.tup [V.ref u1, V.ref u2]) hp2
        replace po1 := po1.same s6
        replace po2 := po2.same s6
        have t6 := t5.ext s6
        generalize upd H5 p2 (HO.tup [V.ref u1, V.ref u2]) = H6 at po1 po2 t6 ⊢
        clear s6 hp2 t5
        walk_at "gg"
        refine fun H7 e7 t7 => mkX_yes (l := [98]) gdB (fun ub H8 e8 pob => ?_)
        have kp : ∀ {H H' H'' : Hp}, ExtN H H' → Same H' H'' → ∀ b o, (∀ ps, o ≠ .tbl ps) → (∀ xs, o ≠ .lst xs) → H b = some o → H'' b = some o := fun e1 e2 b o h _ hb => e2 _ _ (e1 _ _ hb h)
        replace po1 := po1.kp (kp e7 e8)
        replace po2 := po2.kp (kp e7 e8)
        have t8 := t7.ext e8
        clear e7 e8 t7 t6
        obtain ⟨dxa, _, _, _, _, hsa, _⟩ := id po1
        obtain ⟨dxb, _, _, _, _, hsb, _⟩ := id pob
        refine ⟨u1, dxa, _, ub, dxb, _, rfl, rfl, hsa, hsb, u1, ub, _, [98], rfl, po1, pob, .inr ⟨too_long (by rw [List.length_append, PT.times_len]; decide), fun H9 e9 => ⟨Y.ex, ?_⟩⟩⟩
        replace po1 := po1.same e9
        replace po2 := po2.same e9
        have t9 := t8.ext e9
        clear t8 hsa hsb pob e9
        refine ⟨Nat.le_trans (by decide) bd, fun pt hpt => ?_⟩
        have s10 := Same.new (o := HO.lst [V.bl true]) hpt
        have to : Told Z u1 u2 pt [V.bl true] (upd H9 pt (HO.lst [V.bl true])) := ⟨po1.same s10, po2.same s10, t9.ext s10, upd_same⟩
        generalize upd H9 pt (HO.lst [V.bl true]) = H10 at to ⊢
        clear s10 hpt t9 po1 po2 kp
        walk_at "gg"
        refine ⟨_, to.lst, to.tab, fun H11 e11 t11 => ?_⟩
        replace to := to.ext e11 t11
        clear e11 t11
        obtain ⟨dxc, _, _, _, _, hsc, _⟩ := id to.one
        refine ⟨dxc, _, hsc, u1, _, rfl, to.one, .inr ⟨too_long (by rw [List.length_cons, List.length_append, PT.times_len]; decide), fun H12 e12 => ⟨Y.ex, _, (to.same e12).lst, Nat.lt_of_lt_of_le (by decide) bd, ?_⟩⟩⟩
        replace to := (to.same e12).put [V.bl true, V.bl true]
        rw [show [V.bl true] ++ [V.bl true] = [V.bl true, V.bl true] from rfl]
        generalize upd H12 pt (HO.lst [V.bl true, V.bl true]) = H13 at to ⊢
        clear hsc e12
        walk_at "gg"
        refine ⟨_, to.lst, to.tab, fun H14 e14 t14 => ?_⟩
        replace to := to.ext e14 t14
        clear e14 t14
        obtain ⟨dxd, _, _, _, _, hsd, _⟩ := id to.two
        refine ⟨dxd, _, hsd, u2, _, rfl, to.two, .inr ⟨no_nest, fun H15 e15 => ⟨Y.ex, _, (to.same e15).lst, Nat.lt_of_lt_of_le (by decide) bd, ?_⟩⟩⟩
        replace to := (to.same e15).put [V.bl true, V.bl true, V.bl true]
        rw [show [V.bl true, V.bl true] ++ [V.bl true] = [V.bl true, V.bl true, V.bl true] from rfl]
        generalize upd H15 pt (HO.lst [V.bl true, V.bl true, V.bl true]) = H16 at to ⊢
        clear hsd e15
        walk_at "gg"
        refine ⟨_, to.lst, to.tab, fun H17 e17 t17 => mkX_yes (l := [98]) gdB (fun uc H18 e18 poc => ?_)⟩
        replace to := (to.ext e17 t17).same e18
        clear e17 t17 e18
        obtain ⟨dxe, _, _, _, _, hse, _⟩ := id to.two
        obtain ⟨dxf, _, _, _, _, hsf, _⟩ := id poc
        refine ⟨u2, dxe, _, uc, dxf, _, rfl, rfl, hse, hsf, u2, uc, _, [98], rfl, to.two, poc, .inl ⟨gd_nest.cat gdB (by rw [len_nest]; decide), fun ud H19 e19 _ => ?_⟩⟩
        replace to := to.same e19
        clear e19 hse hsf poc
        refine ⟨_, to.lst, Nat.lt_of_lt_of_le (by decide) bd, ?_⟩
        replace to := to.put [V.bl true, V.bl true, V.bl true, V.bl false]
        rw [show [V.bl true, V.bl true, V.bl true] ++ [V.bl false] = [V.bl true, V.bl true, V.bl true, V.bl false] from rfl]
        generalize upd H19 pt (HO.lst [V.bl true, V.bl true, V.bl true, V.bl false]) = H20 at to ⊢
        walk_at "gg"
        refine ⟨Nat.le_trans (by decide) bd, fun p9 hp9 => ?_⟩
        replace to := to.same (Same.new (o := HO.lst [V.bl true, V.bl true, V.bl true, V.bl false]) hp9)
        refine eq_same (d := .list [.bool true, .bool true, .bool true, .bool false]) (.lst (SqL.of to.lst) (.cons (.bl _) (.cons (.bl _) (.cons (.bl _) (.cons (.bl _) .nil))))) (.lst (SqL.of upd_same) (.cons (.bl _) (.cons (.bl _) (.cons (.bl _) (.cons (.bl _) .nil))))) (by decide +kernel) ⟨_, rfl, ?_⟩
        rw [if_pos rfl]
        obtain ⟨dx, pp, dd, ww, fs, hs, hpp, edp, _⟩ := id to.two
        obtain rfl : 24 = dd := Option.some.inj (dep_nest.symm.trans edp)
        refine ⟨dx, _, hs, u2, dx, pp, nest 24, 24, ww, rfl, hs, rfl, ?_⟩
        rw [if_pos (decide_eq_true (show V.int ((24 : Nat) : Int) = V.int 24 from rfl))]
        refine ⟨⟨dx, _, hs⟩, u2, nest 24, 1, [97], rfl, to.two, by decide, by decide +kernel, lst_nest, fst_nest, by decide, fun H21 e21 => ⟨rfl, ?_⟩⟩
        rw [decide_eq_true (show V.str (tx [97]) = V.str (Str.ofString "a") from rfl)]
        exact q _
end

/-! ### what the top has written -/
theorem all_mk {l : PySem.W.OpenLaw} {w : World} {K : PySem.W.Frag} {h : Heap} {mg : Str → Option Value} {fa : Addr} {qp : Program} (X : K.In h) (G : h.Ns mainGlobals mg) (hfa : mg "law" = some (.ref fa)) (tabs_ : ∀ (y : Str) (c P : Addr), ((recsOf qp).find? fun e => e.name == y).isSome = true → PySem.W.tabIn K y = some (c, P) → PySem.W.CodeHd h c P ∧ h.get? P = some { cls := .none, data := .fields #[] })
    {f1 f2 f3 f4 f5 f6 f7 f8 f9 f10 f11 f12 f13 f14 f15 f16 f17 f18 : Addr} {od1 an1 od2 an2 od3 an3 od4 an4 od5 an5 od6 an6 od7 an7 od8 an8 od9 an9 od10 an10 od11 an11 od12 an12 od13 an13 od14 an14 od15 an15 od16 an16 od17 an17 od18 an18 : Option Addr} {sl1 sl2 sl3 sl4 sl5 sl6 sl7 sl8 sl9 sl10 sl11 sl12 sl13 sl14 sl15 sl16 sl17 sl18 : Array (Option Value)}
    {oc1 kV1 dc1 pm1 cd1 ct1 oc2 kV2 dc2 pm2 cd2 ct2 oc3 kV3 dc3 pm3 cd3 ct3 oc4 kV4 dc4 pm4 cd4 ct4 oc5 kV5 dc5 pm5 cd5 ct5 oc6 kV6 dc6 pm6 cd6 ct6 oc7 kV7 dc7 pm7 cd7 ct7 oc8 kV8 dc8 pm8 cd8 ct8 oc9 kV9 dc9 pm9 cd9 ct9 oc10 kV10 dc10 pm10 cd10 ct10 oc11 kV11 dc11 pm11 cd11 ct11 oc12 kV12 dc12 pm12 cd12 ct12 oc13 kV13 dc13 pm13 cd13 ct13 oc14 kV14 dc14 pm14 cd14 ct14 oc15 kV15 dc15 pm15 cd15 ct15 oc16 kV16 dc16 pm16 cd16 ct16 oc17 kV17 dc17 pm17 cd17 ct17 oc18 kV18 dc18 pm18 cd18 ct18 : Value} {t_LIMIT t_ALPHABET t_MAX_TEXT t_MAX_SIGNS t_MAX_DEPTH t_OPEN t_SHUT t_AGAIN : Tok}
    (a1 : PySem.W.nsIn K mainGlobals "is_integer" = some (some (.ref f1)))
    (l1 : K.lookup f1 = some ⟨oc1, od1, .func (PySem.W.fnOf "is_integer" "is_integer" (defArgs s_is_integer) (defBody s_is_integer) (defScope s_is_integer) .none kV1 dc1 pm1 an1 cd1 ct1), sl1⟩)
    (c1 : PySem.W.codeIn K cd1 "is_integer" = true) (k1 : PySem.W.keepIn K (.ref f1) = true)
    (a2 : PySem.W.nsIn K mainGlobals "is_count" = some (some (.ref f2)))
    (l2 : K.lookup f2 = some ⟨oc2, od2, .func (PySem.W.fnOf "is_count" "is_count" (defArgs s_is_count) (defBody s_is_count) (defScope s_is_count) .none kV2 dc2 pm2 an2 cd2 ct2), sl2⟩)
    (c2 : PySem.W.codeIn K cd2 "is_count" = true) (k2 : PySem.W.keepIn K (.ref f2) = true)
    (a3 : PySem.W.nsIn K mainGlobals "is_spelt" = some (some (.ref f3)))
    (l3 : K.lookup f3 = some ⟨oc3, od3, .func (PySem.W.fnOf "is_spelt" "is_spelt" (defArgs s_is_spelt) (defBody s_is_spelt) (defScope s_is_spelt) .none kV3 dc3 pm3 an3 cd3 ct3), sl3⟩)
    (c3 : PySem.W.codeIn K cd3 "is_spelt" = true) (k3 : PySem.W.keepIn K (.ref f3) = true)
    (a4 : PySem.W.nsIn K mainGlobals "is_letter" = some (some (.ref f4)))
    (l4 : K.lookup f4 = some ⟨oc4, od4, .func (PySem.W.fnOf "is_letter" "is_letter" (defArgs s_is_letter) (defBody s_is_letter) (defScope s_is_letter) .none kV4 dc4 pm4 an4 cd4 ct4), sl4⟩)
    (c4 : PySem.W.codeIn K cd4 "is_letter" = true) (k4 : PySem.W.keepIn K (.ref f4) = true)
    (a5 : PySem.W.nsIn K mainGlobals "depth_of" = some (some (.ref f5)))
    (l5 : K.lookup f5 = some ⟨oc5, od5, .func (PySem.W.fnOf "depth_of" "depth_of" (defArgs s_depth_of) (defBody s_depth_of) (defScope s_depth_of) .none kV5 dc5 pm5 an5 cd5 ct5), sl5⟩)
    (c5 : PySem.W.codeIn K cd5 "depth_of" = true) (k5 : PySem.W.keepIn K (.ref f5) = true)
    (a6 : PySem.W.nsIn K mainGlobals "is_pattern" = some (some (.ref f6)))
    (l6 : K.lookup f6 = some ⟨oc6, od6, .func (PySem.W.fnOf "is_pattern" "is_pattern" (defArgs s_is_pattern) (defBody s_is_pattern) (defScope s_is_pattern) .none kV6 dc6 pm6 an6 cd6 ct6), sl6⟩)
    (c6 : PySem.W.codeIn K cd6 "is_pattern" = true) (k6 : PySem.W.keepIn K (.ref f6) = true)
    (a7 : PySem.W.nsIn K mainGlobals "parts_of" = some (some (.ref f7)))
    (l7 : K.lookup f7 = some ⟨oc7, od7, .func (PySem.W.fnOf "parts_of" "parts_of" (defArgs s_parts_of) (defBody s_parts_of) (defScope s_parts_of) .none kV7 dc7 pm7 an7 cd7 ct7), sl7⟩)
    (c7 : PySem.W.codeIn K cd7 "parts_of" = true) (k7 : PySem.W.keepIn K (.ref f7) = true)
    (a8 : PySem.W.nsIn K mainGlobals "weight_of" = some (some (.ref f8)))
    (l8 : K.lookup f8 = some ⟨oc8, od8, .func (PySem.W.fnOf "weight_of" "weight_of" (defArgs s_weight_of) (defBody s_weight_of) (defScope s_weight_of) .none kV8 dc8 pm8 an8 cd8 ct8), sl8⟩)
    (c8 : PySem.W.codeIn K cd8 "weight_of" = true) (k8 : PySem.W.keepIn K (.ref f8) = true)
    (a9 : PySem.W.nsIn K mainGlobals "require_number" = some (some (.ref f9)))
    (l9 : K.lookup f9 = some ⟨oc9, od9, .func (PySem.W.fnOf "require_number" "require_number" (defArgs s_require_number) (defBody s_require_number) (defScope s_require_number) .none kV9 dc9 pm9 an9 cd9 ct9), sl9⟩)
    (c9 : PySem.W.codeIn K cd9 "require_number" = true) (k9 : PySem.W.keepIn K (.ref f9) = true)
    (a10 : PySem.W.nsIn K mainGlobals "_law_dice" = some (some (.ref f10)))
    (l10 : K.lookup f10 = some ⟨oc10, od10, .func (PySem.W.fnOf "_law_dice" "_law_dice" (defArgs s_dice) (defBody s_dice) (defScope s_dice) .none kV10 dc10 pm10 an10 cd10 ct10), sl10⟩)
    (c10 : PySem.W.codeIn K cd10 "_law_dice" = true) (k10 : PySem.W.keepIn K (.ref f10) = true)
    (a11 : PySem.W.nsIn K mainGlobals "_law_roll" = some (some (.ref f11)))
    (l11 : K.lookup f11 = some ⟨oc11, od11, .func (PySem.W.fnOf "_law_roll" "_law_roll" (defArgs s_roll) (defBody s_roll) (defScope s_roll) .none kV11 dc11 pm11 an11 cd11 ct11), sl11⟩)
    (c11 : PySem.W.codeIn K cd11 "_law_roll" = true) (k11 : PySem.W.keepIn K (.ref f11) = true)
    (a12 : PySem.W.nsIn K mainGlobals "_law_pick" = some (some (.ref f12)))
    (l12 : K.lookup f12 = some ⟨oc12, od12, .func (PySem.W.fnOf "_law_pick" "_law_pick" (defArgs s_pick) (defBody s_pick) (defScope s_pick) .none kV12 dc12 pm12 an12 cd12 ct12), sl12⟩)
    (c12 : PySem.W.codeIn K cd12 "_law_pick" = true) (k12 : PySem.W.keepIn K (.ref f12) = true)
    (a13 : PySem.W.nsIn K mainGlobals "_law_drawn_pattern" = some (some (.ref f13)))
    (l13 : K.lookup f13 = some ⟨oc13, od13, .func (PySem.W.fnOf "_law_drawn_pattern" "_law_drawn_pattern" (defArgs s_drawn_pattern) (defBody s_drawn_pattern) (defScope s_drawn_pattern) .none kV13 dc13 pm13 an13 cd13 ct13), sl13⟩)
    (c13 : PySem.W.codeIn K cd13 "_law_drawn_pattern" = true) (k13 : PySem.W.keepIn K (.ref f13) = true)
    (a14 : PySem.W.nsIn K mainGlobals "_law_sequence_end" = some (some (.ref f14)))
    (l14 : K.lookup f14 = some ⟨oc14, od14, .func (PySem.W.fnOf "_law_sequence_end" "_law_sequence_end" (defArgs s_sequence_end) (defBody s_sequence_end) (defScope s_sequence_end) .none kV14 dc14 pm14 an14 cd14 ct14), sl14⟩)
    (c14 : PySem.W.codeIn K cd14 "_law_sequence_end" = true) (k14 : PySem.W.keepIn K (.ref f14) = true)
    (a15 : PySem.W.nsIn K mainGlobals "_law_is_word" = some (some (.ref f15)))
    (l15 : K.lookup f15 = some ⟨oc15, od15, .func (PySem.W.fnOf "_law_is_word" "_law_is_word" (defArgs s_is_word) (defBody s_is_word) (defScope s_is_word) .none kV15 dc15 pm15 an15 cd15 ct15), sl15⟩)
    (c15 : PySem.W.codeIn K cd15 "_law_is_word" = true) (k15 : PySem.W.keepIn K (.ref f15) = true)
    (a16 : PySem.W.nsIn K mainGlobals "_law_bent" = some (some (.ref f16)))
    (l16 : K.lookup f16 = some ⟨oc16, od16, .func (PySem.W.fnOf "_law_bent" "_law_bent" (defArgs s_bent) (defBody s_bent) (defScope s_bent) .none kV16 dc16 pm16 an16 cd16 ct16), sl16⟩)
    (c16 : PySem.W.codeIn K cd16 "_law_bent" = true) (k16 : PySem.W.keepIn K (.ref f16) = true)
    (a17 : PySem.W.nsIn K mainGlobals "_law_right" = some (some (.ref f17)))
    (l17 : K.lookup f17 = some ⟨oc17, od17, .func (PySem.W.fnOf "_law_right" "_law_right" (defArgs s_right) (defBody s_right) (defScope s_right) .none kV17 dc17 pm17 an17 cd17 ct17), sl17⟩)
    (c17 : PySem.W.codeIn K cd17 "_law_right" = true) (k17 : PySem.W.keepIn K (.ref f17) = true)
    (a18 : PySem.W.nsIn K mainGlobals "law" = some (some (.ref f18)))
    (l18 : K.lookup f18 = some ⟨oc18, od18, .func (PySem.W.fnOf "law" "law" (defArgs s_law) (defBody s_law) (defScope s_law) .none kV18 dc18 pm18 an18 cd18 ct18), sl18⟩)
    (c18 : PySem.W.codeIn K cd18 "law" = true) (k18 : PySem.W.keepIn K (.ref f18) = true)
    {cc_Pattern : Addr} (ca_Pattern : PySem.W.nsIn K mainGlobals "Pattern" = some (some (.ref cc_Pattern))) (cx_Pattern : obB K cc_Pattern = true)
    {mf_Pattern___init__ : Addr} {mod_Pattern___init__ man_Pattern___init__ : Option Addr} {msl_Pattern___init__ : Array (Option Value)} {moc_Pattern___init__ mkV_Pattern___init__ mdc_Pattern___init__ mpm_Pattern___init__ mcd_Pattern___init__ mct_Pattern___init__ : Value}
    (ma_Pattern___init__ : PySem.W.findIn K (.ref cc_Pattern) "__init__" = some (some (.ref mf_Pattern___init__))) (mi_Pattern___init__ : PySem.W.isFn K (.ref mf_Pattern___init__) = true)
    (ml_Pattern___init__ : K.lookup mf_Pattern___init__ = some ⟨moc_Pattern___init__, mod_Pattern___init__, .func (PySem.W.fnOf "__init__" "Pattern.__init__" (defArgs s_Pattern___init__) (defBody s_Pattern___init__) (defScope s_Pattern___init__) .none mkV_Pattern___init__ mdc_Pattern___init__ mpm_Pattern___init__ man_Pattern___init__ mcd_Pattern___init__ mct_Pattern___init__), msl_Pattern___init__⟩)
    (md_Pattern___init__ : PySem.W.codeIn K mcd_Pattern___init__ "Pattern.__init__" = true) (mk_Pattern___init__ : PySem.W.keepIn K (.ref mf_Pattern___init__) = true)
    {mf_Pattern_length : Addr} {mod_Pattern_length man_Pattern_length : Option Addr} {msl_Pattern_length : Array (Option Value)} {moc_Pattern_length mkV_Pattern_length mdc_Pattern_length mpm_Pattern_length mcd_Pattern_length mct_Pattern_length : Value}
    (ma_Pattern_length : PySem.W.findIn K (.ref cc_Pattern) "length" = some (some (.ref mf_Pattern_length))) (mi_Pattern_length : PySem.W.isFn K (.ref mf_Pattern_length) = true)
    (ml_Pattern_length : K.lookup mf_Pattern_length = some ⟨moc_Pattern_length, mod_Pattern_length, .func (PySem.W.fnOf "length" "Pattern.length" (defArgs s_Pattern_length) (defBody s_Pattern_length) (defScope s_Pattern_length) .none mkV_Pattern_length mdc_Pattern_length mpm_Pattern_length man_Pattern_length mcd_Pattern_length mct_Pattern_length), msl_Pattern_length⟩)
    (md_Pattern_length : PySem.W.codeIn K mcd_Pattern_length "Pattern.length" = true) (mk_Pattern_length : PySem.W.keepIn K (.ref mf_Pattern_length) = true)
    {mf_Pattern_repeated : Addr} {mod_Pattern_repeated man_Pattern_repeated : Option Addr} {msl_Pattern_repeated : Array (Option Value)} {moc_Pattern_repeated mkV_Pattern_repeated mdc_Pattern_repeated mpm_Pattern_repeated mcd_Pattern_repeated mct_Pattern_repeated : Value}
    (ma_Pattern_repeated : PySem.W.findIn K (.ref cc_Pattern) "repeated" = some (some (.ref mf_Pattern_repeated))) (mi_Pattern_repeated : PySem.W.isFn K (.ref mf_Pattern_repeated) = true)
    (ml_Pattern_repeated : K.lookup mf_Pattern_repeated = some ⟨moc_Pattern_repeated, mod_Pattern_repeated, .func (PySem.W.fnOf "repeated" "Pattern.repeated" (defArgs s_Pattern_repeated) (defBody s_Pattern_repeated) (defScope s_Pattern_repeated) .none mkV_Pattern_repeated mdc_Pattern_repeated mpm_Pattern_repeated man_Pattern_repeated mcd_Pattern_repeated mct_Pattern_repeated), msl_Pattern_repeated⟩)
    (md_Pattern_repeated : PySem.W.codeIn K mcd_Pattern_repeated "Pattern.repeated" = true) (mk_Pattern_repeated : PySem.W.keepIn K (.ref mf_Pattern_repeated) = true)
    {mf_Pattern___call__ : Addr} {mod_Pattern___call__ man_Pattern___call__ : Option Addr} {msl_Pattern___call__ : Array (Option Value)} {moc_Pattern___call__ mkV_Pattern___call__ mdc_Pattern___call__ mpm_Pattern___call__ mcd_Pattern___call__ mct_Pattern___call__ : Value}
    (ma_Pattern___call__ : PySem.W.findIn K (.ref cc_Pattern) "__call__" = some (some (.ref mf_Pattern___call__))) (mi_Pattern___call__ : PySem.W.isFn K (.ref mf_Pattern___call__) = true)
    (ml_Pattern___call__ : K.lookup mf_Pattern___call__ = some ⟨moc_Pattern___call__, mod_Pattern___call__, .func (PySem.W.fnOf "__call__" "Pattern.__call__" (defArgs s_Pattern___call__) (defBody s_Pattern___call__) (defScope s_Pattern___call__) .none mkV_Pattern___call__ mdc_Pattern___call__ mpm_Pattern___call__ man_Pattern___call__ mcd_Pattern___call__ mct_Pattern___call__), msl_Pattern___call__⟩)
    (md_Pattern___call__ : PySem.W.codeIn K mcd_Pattern___call__ "Pattern.__call__" = true) (mk_Pattern___call__ : PySem.W.keepIn K (.ref mf_Pattern___call__) = true)
    {mf_Pattern___add__ : Addr} {mod_Pattern___add__ man_Pattern___add__ : Option Addr} {msl_Pattern___add__ : Array (Option Value)} {moc_Pattern___add__ mkV_Pattern___add__ mdc_Pattern___add__ mpm_Pattern___add__ mcd_Pattern___add__ mct_Pattern___add__ : Value}
    (ma_Pattern___add__ : PySem.W.findIn K (.ref cc_Pattern) "__add__" = some (some (.ref mf_Pattern___add__))) (mi_Pattern___add__ : PySem.W.isFn K (.ref mf_Pattern___add__) = true)
    (ml_Pattern___add__ : K.lookup mf_Pattern___add__ = some ⟨moc_Pattern___add__, mod_Pattern___add__, .func (PySem.W.fnOf "__add__" "Pattern.__add__" (defArgs s_Pattern___add__) (defBody s_Pattern___add__) (defScope s_Pattern___add__) .none mkV_Pattern___add__ mdc_Pattern___add__ mpm_Pattern___add__ man_Pattern___add__ mcd_Pattern___add__ mct_Pattern___add__), msl_Pattern___add__⟩)
    (md_Pattern___add__ : PySem.W.codeIn K mcd_Pattern___add__ "Pattern.__add__" = true) (mk_Pattern___add__ : PySem.W.keepIn K (.ref mf_Pattern___add__) = true)
    {mf_Pattern_depth : Addr} {mod_Pattern_depth man_Pattern_depth : Option Addr} {msl_Pattern_depth : Array (Option Value)} {moc_Pattern_depth mkV_Pattern_depth mdc_Pattern_depth mpm_Pattern_depth mcd_Pattern_depth mct_Pattern_depth : Value}
    {mp_Pattern_depth : Addr} {mr_Pattern_depth : List Value} (ma_Pattern_depth : PySem.W.findIn K (.ref cc_Pattern) "depth" = some (some (.ref mp_Pattern_depth))) (mg_Pattern_depth : PySem.W.specialIn K (.ref mp_Pattern_depth) "__get__" = some (some (.builtin "property.__get__")))
    (mt_Pattern_depth : PySem.W.takesIn K (.ref mp_Pattern_depth) = some true) (mc_Pattern_depth : PySem.W.recIn K mp_Pattern_depth "property" = some (.ref mf_Pattern_depth :: mr_Pattern_depth))
    (ml_Pattern_depth : K.lookup mf_Pattern_depth = some ⟨moc_Pattern_depth, mod_Pattern_depth, .func (PySem.W.fnOf "depth" "Pattern.depth" (defArgs s_Pattern_depth) (defBody s_Pattern_depth) (defScope s_Pattern_depth) .none mkV_Pattern_depth mdc_Pattern_depth mpm_Pattern_depth man_Pattern_depth mcd_Pattern_depth mct_Pattern_depth), msl_Pattern_depth⟩)
    (md_Pattern_depth : PySem.W.codeIn K mcd_Pattern_depth "Pattern.depth" = true) (mk_Pattern_depth : PySem.W.keepIn K (.ref mf_Pattern_depth) = true)
    (ce_kn_Pattern : kitN K cc_Pattern = true)
    (ce_fi_Pattern : PySem.W.fnIn K mf_Pattern___call__ = true)
    {mq_Pattern_own_depth : Addr} (mb_Pattern_own_depth : PySem.W.findIn K (.ref cc_Pattern) "own_depth" = some (some (.ref mq_Pattern_own_depth))) (ce_Pattern_own_depth : slB K cc_Pattern mq_Pattern_own_depth "own_depth" 0 = true)
    {mq_Pattern_own_parts : Addr} (mb_Pattern_own_parts : PySem.W.findIn K (.ref cc_Pattern) "own_parts" = some (some (.ref mq_Pattern_own_parts))) (ce_Pattern_own_parts : slB K cc_Pattern mq_Pattern_own_parts "own_parts" 1 = true)
    {mq_Pattern_own_text : Addr} (mb_Pattern_own_text : PySem.W.findIn K (.ref cc_Pattern) "own_text" = some (some (.ref mq_Pattern_own_text))) (ce_Pattern_own_text : slB K cc_Pattern mq_Pattern_own_text "own_text" 2 = true)
    {mq_Pattern_own_weight : Addr} (mb_Pattern_own_weight : PySem.W.findIn K (.ref cc_Pattern) "own_weight" = some (some (.ref mq_Pattern_own_weight))) (ce_Pattern_own_weight : slB K cc_Pattern mq_Pattern_own_weight "own_weight" 3 = true)
    {cc_TextAt : Addr} (ca_TextAt : PySem.W.nsIn K mainGlobals "TextAt" = some (some (.ref cc_TextAt))) (cx_TextAt : oqB K cc_TextAt = true)
    {mf_TextAt___init__ : Addr} {mod_TextAt___init__ man_TextAt___init__ : Option Addr} {msl_TextAt___init__ : Array (Option Value)} {moc_TextAt___init__ mkV_TextAt___init__ mdc_TextAt___init__ mpm_TextAt___init__ mcd_TextAt___init__ mct_TextAt___init__ : Value}
    (ma_TextAt___init__ : PySem.W.findIn K (.ref cc_TextAt) "__init__" = some (some (.ref mf_TextAt___init__))) (mi_TextAt___init__ : PySem.W.isFn K (.ref mf_TextAt___init__) = true)
    (ml_TextAt___init__ : K.lookup mf_TextAt___init__ = some ⟨moc_TextAt___init__, mod_TextAt___init__, .func (PySem.W.fnOf "__init__" "TextAt.__init__" (defArgs s_TextAt___init__) (defBody s_TextAt___init__) (defScope s_TextAt___init__) .none mkV_TextAt___init__ mdc_TextAt___init__ mpm_TextAt___init__ man_TextAt___init__ mcd_TextAt___init__ mct_TextAt___init__), msl_TextAt___init__⟩)
    (md_TextAt___init__ : PySem.W.codeIn K mcd_TextAt___init__ "TextAt.__init__" = true) (mk_TextAt___init__ : PySem.W.keepIn K (.ref mf_TextAt___init__) = true)
    {mf_TextAt_again : Addr} {mod_TextAt_again man_TextAt_again : Option Addr} {msl_TextAt_again : Array (Option Value)} {moc_TextAt_again mkV_TextAt_again mdc_TextAt_again mpm_TextAt_again mcd_TextAt_again mct_TextAt_again : Value}
    (ma_TextAt_again : PySem.W.findIn K (.ref cc_TextAt) "again" = some (some (.ref mf_TextAt_again))) (mi_TextAt_again : PySem.W.isFn K (.ref mf_TextAt_again) = true)
    (ml_TextAt_again : K.lookup mf_TextAt_again = some ⟨moc_TextAt_again, mod_TextAt_again, .func (PySem.W.fnOf "again" "TextAt.again" (defArgs s_TextAt_again) (defBody s_TextAt_again) (defScope s_TextAt_again) .none mkV_TextAt_again mdc_TextAt_again mpm_TextAt_again man_TextAt_again mcd_TextAt_again mct_TextAt_again), msl_TextAt_again⟩)
    (md_TextAt_again : PySem.W.codeIn K mcd_TextAt_again "TextAt.again" = true) (mk_TextAt_again : PySem.W.keepIn K (.ref mf_TextAt_again) = true)
    {mf_TextAt_letter : Addr} {mod_TextAt_letter man_TextAt_letter : Option Addr} {msl_TextAt_letter : Array (Option Value)} {moc_TextAt_letter mkV_TextAt_letter mdc_TextAt_letter mpm_TextAt_letter mcd_TextAt_letter mct_TextAt_letter : Value}
    (ma_TextAt_letter : PySem.W.findIn K (.ref cc_TextAt) "letter" = some (some (.ref mf_TextAt_letter))) (mi_TextAt_letter : PySem.W.isFn K (.ref mf_TextAt_letter) = true)
    (ml_TextAt_letter : K.lookup mf_TextAt_letter = some ⟨moc_TextAt_letter, mod_TextAt_letter, .func (PySem.W.fnOf "letter" "Folding.letter" (defArgs s_TextAt_letter) (defBody s_TextAt_letter) (defScope s_TextAt_letter) .none mkV_TextAt_letter mdc_TextAt_letter mpm_TextAt_letter man_TextAt_letter mcd_TextAt_letter mct_TextAt_letter), msl_TextAt_letter⟩)
    (md_TextAt_letter : PySem.W.codeIn K mcd_TextAt_letter "Folding.letter" = true) (mk_TextAt_letter : PySem.W.keepIn K (.ref mf_TextAt_letter) = true)
    {mf_TextAt_joined : Addr} {mod_TextAt_joined man_TextAt_joined : Option Addr} {msl_TextAt_joined : Array (Option Value)} {moc_TextAt_joined mkV_TextAt_joined mdc_TextAt_joined mpm_TextAt_joined mcd_TextAt_joined mct_TextAt_joined : Value}
    (ma_TextAt_joined : PySem.W.findIn K (.ref cc_TextAt) "joined" = some (some (.ref mf_TextAt_joined))) (mi_TextAt_joined : PySem.W.isFn K (.ref mf_TextAt_joined) = true)
    (ml_TextAt_joined : K.lookup mf_TextAt_joined = some ⟨moc_TextAt_joined, mod_TextAt_joined, .func (PySem.W.fnOf "joined" "Folding.joined" (defArgs s_TextAt_joined) (defBody s_TextAt_joined) (defScope s_TextAt_joined) .none mkV_TextAt_joined mdc_TextAt_joined mpm_TextAt_joined man_TextAt_joined mcd_TextAt_joined mct_TextAt_joined), msl_TextAt_joined⟩)
    (md_TextAt_joined : PySem.W.codeIn K mcd_TextAt_joined "Folding.joined" = true) (mk_TextAt_joined : PySem.W.keepIn K (.ref mf_TextAt_joined) = true)
    {mf_TextAt_fold : Addr} {mod_TextAt_fold man_TextAt_fold : Option Addr} {msl_TextAt_fold : Array (Option Value)} {moc_TextAt_fold mkV_TextAt_fold mdc_TextAt_fold mpm_TextAt_fold mcd_TextAt_fold mct_TextAt_fold : Value}
    (ma_TextAt_fold : PySem.W.findIn K (.ref cc_TextAt) "fold" = some (some (.ref mf_TextAt_fold))) (mi_TextAt_fold : PySem.W.isFn K (.ref mf_TextAt_fold) = true)
    (ml_TextAt_fold : K.lookup mf_TextAt_fold = some ⟨moc_TextAt_fold, mod_TextAt_fold, .func (PySem.W.fnOf "fold" "Folding.fold" (defArgs s_TextAt_fold) (defBody s_TextAt_fold) (defScope s_TextAt_fold) .none mkV_TextAt_fold mdc_TextAt_fold mpm_TextAt_fold man_TextAt_fold mcd_TextAt_fold mct_TextAt_fold), msl_TextAt_fold⟩)
    (md_TextAt_fold : PySem.W.codeIn K mcd_TextAt_fold "Folding.fold" = true) (mk_TextAt_fold : PySem.W.keepIn K (.ref mf_TextAt_fold) = true)
    {mf_TextAt_behind : Addr} {mod_TextAt_behind man_TextAt_behind : Option Addr} {msl_TextAt_behind : Array (Option Value)} {moc_TextAt_behind mkV_TextAt_behind mdc_TextAt_behind mpm_TextAt_behind mcd_TextAt_behind mct_TextAt_behind : Value}
    (ma_TextAt_behind : PySem.W.findIn K (.ref cc_TextAt) "behind" = some (some (.ref mf_TextAt_behind))) (mi_TextAt_behind : PySem.W.isFn K (.ref mf_TextAt_behind) = true)
    (ml_TextAt_behind : K.lookup mf_TextAt_behind = some ⟨moc_TextAt_behind, mod_TextAt_behind, .func (PySem.W.fnOf "behind" "Folding.behind" (defArgs s_TextAt_behind) (defBody s_TextAt_behind) (defScope s_TextAt_behind) .none mkV_TextAt_behind mdc_TextAt_behind mpm_TextAt_behind man_TextAt_behind mcd_TextAt_behind mct_TextAt_behind), msl_TextAt_behind⟩)
    (md_TextAt_behind : PySem.W.codeIn K mcd_TextAt_behind "Folding.behind" = true) (mk_TextAt_behind : PySem.W.keepIn K (.ref mf_TextAt_behind) = true)
    (mb_TextAt_own_number : PySem.W.findIn K (.ref cc_TextAt) "own_number" = some none)
    {cc_LengthAt : Addr} (ca_LengthAt : PySem.W.nsIn K mainGlobals "LengthAt" = some (some (.ref cc_LengthAt))) (cx_LengthAt : oqB K cc_LengthAt = true)
    {mf_LengthAt___init__ : Addr} {mod_LengthAt___init__ man_LengthAt___init__ : Option Addr} {msl_LengthAt___init__ : Array (Option Value)} {moc_LengthAt___init__ mkV_LengthAt___init__ mdc_LengthAt___init__ mpm_LengthAt___init__ mcd_LengthAt___init__ mct_LengthAt___init__ : Value}
    (ma_LengthAt___init__ : PySem.W.findIn K (.ref cc_LengthAt) "__init__" = some (some (.ref mf_LengthAt___init__))) (mi_LengthAt___init__ : PySem.W.isFn K (.ref mf_LengthAt___init__) = true)
    (ml_LengthAt___init__ : K.lookup mf_LengthAt___init__ = some ⟨moc_LengthAt___init__, mod_LengthAt___init__, .func (PySem.W.fnOf "__init__" "TextAt.__init__" (defArgs s_LengthAt___init__) (defBody s_LengthAt___init__) (defScope s_LengthAt___init__) .none mkV_LengthAt___init__ mdc_LengthAt___init__ mpm_LengthAt___init__ man_LengthAt___init__ mcd_LengthAt___init__ mct_LengthAt___init__), msl_LengthAt___init__⟩)
    (md_LengthAt___init__ : PySem.W.codeIn K mcd_LengthAt___init__ "TextAt.__init__" = true) (mk_LengthAt___init__ : PySem.W.keepIn K (.ref mf_LengthAt___init__) = true)
    {mf_LengthAt_again : Addr} {mod_LengthAt_again man_LengthAt_again : Option Addr} {msl_LengthAt_again : Array (Option Value)} {moc_LengthAt_again mkV_LengthAt_again mdc_LengthAt_again mpm_LengthAt_again mcd_LengthAt_again mct_LengthAt_again : Value}
    (ma_LengthAt_again : PySem.W.findIn K (.ref cc_LengthAt) "again" = some (some (.ref mf_LengthAt_again))) (mi_LengthAt_again : PySem.W.isFn K (.ref mf_LengthAt_again) = true)
    (ml_LengthAt_again : K.lookup mf_LengthAt_again = some ⟨moc_LengthAt_again, mod_LengthAt_again, .func (PySem.W.fnOf "again" "TextAt.again" (defArgs s_LengthAt_again) (defBody s_LengthAt_again) (defScope s_LengthAt_again) .none mkV_LengthAt_again mdc_LengthAt_again mpm_LengthAt_again man_LengthAt_again mcd_LengthAt_again mct_LengthAt_again), msl_LengthAt_again⟩)
    (md_LengthAt_again : PySem.W.codeIn K mcd_LengthAt_again "TextAt.again" = true) (mk_LengthAt_again : PySem.W.keepIn K (.ref mf_LengthAt_again) = true)
    {mf_LengthAt_letter : Addr} {mod_LengthAt_letter man_LengthAt_letter : Option Addr} {msl_LengthAt_letter : Array (Option Value)} {moc_LengthAt_letter mkV_LengthAt_letter mdc_LengthAt_letter mpm_LengthAt_letter mcd_LengthAt_letter mct_LengthAt_letter : Value}
    (ma_LengthAt_letter : PySem.W.findIn K (.ref cc_LengthAt) "letter" = some (some (.ref mf_LengthAt_letter))) (mi_LengthAt_letter : PySem.W.isFn K (.ref mf_LengthAt_letter) = true)
    (ml_LengthAt_letter : K.lookup mf_LengthAt_letter = some ⟨moc_LengthAt_letter, mod_LengthAt_letter, .func (PySem.W.fnOf "letter" "LengthAt.letter" (defArgs s_LengthAt_letter) (defBody s_LengthAt_letter) (defScope s_LengthAt_letter) .none mkV_LengthAt_letter mdc_LengthAt_letter mpm_LengthAt_letter man_LengthAt_letter mcd_LengthAt_letter mct_LengthAt_letter), msl_LengthAt_letter⟩)
    (md_LengthAt_letter : PySem.W.codeIn K mcd_LengthAt_letter "LengthAt.letter" = true) (mk_LengthAt_letter : PySem.W.keepIn K (.ref mf_LengthAt_letter) = true)
    {mf_LengthAt_joined : Addr} {mod_LengthAt_joined man_LengthAt_joined : Option Addr} {msl_LengthAt_joined : Array (Option Value)} {moc_LengthAt_joined mkV_LengthAt_joined mdc_LengthAt_joined mpm_LengthAt_joined mcd_LengthAt_joined mct_LengthAt_joined : Value}
    (ma_LengthAt_joined : PySem.W.findIn K (.ref cc_LengthAt) "joined" = some (some (.ref mf_LengthAt_joined))) (mi_LengthAt_joined : PySem.W.isFn K (.ref mf_LengthAt_joined) = true)
    (ml_LengthAt_joined : K.lookup mf_LengthAt_joined = some ⟨moc_LengthAt_joined, mod_LengthAt_joined, .func (PySem.W.fnOf "joined" "Folding.joined" (defArgs s_LengthAt_joined) (defBody s_LengthAt_joined) (defScope s_LengthAt_joined) .none mkV_LengthAt_joined mdc_LengthAt_joined mpm_LengthAt_joined man_LengthAt_joined mcd_LengthAt_joined mct_LengthAt_joined), msl_LengthAt_joined⟩)
    (md_LengthAt_joined : PySem.W.codeIn K mcd_LengthAt_joined "Folding.joined" = true) (mk_LengthAt_joined : PySem.W.keepIn K (.ref mf_LengthAt_joined) = true)
    {mf_LengthAt_fold : Addr} {mod_LengthAt_fold man_LengthAt_fold : Option Addr} {msl_LengthAt_fold : Array (Option Value)} {moc_LengthAt_fold mkV_LengthAt_fold mdc_LengthAt_fold mpm_LengthAt_fold mcd_LengthAt_fold mct_LengthAt_fold : Value}
    (ma_LengthAt_fold : PySem.W.findIn K (.ref cc_LengthAt) "fold" = some (some (.ref mf_LengthAt_fold))) (mi_LengthAt_fold : PySem.W.isFn K (.ref mf_LengthAt_fold) = true)
    (ml_LengthAt_fold : K.lookup mf_LengthAt_fold = some ⟨moc_LengthAt_fold, mod_LengthAt_fold, .func (PySem.W.fnOf "fold" "Folding.fold" (defArgs s_LengthAt_fold) (defBody s_LengthAt_fold) (defScope s_LengthAt_fold) .none mkV_LengthAt_fold mdc_LengthAt_fold mpm_LengthAt_fold man_LengthAt_fold mcd_LengthAt_fold mct_LengthAt_fold), msl_LengthAt_fold⟩)
    (md_LengthAt_fold : PySem.W.codeIn K mcd_LengthAt_fold "Folding.fold" = true) (mk_LengthAt_fold : PySem.W.keepIn K (.ref mf_LengthAt_fold) = true)
    {mf_LengthAt_behind : Addr} {mod_LengthAt_behind man_LengthAt_behind : Option Addr} {msl_LengthAt_behind : Array (Option Value)} {moc_LengthAt_behind mkV_LengthAt_behind mdc_LengthAt_behind mpm_LengthAt_behind mcd_LengthAt_behind mct_LengthAt_behind : Value}
    (ma_LengthAt_behind : PySem.W.findIn K (.ref cc_LengthAt) "behind" = some (some (.ref mf_LengthAt_behind))) (mi_LengthAt_behind : PySem.W.isFn K (.ref mf_LengthAt_behind) = true)
    (ml_LengthAt_behind : K.lookup mf_LengthAt_behind = some ⟨moc_LengthAt_behind, mod_LengthAt_behind, .func (PySem.W.fnOf "behind" "Folding.behind" (defArgs s_LengthAt_behind) (defBody s_LengthAt_behind) (defScope s_LengthAt_behind) .none mkV_LengthAt_behind mdc_LengthAt_behind mpm_LengthAt_behind man_LengthAt_behind mcd_LengthAt_behind mct_LengthAt_behind), msl_LengthAt_behind⟩)
    (md_LengthAt_behind : PySem.W.codeIn K mcd_LengthAt_behind "Folding.behind" = true) (mk_LengthAt_behind : PySem.W.keepIn K (.ref mf_LengthAt_behind) = true)
    (mb_LengthAt_own_number : PySem.W.findIn K (.ref cc_LengthAt) "own_number" = some none)
    {cc_InvalidPattern : Addr} (ca_InvalidPattern : PySem.W.nsIn K mainGlobals "InvalidPattern" = some (some (.ref cc_InvalidPattern))) (cx_InvalidPattern : xkB K cc_InvalidPattern = true)
    (ce_InvalidPattern : PySem.W.excIn K cc_InvalidPattern [.type "ValueError", .type "Exception", .type "BaseException", .type "object"] "ValueError.__new__" = true)
    {tc_right tp_right : Addr} (tt_right : PySem.W.tabIn K "_law_right" = some (tc_right, tp_right)) (tq_right : cd17 = .ref tc_right) (tn_right : K.lookup tp_right = none) (rr_right : ((recsOf qp).find? fun e => e.name == ("_law_right" : Str)).isSome = true)
    {tc_law tp_law : Addr} (tt_law : PySem.W.tabIn K "law" = some (tc_law, tp_law)) (tq_law : cd18 = .ref tc_law) (tn_law : K.lookup tp_law = none) (rr_law : ((recsOf qp).find? fun e => e.name == ("law" : Str)).isSome = true)
    (tz_ne : tp_right ≠ tp_law)
    (tx_ex : PySem.W.exmOne K (.ref cc_InvalidPattern) (.ref cc_InvalidPattern) = some true)
    (tx_ps : PySem.W.kitOne K (.ref cc_Pattern) (.type "str") = some false)
    (n_LIMIT : PySem.W.nsIn K mainGlobals "LIMIT" = some (some (.int (10 ^ 60) t_LIMIT)))
    (n_ALPHABET : PySem.W.nsIn K mainGlobals "ALPHABET" = some (some (.str "abcdefghijklmnopqrstuvwxyz" t_ALPHABET)))
    (n_MAX_TEXT : PySem.W.nsIn K mainGlobals "MAX_TEXT" = some (some (.int 100000 t_MAX_TEXT)))
    (n_MAX_SIGNS : PySem.W.nsIn K mainGlobals "MAX_SIGNS" = some (some (.int 20000 t_MAX_SIGNS)))
    (n_MAX_DEPTH : PySem.W.nsIn K mainGlobals "MAX_DEPTH" = some (some (.int 24 t_MAX_DEPTH)))
    (n_OPEN : PySem.W.nsIn K mainGlobals "OPEN" = some (some (.str "(" t_OPEN)))
    (n_SHUT : PySem.W.nsIn K mainGlobals "SHUT" = some (some (.str ")" t_SHUT)))
    (n_AGAIN : PySem.W.nsIn K mainGlobals "AGAIN" = some (some (.str "#" t_AGAIN)))
    (z_abs : PySem.W.nsIn K mainGlobals "abs" = some none)
    (z_all : PySem.W.nsIn K mainGlobals "all" = some none)
    (z_bool : PySem.W.nsIn K mainGlobals "bool" = some none)
    (z_enumerate : PySem.W.nsIn K mainGlobals "enumerate" = some none)
    (z_int : PySem.W.nsIn K mainGlobals "int" = some none)
    (z_isinstance : PySem.W.nsIn K mainGlobals "isinstance" = some none)
    (z_len : PySem.W.nsIn K mainGlobals "len" = some none)
    (z_max : PySem.W.nsIn K mainGlobals "max" = some none)
    (z_min : PySem.W.nsIn K mainGlobals "min" = some none)
    (z_range : PySem.W.nsIn K mainGlobals "range" = some none)
    (z_repr : PySem.W.nsIn K mainGlobals "repr" = some none)
    (z_str : PySem.W.nsIn K mainGlobals "str" = some none)
    (z_tuple : PySem.W.nsIn K mainGlobals "tuple" = some none) :
    LamX.LawAtS l w K CX0 61 63 "_law_script" mg fa h := by
  have e := hfa.symm.trans (PySem.W.mg_of X G a18)
  cases e
  have F1 := fun_mk (st := s_is_integer) l1 c1 k1
  have b1 := F1.binds (ps := P_is_integer) fun _ _ _ _ _ _ us hl => match us, hl with | [_], _ => rfl
  have F2 := fun_mk (st := s_is_count) l2 c2 k2
  have b2 := F2.binds (ps := P_is_count) fun _ _ _ _ _ _ us hl => match us, hl with | [_], _ => rfl
  have F3 := fun_mk (st := s_is_spelt) l3 c3 k3
  have b3 := F3.binds (ps := P_is_spelt) fun _ _ _ _ _ _ us hl => match us, hl with | [_], _ => rfl
  have F4 := fun_mk (st := s_is_letter) l4 c4 k4
  have b4 := F4.binds (ps := P_is_letter) fun _ _ _ _ _ _ us hl => match us, hl with | [_], _ => rfl
  have F5 := fun_mk (st := s_depth_of) l5 c5 k5
  have b5 := F5.binds (ps := P_depth_of) fun _ _ _ _ _ _ us hl => match us, hl with | [_], _ => rfl
  have F6 := fun_mk (st := s_is_pattern) l6 c6 k6
  have b6 := F6.binds (ps := P_is_pattern) fun _ _ _ _ _ _ us hl => match us, hl with | [_], _ => rfl
  have F7 := fun_mk (st := s_parts_of) l7 c7 k7
  have b7 := F7.binds (ps := P_parts_of) fun _ _ _ _ _ _ us hl => match us, hl with | [_], _ => rfl
  have F8 := fun_mk (st := s_weight_of) l8 c8 k8
  have b8 := F8.binds (ps := P_weight_of) fun _ _ _ _ _ _ us hl => match us, hl with | [_], _ => rfl
  have F9 := fun_mk (st := s_require_number) l9 c9 k9
  have b9 := F9.binds (ps := P_require_number) fun _ _ _ _ _ _ us hl => match us, hl with | [_], _ => rfl
  have F10 := fun_mk (st := s_dice) l10 c10 k10
  have b10 := F10.binds (ps := P_dice) fun _ _ _ _ _ _ us hl => match us, hl with | [_, _], _ => rfl
  have F11 := fun_mk (st := s_roll) l11 c11 k11
  have b11 := F11.binds (ps := P_roll) fun _ _ _ _ _ _ us hl => match us, hl with | [_, _], _ => rfl
  have F12 := fun_mk (st := s_pick) l12 c12 k12
  have b12 := F12.binds (ps := P_pick) fun _ _ _ _ _ _ us hl => match us, hl with | [_, _], _ => rfl
  have F13 := fun_mk (st := s_drawn_pattern) l13 c13 k13
  have b13 := F13.binds (ps := P_drawn_pattern) fun _ _ _ _ _ _ us hl => match us, hl with | [_, _, _, _], _ => rfl
  have F14 := fun_mk (st := s_sequence_end) l14 c14 k14
  have b14 := F14.binds (ps := P_sequence_end) fun _ _ _ _ _ _ us hl => match us, hl with | [_, _], _ => rfl
  have F15 := fun_mk (st := s_is_word) l15 c15 k15
  have b15 := F15.binds (ps := P_is_word) fun _ _ _ _ _ _ us hl => match us, hl with | [_], _ => rfl
  have F16 := fun_mk (st := s_bent) l16 c16 k16
  have b16 := F16.binds (ps := P_bent) fun _ _ _ _ _ _ us hl => match us, hl with | [_, _], _ => rfl
  have F17 := fun_mk (st := s_right) l17 c17 k17
  have b17 := F17.binds (ps := P_right) fun _ _ _ _ _ _ us hl => match us, hl with | [_], _ => rfl
  have F18 := fun_mk (st := s_law) l18 c18 k18
  have b18 := F18.binds (ps := P_law) fun _ _ _ _ _ _ us hl => match us, hl with | [_], _ => rfl
  have F_Pattern___init__ := fun_mk (st := s_Pattern___init__) ml_Pattern___init__ md_Pattern___init__ mk_Pattern___init__
  have b_Pattern___init__ := F_Pattern___init__.binds (ps := P_Pattern___init__) fun _ _ _ _ _ _ us hl => match us, hl with | [_, _], _ => rfl
  have F_Pattern_length := fun_mk (st := s_Pattern_length) ml_Pattern_length md_Pattern_length mk_Pattern_length
  have b_Pattern_length := F_Pattern_length.binds (ps := P_Pattern_length) fun _ _ _ _ _ _ us hl => match us, hl with | [_, _], _ => rfl
  have F_Pattern_repeated := fun_mk (st := s_Pattern_repeated) ml_Pattern_repeated md_Pattern_repeated mk_Pattern_repeated
  have b_Pattern_repeated := F_Pattern_repeated.binds (ps := P_Pattern_repeated) fun _ _ _ _ _ _ us hl => match us, hl with | [_], _ => rfl
  have F_Pattern___call__ := fun_mk (st := s_Pattern___call__) ml_Pattern___call__ md_Pattern___call__ mk_Pattern___call__
  have b_Pattern___call__ := F_Pattern___call__.binds (ps := P_Pattern___call__) fun _ _ _ _ _ _ us hl => match us, hl with | [_, _], _ => rfl
  have F_Pattern___add__ := fun_mk (st := s_Pattern___add__) ml_Pattern___add__ md_Pattern___add__ mk_Pattern___add__
  have b_Pattern___add__ := F_Pattern___add__.binds (ps := P_Pattern___add__) fun _ _ _ _ _ _ us hl => match us, hl with | [_, _], _ => rfl
  have F_Pattern_depth := fun_mk (st := s_Pattern_depth) ml_Pattern_depth md_Pattern_depth mk_Pattern_depth
  have b_Pattern_depth := F_Pattern_depth.binds (ps := P_Pattern_depth) fun _ _ _ _ _ _ us hl => match us, hl with | [_], _ => rfl
  have F_TextAt___init__ := fun_mk (st := s_TextAt___init__) ml_TextAt___init__ md_TextAt___init__ mk_TextAt___init__
  have b_TextAt___init__ := F_TextAt___init__.binds (ps := P_TextAt___init__) fun _ _ _ _ _ _ us hl => match us, hl with | [_, _], _ => rfl
  have F_TextAt_again := fun_mk (st := s_TextAt_again) ml_TextAt_again md_TextAt_again mk_TextAt_again
  have b_TextAt_again := F_TextAt_again.binds (ps := P_TextAt_again) fun _ _ _ _ _ _ us hl => match us, hl with | [_, _, _], _ => rfl
  have F_TextAt_letter := fun_mk (st := s_TextAt_letter) ml_TextAt_letter md_TextAt_letter mk_TextAt_letter
  have b_TextAt_letter := F_TextAt_letter.binds (ps := P_TextAt_letter) fun _ _ _ _ _ _ us hl => match us, hl with | [_, _], _ => rfl
  have F_TextAt_joined := fun_mk (st := s_TextAt_joined) ml_TextAt_joined md_TextAt_joined mk_TextAt_joined
  have b_TextAt_joined := F_TextAt_joined.binds (ps := P_TextAt_joined) fun _ _ _ _ _ _ us hl => match us, hl with | [_, _, _], _ => rfl
  have F_TextAt_fold := fun_mk (st := s_TextAt_fold) ml_TextAt_fold md_TextAt_fold mk_TextAt_fold
  have b_TextAt_fold := F_TextAt_fold.binds (ps := P_TextAt_fold) fun _ _ _ _ _ _ us hl => match us, hl with | [_, _], _ => rfl
  have F_TextAt_behind := fun_mk (st := s_TextAt_behind) ml_TextAt_behind md_TextAt_behind mk_TextAt_behind
  have b_TextAt_behind := F_TextAt_behind.binds (ps := P_TextAt_behind) fun _ _ _ _ _ _ us hl => match us, hl with | [_, _, _], _ => rfl
  have F_LengthAt___init__ := fun_mk (st := s_LengthAt___init__) ml_LengthAt___init__ md_LengthAt___init__ mk_LengthAt___init__
  have b_LengthAt___init__ := F_LengthAt___init__.binds (ps := P_LengthAt___init__) fun _ _ _ _ _ _ us hl => match us, hl with | [_, _], _ => rfl
  have F_LengthAt_again := fun_mk (st := s_LengthAt_again) ml_LengthAt_again md_LengthAt_again mk_LengthAt_again
  have b_LengthAt_again := F_LengthAt_again.binds (ps := P_LengthAt_again) fun _ _ _ _ _ _ us hl => match us, hl with | [_, _, _], _ => rfl
  have F_LengthAt_letter := fun_mk (st := s_LengthAt_letter) ml_LengthAt_letter md_LengthAt_letter mk_LengthAt_letter
  have b_LengthAt_letter := F_LengthAt_letter.binds (ps := P_LengthAt_letter) fun _ _ _ _ _ _ us hl => match us, hl with | [_, _], _ => rfl
  have F_LengthAt_joined := fun_mk (st := s_LengthAt_joined) ml_LengthAt_joined md_LengthAt_joined mk_LengthAt_joined
  have b_LengthAt_joined := F_LengthAt_joined.binds (ps := P_LengthAt_joined) fun _ _ _ _ _ _ us hl => match us, hl with | [_, _, _], _ => rfl
  have F_LengthAt_fold := fun_mk (st := s_LengthAt_fold) ml_LengthAt_fold md_LengthAt_fold mk_LengthAt_fold
  have b_LengthAt_fold := F_LengthAt_fold.binds (ps := P_LengthAt_fold) fun _ _ _ _ _ _ us hl => match us, hl with | [_, _], _ => rfl
  have F_LengthAt_behind := fun_mk (st := s_LengthAt_behind) ml_LengthAt_behind md_LengthAt_behind mk_LengthAt_behind
  have b_LengthAt_behind := F_LengthAt_behind.binds (ps := P_LengthAt_behind) fun _ _ _ _ _ _ us hl => match us, hl with | [_, _, _], _ => rfl
  have X_InvalidPattern := xk_of cx_InvalidPattern
  let Z : Ad := ⟨f1, PySem.W.fnOf "is_integer" "is_integer" (defArgs s_is_integer) (defBody s_is_integer) (defScope s_is_integer) .none kV1 dc1 pm1 an1 cd1 ct1,
    f2, PySem.W.fnOf "is_count" "is_count" (defArgs s_is_count) (defBody s_is_count) (defScope s_is_count) .none kV2 dc2 pm2 an2 cd2 ct2,
    f3, PySem.W.fnOf "is_spelt" "is_spelt" (defArgs s_is_spelt) (defBody s_is_spelt) (defScope s_is_spelt) .none kV3 dc3 pm3 an3 cd3 ct3,
    f4, PySem.W.fnOf "is_letter" "is_letter" (defArgs s_is_letter) (defBody s_is_letter) (defScope s_is_letter) .none kV4 dc4 pm4 an4 cd4 ct4,
    f5, PySem.W.fnOf "depth_of" "depth_of" (defArgs s_depth_of) (defBody s_depth_of) (defScope s_depth_of) .none kV5 dc5 pm5 an5 cd5 ct5,
    f6, PySem.W.fnOf "is_pattern" "is_pattern" (defArgs s_is_pattern) (defBody s_is_pattern) (defScope s_is_pattern) .none kV6 dc6 pm6 an6 cd6 ct6,
    f7, PySem.W.fnOf "parts_of" "parts_of" (defArgs s_parts_of) (defBody s_parts_of) (defScope s_parts_of) .none kV7 dc7 pm7 an7 cd7 ct7,
    f8, PySem.W.fnOf "weight_of" "weight_of" (defArgs s_weight_of) (defBody s_weight_of) (defScope s_weight_of) .none kV8 dc8 pm8 an8 cd8 ct8,
    f9, PySem.W.fnOf "require_number" "require_number" (defArgs s_require_number) (defBody s_require_number) (defScope s_require_number) .none kV9 dc9 pm9 an9 cd9 ct9,
    f10, PySem.W.fnOf "_law_dice" "_law_dice" (defArgs s_dice) (defBody s_dice) (defScope s_dice) .none kV10 dc10 pm10 an10 cd10 ct10,
    f11, PySem.W.fnOf "_law_roll" "_law_roll" (defArgs s_roll) (defBody s_roll) (defScope s_roll) .none kV11 dc11 pm11 an11 cd11 ct11,
    f12, PySem.W.fnOf "_law_pick" "_law_pick" (defArgs s_pick) (defBody s_pick) (defScope s_pick) .none kV12 dc12 pm12 an12 cd12 ct12,
    f13, PySem.W.fnOf "_law_drawn_pattern" "_law_drawn_pattern" (defArgs s_drawn_pattern) (defBody s_drawn_pattern) (defScope s_drawn_pattern) .none kV13 dc13 pm13 an13 cd13 ct13,
    f14, PySem.W.fnOf "_law_sequence_end" "_law_sequence_end" (defArgs s_sequence_end) (defBody s_sequence_end) (defScope s_sequence_end) .none kV14 dc14 pm14 an14 cd14 ct14,
    f15, PySem.W.fnOf "_law_is_word" "_law_is_word" (defArgs s_is_word) (defBody s_is_word) (defScope s_is_word) .none kV15 dc15 pm15 an15 cd15 ct15,
    f16, PySem.W.fnOf "_law_bent" "_law_bent" (defArgs s_bent) (defBody s_bent) (defScope s_bent) .none kV16 dc16 pm16 an16 cd16 ct16,
    f17, PySem.W.fnOf "_law_right" "_law_right" (defArgs s_right) (defBody s_right) (defScope s_right) .none kV17 dc17 pm17 an17 cd17 ct17,
    fa, PySem.W.fnOf "law" "law" (defArgs s_law) (defBody s_law) (defScope s_law) .none kV18 dc18 pm18 an18 cd18 ct18,
    mf_Pattern___init__, PySem.W.fnOf "__init__" "Pattern.__init__" (defArgs s_Pattern___init__) (defBody s_Pattern___init__) (defScope s_Pattern___init__) .none mkV_Pattern___init__ mdc_Pattern___init__ mpm_Pattern___init__ man_Pattern___init__ mcd_Pattern___init__ mct_Pattern___init__,
    mf_Pattern_length, PySem.W.fnOf "length" "Pattern.length" (defArgs s_Pattern_length) (defBody s_Pattern_length) (defScope s_Pattern_length) .none mkV_Pattern_length mdc_Pattern_length mpm_Pattern_length man_Pattern_length mcd_Pattern_length mct_Pattern_length,
    mf_Pattern_repeated, PySem.W.fnOf "repeated" "Pattern.repeated" (defArgs s_Pattern_repeated) (defBody s_Pattern_repeated) (defScope s_Pattern_repeated) .none mkV_Pattern_repeated mdc_Pattern_repeated mpm_Pattern_repeated man_Pattern_repeated mcd_Pattern_repeated mct_Pattern_repeated,
    mf_Pattern___call__, PySem.W.fnOf "__call__" "Pattern.__call__" (defArgs s_Pattern___call__) (defBody s_Pattern___call__) (defScope s_Pattern___call__) .none mkV_Pattern___call__ mdc_Pattern___call__ mpm_Pattern___call__ man_Pattern___call__ mcd_Pattern___call__ mct_Pattern___call__,
    mf_Pattern___add__, PySem.W.fnOf "__add__" "Pattern.__add__" (defArgs s_Pattern___add__) (defBody s_Pattern___add__) (defScope s_Pattern___add__) .none mkV_Pattern___add__ mdc_Pattern___add__ mpm_Pattern___add__ man_Pattern___add__ mcd_Pattern___add__ mct_Pattern___add__,
    mf_Pattern_depth, PySem.W.fnOf "depth" "Pattern.depth" (defArgs s_Pattern_depth) (defBody s_Pattern_depth) (defScope s_Pattern_depth) .none mkV_Pattern_depth mdc_Pattern_depth mpm_Pattern_depth man_Pattern_depth mcd_Pattern_depth mct_Pattern_depth,
    mf_TextAt___init__, PySem.W.fnOf "__init__" "TextAt.__init__" (defArgs s_TextAt___init__) (defBody s_TextAt___init__) (defScope s_TextAt___init__) .none mkV_TextAt___init__ mdc_TextAt___init__ mpm_TextAt___init__ man_TextAt___init__ mcd_TextAt___init__ mct_TextAt___init__,
    mf_TextAt_again, PySem.W.fnOf "again" "TextAt.again" (defArgs s_TextAt_again) (defBody s_TextAt_again) (defScope s_TextAt_again) .none mkV_TextAt_again mdc_TextAt_again mpm_TextAt_again man_TextAt_again mcd_TextAt_again mct_TextAt_again,
    mf_TextAt_letter, PySem.W.fnOf "letter" "Folding.letter" (defArgs s_TextAt_letter) (defBody s_TextAt_letter) (defScope s_TextAt_letter) .none mkV_TextAt_letter mdc_TextAt_letter mpm_TextAt_letter man_TextAt_letter mcd_TextAt_letter mct_TextAt_letter,
    mf_TextAt_joined, PySem.W.fnOf "joined" "Folding.joined" (defArgs s_TextAt_joined) (defBody s_TextAt_joined) (defScope s_TextAt_joined) .none mkV_TextAt_joined mdc_TextAt_joined mpm_TextAt_joined man_TextAt_joined mcd_TextAt_joined mct_TextAt_joined,
    mf_TextAt_fold, PySem.W.fnOf "fold" "Folding.fold" (defArgs s_TextAt_fold) (defBody s_TextAt_fold) (defScope s_TextAt_fold) .none mkV_TextAt_fold mdc_TextAt_fold mpm_TextAt_fold man_TextAt_fold mcd_TextAt_fold mct_TextAt_fold,
    mf_TextAt_behind, PySem.W.fnOf "behind" "Folding.behind" (defArgs s_TextAt_behind) (defBody s_TextAt_behind) (defScope s_TextAt_behind) .none mkV_TextAt_behind mdc_TextAt_behind mpm_TextAt_behind man_TextAt_behind mcd_TextAt_behind mct_TextAt_behind,
    mf_LengthAt___init__, PySem.W.fnOf "__init__" "TextAt.__init__" (defArgs s_LengthAt___init__) (defBody s_LengthAt___init__) (defScope s_LengthAt___init__) .none mkV_LengthAt___init__ mdc_LengthAt___init__ mpm_LengthAt___init__ man_LengthAt___init__ mcd_LengthAt___init__ mct_LengthAt___init__,
    mf_LengthAt_again, PySem.W.fnOf "again" "TextAt.again" (defArgs s_LengthAt_again) (defBody s_LengthAt_again) (defScope s_LengthAt_again) .none mkV_LengthAt_again mdc_LengthAt_again mpm_LengthAt_again man_LengthAt_again mcd_LengthAt_again mct_LengthAt_again,
    mf_LengthAt_letter, PySem.W.fnOf "letter" "LengthAt.letter" (defArgs s_LengthAt_letter) (defBody s_LengthAt_letter) (defScope s_LengthAt_letter) .none mkV_LengthAt_letter mdc_LengthAt_letter mpm_LengthAt_letter man_LengthAt_letter mcd_LengthAt_letter mct_LengthAt_letter,
    mf_LengthAt_joined, PySem.W.fnOf "joined" "Folding.joined" (defArgs s_LengthAt_joined) (defBody s_LengthAt_joined) (defScope s_LengthAt_joined) .none mkV_LengthAt_joined mdc_LengthAt_joined mpm_LengthAt_joined man_LengthAt_joined mcd_LengthAt_joined mct_LengthAt_joined,
    mf_LengthAt_fold, PySem.W.fnOf "fold" "Folding.fold" (defArgs s_LengthAt_fold) (defBody s_LengthAt_fold) (defScope s_LengthAt_fold) .none mkV_LengthAt_fold mdc_LengthAt_fold mpm_LengthAt_fold man_LengthAt_fold mcd_LengthAt_fold mct_LengthAt_fold,
    mf_LengthAt_behind, PySem.W.fnOf "behind" "Folding.behind" (defArgs s_LengthAt_behind) (defBody s_LengthAt_behind) (defScope s_LengthAt_behind) .none mkV_LengthAt_behind mdc_LengthAt_behind mpm_LengthAt_behind man_LengthAt_behind mcd_LengthAt_behind mct_LengthAt_behind,
    cc_Pattern,
    cc_TextAt,
    cc_LengthAt,
    mp_Pattern_depth,
    mq_Pattern_own_depth,
    mq_Pattern_own_parts,
    mq_Pattern_own_text,
    mq_Pattern_own_weight,
    cc_InvalidPattern,
    tc_right,
    tp_right,
    tc_law,
    tp_law⟩
  have B : Bt mg := ⟨PySem.W.mg_none_of X G z_abs, PySem.W.mg_none_of X G z_all, PySem.W.mg_none_of X G z_bool, PySem.W.mg_none_of X G z_enumerate, PySem.W.mg_none_of X G z_int, PySem.W.mg_none_of X G z_isinstance, PySem.W.mg_none_of X G z_len, PySem.W.mg_none_of X G z_max, PySem.W.mg_none_of X G z_min, PySem.W.mg_none_of X G z_range, PySem.W.mg_none_of X G z_repr, PySem.W.mg_none_of X G z_str, PySem.W.mg_none_of X G z_tuple⟩
  have C0 : Cs mg := ⟨⟨_, PySem.W.mg_of X G n_LIMIT⟩, ⟨_, PySem.W.mg_of X G n_ALPHABET⟩, ⟨_, PySem.W.mg_of X G n_MAX_TEXT⟩, ⟨_, PySem.W.mg_of X G n_MAX_SIGNS⟩, ⟨_, PySem.W.mg_of X G n_MAX_DEPTH⟩, ⟨_, PySem.W.mg_of X G n_OPEN⟩, ⟨_, PySem.W.mg_of X G n_SHUT⟩, ⟨_, PySem.W.mg_of X G n_AGAIN⟩⟩
  have D : Ds K mg Z := ⟨⟨F1, PySem.W.mg_of X G a1, b1⟩, ⟨F2, PySem.W.mg_of X G a2, b2⟩, ⟨F3, PySem.W.mg_of X G a3, b3⟩, ⟨F4, PySem.W.mg_of X G a4, b4⟩, ⟨F5, PySem.W.mg_of X G a5, b5⟩, ⟨F6, PySem.W.mg_of X G a6, b6⟩, ⟨F7, PySem.W.mg_of X G a7, b7⟩, ⟨F8, PySem.W.mg_of X G a8, b8⟩, ⟨F9, PySem.W.mg_of X G a9, b9⟩, ⟨F10, PySem.W.mg_of X G a10, b10⟩, ⟨F11, PySem.W.mg_of X G a11, b11⟩, ⟨F12, PySem.W.mg_of X G a12, b12⟩, ⟨F13, PySem.W.mg_of X G a13, b13⟩, ⟨F14, PySem.W.mg_of X G a14, b14⟩, ⟨F15, PySem.W.mg_of X G a15, b15⟩, ⟨F16, PySem.W.mg_of X G a16, b16⟩, ⟨F17, PySem.W.mg_of X G a17, b17⟩, ⟨F18, PySem.W.mg_of X G a18, b18⟩, ⟨F_Pattern___init__, ma_Pattern___init__, mi_Pattern___init__, b_Pattern___init__⟩, ⟨F_Pattern_length, ma_Pattern_length, mi_Pattern_length, b_Pattern_length⟩, ⟨F_Pattern_repeated, ma_Pattern_repeated, mi_Pattern_repeated, b_Pattern_repeated⟩, ⟨F_Pattern___call__, ma_Pattern___call__, mi_Pattern___call__, b_Pattern___call__⟩, ⟨F_Pattern___add__, ma_Pattern___add__, mi_Pattern___add__, b_Pattern___add__⟩, ⟨F_Pattern_depth, ma_Pattern_depth, mg_Pattern_depth, mt_Pattern_depth, ⟨_, mc_Pattern_depth⟩, b_Pattern_depth⟩, ob_of (PySem.W.mg_of X G ca_Pattern) cx_Pattern, ce_kn_Pattern, ce_fi_Pattern, sl_of ce_Pattern_own_depth, sl_of ce_Pattern_own_parts, sl_of ce_Pattern_own_text, sl_of ce_Pattern_own_weight, ⟨F_TextAt___init__, ma_TextAt___init__, mi_TextAt___init__, b_TextAt___init__⟩, ⟨F_TextAt_again, ma_TextAt_again, mi_TextAt_again, b_TextAt_again⟩, ⟨F_TextAt_letter, ma_TextAt_letter, mi_TextAt_letter, b_TextAt_letter⟩, ⟨F_TextAt_joined, ma_TextAt_joined, mi_TextAt_joined, b_TextAt_joined⟩, ⟨F_TextAt_fold, ma_TextAt_fold, mi_TextAt_fold, b_TextAt_fold⟩, ⟨F_TextAt_behind, ma_TextAt_behind, mi_TextAt_behind, b_TextAt_behind⟩, oq_of (PySem.W.mg_of X G ca_TextAt) cx_TextAt, mb_TextAt_own_number, ⟨F_LengthAt___init__, ma_LengthAt___init__, mi_LengthAt___init__, b_LengthAt___init__⟩, ⟨F_LengthAt_again, ma_LengthAt_again, mi_LengthAt_again, b_LengthAt_again⟩, ⟨F_LengthAt_letter, ma_LengthAt_letter, mi_LengthAt_letter, b_LengthAt_letter⟩, ⟨F_LengthAt_joined, ma_LengthAt_joined, mi_LengthAt_joined, b_LengthAt_joined⟩, ⟨F_LengthAt_fold, ma_LengthAt_fold, mi_LengthAt_fold, b_LengthAt_fold⟩, ⟨F_LengthAt_behind, ma_LengthAt_behind, mi_LengthAt_behind, b_LengthAt_behind⟩, oq_of (PySem.W.mg_of X G ca_LengthAt) cx_LengthAt, mb_LengthAt_own_number, ⟨PySem.W.mg_of X G ca_InvalidPattern, X_InvalidPattern, ce_InvalidPattern⟩⟩
  have Y : Tx K Z := ⟨tx_ex, tx_ps⟩
  have r_right := tabs_ _ _ _ rr_right tt_right
  have r_law := tabs_ _ _ _ rr_law tt_law
  refine ⟨Z.d_law, [(tc_right, tp_right), (tc_law, tp_law)], spLaw K Z, (fun p hp => (List.mem_cons.mp hp).elim (fun z => by rw [z]; exact r_right.2) fun hp => by rw [List.mem_singleton.mp hp]; exact r_law.2), (fun p hp => (List.mem_cons.mp hp).elim (fun z => by rw [z]; exact tn_right) fun hp => by rw [List.mem_singleton.mp hp]; exact tn_law), (fun p hp => (List.mem_cons.mp hp).elim (fun z => by rw [z]; exact r_right.1) fun hp => by rw [List.mem_singleton.mp hp]; exact r_law.1), fun s v => .of_eq rfl, fun H a ns hl _ hH hS => ⟨a, ns, rfl, hS, hl, (fun p hp => (List.mem_cons.mp hp).elim (fun z => by rw [z]; exact LamX.TabS.nil (hH (tc_right, tp_right) (.head _))) fun hp => by rw [List.mem_singleton.mp hp]; exact LamX.TabS.nil (hH (tc_law, tp_law) (.tail _ (.head _)))), fun _ => rfl⟩, fun base _ _ TB => ok_law (Z := Z) D B C0 Y ⟨TB (tc_right, tp_right) (.head _), TB (tc_law, tp_law) (.tail _ (.head _)), tq_right, tq_law, tz_ne⟩⟩
end K31
open PySem PySem.W PyProof.Rows in
set_option maxRecDepth 100000 in
set_option maxHeartbeats 0 in
theorem PySem.Challenge.cw_lastprices_k31_texts_that_are_no_pattern_holds : PySem.Challenge.rw_lastprices_k31_texts_that_are_no_pattern.Holds := by
  w_on; o_law; k_head; (case hw => w_witness2)
  k_fill
  refine LP.walk_ofAll (l := PySem.Challenge.rw_lastprices_k31_texts_that_are_no_pattern) (n := 63) (k := 61) (x := "_law_script") rfl (by decide) rfl ⟨rfl, by decide, by decide⟩ (fun w h Y => PySem.W.km_in_of Y) ?F
  case F =>
    intro w mg fa h KX G hmg tabs_
    refine' K31.all_mk KX G hmg tabs_ ?a1 ?l1 ?c1 ?k1 ?a2 ?l2 ?c2 ?k2 ?a3 ?l3 ?c3 ?k3 ?a4 ?l4 ?c4 ?k4 ?a5 ?l5 ?c5 ?k5 ?a6 ?l6 ?c6 ?k6 ?a7 ?l7 ?c7 ?k7 ?a8 ?l8 ?c8 ?k8 ?a9 ?l9 ?c9 ?k9 ?a10 ?l10 ?c10 ?k10 ?a11 ?l11 ?c11 ?k11 ?a12 ?l12 ?c12 ?k12 ?a13 ?l13 ?c13 ?k13 ?a14 ?l14 ?c14 ?k14 ?a15 ?l15 ?c15 ?k15 ?a16 ?l16 ?c16 ?k16 ?a17 ?l17 ?c17 ?k17 ?a18 ?l18 ?c18 ?k18 ?ca_Pattern ?cx_Pattern ?ma_Pattern___init__ ?mi_Pattern___init__ ?ml_Pattern___init__ ?md_Pattern___init__ ?mk_Pattern___init__ ?ma_Pattern_length ?mi_Pattern_length ?ml_Pattern_length ?md_Pattern_length ?mk_Pattern_length ?ma_Pattern_repeated ?mi_Pattern_repeated ?ml_Pattern_repeated ?md_Pattern_repeated ?mk_Pattern_repeated ?ma_Pattern___call__ ?mi_Pattern___call__ ?ml_Pattern___call__ ?md_Pattern___call__ ?mk_Pattern___call__ ?ma_Pattern___add__ ?mi_Pattern___add__ ?ml_Pattern___add__ ?md_Pattern___add__ ?mk_Pattern___add__ ?ma_Pattern_depth ?mg_Pattern_depth ?mt_Pattern_depth ?mc_Pattern_depth ?ml_Pattern_depth ?md_Pattern_depth ?mk_Pattern_depth ?ce_kn_Pattern ?ce_fi_Pattern ?mb_Pattern_own_depth ?ce_Pattern_own_depth ?mb_Pattern_own_parts ?ce_Pattern_own_parts ?mb_Pattern_own_text ?ce_Pattern_own_text ?mb_Pattern_own_weight ?ce_Pattern_own_weight ?ca_TextAt ?cx_TextAt ?ma_TextAt___init__ ?mi_TextAt___init__ ?ml_TextAt___init__ ?md_TextAt___init__ ?mk_TextAt___init__ ?ma_TextAt_again ?mi_TextAt_again ?ml_TextAt_again ?md_TextAt_again ?mk_TextAt_again ?ma_TextAt_letter ?mi_TextAt_letter ?ml_TextAt_letter ?md_TextAt_letter ?mk_TextAt_letter ?ma_TextAt_joined ?mi_TextAt_joined ?ml_TextAt_joined ?md_TextAt_joined ?mk_TextAt_joined ?ma_TextAt_fold ?mi_TextAt_fold ?ml_TextAt_fold ?md_TextAt_fold ?mk_TextAt_fold ?ma_TextAt_behind ?mi_TextAt_behind ?ml_TextAt_behind ?md_TextAt_behind ?mk_TextAt_behind ?mb_TextAt_own_number ?ca_LengthAt ?cx_LengthAt ?ma_LengthAt___init__ ?mi_LengthAt___init__ ?ml_LengthAt___init__ ?md_LengthAt___init__ ?mk_LengthAt___init__ ?ma_LengthAt_again ?mi_LengthAt_again ?ml_LengthAt_again ?md_LengthAt_again ?mk_LengthAt_again ?ma_LengthAt_letter ?mi_LengthAt_letter ?ml_LengthAt_letter ?md_LengthAt_letter ?mk_LengthAt_letter ?ma_LengthAt_joined ?mi_LengthAt_joined ?ml_LengthAt_joined ?md_LengthAt_joined ?mk_LengthAt_joined ?ma_LengthAt_fold ?mi_LengthAt_fold ?ml_LengthAt_fold ?md_LengthAt_fold ?mk_LengthAt_fold ?ma_LengthAt_behind ?mi_LengthAt_behind ?ml_LengthAt_behind ?md_LengthAt_behind ?mk_LengthAt_behind ?mb_LengthAt_own_number ?ca_InvalidPattern ?cx_InvalidPattern ?ce_InvalidPattern ?tt_right ?tq_right ?tn_right ?rr_right ?tt_law ?tq_law ?tn_law ?rr_law ?tz_ne ?tx_ex ?tx_ps ?n_LIMIT ?n_ALPHABET ?n_MAX_TEXT ?n_MAX_SIGNS ?n_MAX_DEPTH ?n_OPEN ?n_SHUT ?n_AGAIN ?z_abs ?z_all ?z_bool ?z_enumerate ?z_int ?z_isinstance ?z_len ?z_max ?z_min ?z_range ?z_repr ?z_str ?z_tuple
    (case a1 => k_is)
    (case l1 => k_is)
    (case c1 => k_is)
    (case k1 => k_is)
    (case a2 => k_is)
    (case l2 => k_is)
    (case c2 => k_is)
    (case k2 => k_is)
    (case a3 => k_is)
    (case l3 => k_is)
    (case c3 => k_is)
    (case k3 => k_is)
    (case a4 => k_is)
    (case l4 => k_is)
    (case c4 => k_is)
    (case k4 => k_is)
    (case a5 => k_is)
    (case l5 => k_is)
    (case c5 => k_is)
    (case k5 => k_is)
    (case a6 => k_is)
    (case l6 => k_is)
    (case c6 => k_is)
    (case k6 => k_is)
    (case a7 => k_is)
    (case l7 => k_is)
    (case c7 => k_is)
    (case k7 => k_is)
    (case a8 => k_is)
    (case l8 => k_is)
    (case c8 => k_is)
    (case k8 => k_is)
    (case a9 => k_is)
    (case l9 => k_is)
    (case c9 => k_is)
    (case k9 => k_is)
    (case a10 => k_is)
    (case l10 => k_is)
    (case c10 => k_is)
    (case k10 => k_is)
    (case a11 => k_is)
    (case l11 => k_is)
    (case c11 => k_is)
    (case k11 => k_is)
    (case a12 => k_is)
    (case l12 => k_is)
    (case c12 => k_is)
    (case k12 => k_is)
    (case a13 => k_is)
    (case l13 => k_is)
    (case c13 => k_is)
    (case k13 => k_is)
    (case a14 => k_is)
    (case l14 => k_is)
    (case c14 => k_is)
    (case k14 => k_is)
    (case a15 => k_is)
    (case l15 => k_is)
    (case c15 => k_is)
    (case k15 => k_is)
    (case a16 => k_is)
    (case l16 => k_is)
    (case c16 => k_is)
    (case k16 => k_is)
    (case a17 => k_is)
    (case l17 => k_is)
    (case c17 => k_is)
    (case k17 => k_is)
    (case a18 => k_is)
    (case l18 => k_is)
    (case c18 => k_is)
    (case k18 => k_is)
    (case ca_Pattern => k_is)
    (case cx_Pattern => kernel_rfl)
    (case ma_Pattern___init__ => k_is)
    (case mi_Pattern___init__ => k_is)
    (case ml_Pattern___init__ => k_is)
    (case md_Pattern___init__ => k_is)
    (case mk_Pattern___init__ => k_is)
    (case ma_Pattern_length => k_is)
    (case mi_Pattern_length => k_is)
    (case ml_Pattern_length => k_is)
    (case md_Pattern_length => k_is)
    (case mk_Pattern_length => k_is)
    (case ma_Pattern_repeated => k_is)
    (case mi_Pattern_repeated => k_is)
    (case ml_Pattern_repeated => k_is)
    (case md_Pattern_repeated => k_is)
    (case mk_Pattern_repeated => k_is)
    (case ma_Pattern___call__ => k_is)
    (case mi_Pattern___call__ => k_is)
    (case ml_Pattern___call__ => k_is)
    (case md_Pattern___call__ => k_is)
    (case mk_Pattern___call__ => k_is)
    (case ma_Pattern___add__ => k_is)
    (case mi_Pattern___add__ => k_is)
    (case ml_Pattern___add__ => k_is)
    (case md_Pattern___add__ => k_is)
    (case mk_Pattern___add__ => k_is)
    (case ma_Pattern_depth => k_is)
    (case mg_Pattern_depth => k_is)
    (case mt_Pattern_depth => k_is)
    (case mc_Pattern_depth => k_is)
    (case ml_Pattern_depth => k_is)
    (case md_Pattern_depth => k_is)
    (case mk_Pattern_depth => k_is)
    (case ce_kn_Pattern => kernel_rfl)
    (case ce_fi_Pattern => kernel_rfl)
    (case mb_Pattern_own_depth => k_is)
    (case ce_Pattern_own_depth => kernel_rfl)
    (case mb_Pattern_own_parts => k_is)
    (case ce_Pattern_own_parts => kernel_rfl)
    (case mb_Pattern_own_text => k_is)
    (case ce_Pattern_own_text => kernel_rfl)
    (case mb_Pattern_own_weight => k_is)
    (case ce_Pattern_own_weight => kernel_rfl)
    (case ca_TextAt => k_is)
    (case cx_TextAt => kernel_rfl)
    (case ma_TextAt___init__ => k_is)
    (case mi_TextAt___init__ => k_is)
    (case ml_TextAt___init__ => k_is)
    (case md_TextAt___init__ => k_is)
    (case mk_TextAt___init__ => k_is)
    (case ma_TextAt_again => k_is)
    (case mi_TextAt_again => k_is)
    (case ml_TextAt_again => k_is)
    (case md_TextAt_again => k_is)
    (case mk_TextAt_again => k_is)
    (case ma_TextAt_letter => k_is)
    (case mi_TextAt_letter => k_is)
    (case ml_TextAt_letter => k_is)
    (case md_TextAt_letter => k_is)
    (case mk_TextAt_letter => k_is)
    (case ma_TextAt_joined => k_is)
    (case mi_TextAt_joined => k_is)
    (case ml_TextAt_joined => k_is)
    (case md_TextAt_joined => k_is)
    (case mk_TextAt_joined => k_is)
    (case ma_TextAt_fold => k_is)
    (case mi_TextAt_fold => k_is)
    (case ml_TextAt_fold => k_is)
    (case md_TextAt_fold => k_is)
    (case mk_TextAt_fold => k_is)
    (case ma_TextAt_behind => k_is)
    (case mi_TextAt_behind => k_is)
    (case ml_TextAt_behind => k_is)
    (case md_TextAt_behind => k_is)
    (case mk_TextAt_behind => k_is)
    (case mb_TextAt_own_number => k_is)
    (case ca_LengthAt => k_is)
    (case cx_LengthAt => kernel_rfl)
    (case ma_LengthAt___init__ => k_is)
    (case mi_LengthAt___init__ => k_is)
    (case ml_LengthAt___init__ => k_is)
    (case md_LengthAt___init__ => k_is)
    (case mk_LengthAt___init__ => k_is)
    (case ma_LengthAt_again => k_is)
    (case mi_LengthAt_again => k_is)
    (case ml_LengthAt_again => k_is)
    (case md_LengthAt_again => k_is)
    (case mk_LengthAt_again => k_is)
    (case ma_LengthAt_letter => k_is)
    (case mi_LengthAt_letter => k_is)
    (case ml_LengthAt_letter => k_is)
    (case md_LengthAt_letter => k_is)
    (case mk_LengthAt_letter => k_is)
    (case ma_LengthAt_joined => k_is)
    (case mi_LengthAt_joined => k_is)
    (case ml_LengthAt_joined => k_is)
    (case md_LengthAt_joined => k_is)
    (case mk_LengthAt_joined => k_is)
    (case ma_LengthAt_fold => k_is)
    (case mi_LengthAt_fold => k_is)
    (case ml_LengthAt_fold => k_is)
    (case md_LengthAt_fold => k_is)
    (case mk_LengthAt_fold => k_is)
    (case ma_LengthAt_behind => k_is)
    (case mi_LengthAt_behind => k_is)
    (case ml_LengthAt_behind => k_is)
    (case md_LengthAt_behind => k_is)
    (case mk_LengthAt_behind => k_is)
    (case mb_LengthAt_own_number => k_is)
    (case ca_InvalidPattern => k_is)
    (case cx_InvalidPattern => kernel_rfl)
    (case ce_InvalidPattern => kernel_rfl)
    (case tt_right => first | k_is | rfl)
    (case tq_right => rfl)
    (case tn_right => first | k_is | rfl)
    (case rr_right => decide +kernel)
    (case tt_law => first | k_is | rfl)
    (case tq_law => rfl)
    (case tn_law => first | k_is | rfl)
    (case rr_law => decide +kernel)
    (case tz_ne => decide)
    (case tx_ex => kernel_rfl)
    (case tx_ps => kernel_rfl)
    (case n_LIMIT => k_is)
    (case n_ALPHABET => k_is)
    (case n_MAX_TEXT => k_is)
    (case n_MAX_SIGNS => k_is)
    (case n_MAX_DEPTH => k_is)
    (case n_OPEN => k_is)
    (case n_SHUT => k_is)
    (case n_AGAIN => k_is)
    (case z_abs => k_is)
    (case z_all => k_is)
    (case z_bool => k_is)
    (case z_enumerate => k_is)
    (case z_int => k_is)
    (case z_isinstance => k_is)
    (case z_len => k_is)
    (case z_max => k_is)
    (case z_min => k_is)
    (case z_range => k_is)
    (case z_repr => k_is)
    (case z_str => k_is)
    (case z_tuple => k_is)
#print axioms PySem.Challenge.cw_lastprices_k31_texts_that_are_no_pattern_holds
