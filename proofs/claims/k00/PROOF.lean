import PyProof.Rows.All
import Wide.All
import OpenK.AllK
import Wide.FinOn
import HandS.ForMost
import HandS.IsInst
import HandS.Style
import HandS.StrMore
import HandS.Wide
import HandS.Zip
import HandS.Flow
import HandS.Set
import HandS.Strs
import PyProof.Rows.SortShellAny
import HandS.Walk
import HandS.Sort
import PyProof.StrBlock2
import PySem.Challenge.RW_lastprices_k00_whole_words_of_few_signs
set_option Elab.async false
set_option linter.all false
set_option maxRecDepth 100000
set_option maxHeartbeats 4000000
/-! LPG: defs that run where no repr is under way (guards known empty), so that repr of data can be told. -/
namespace LP
open PySem PySem.Spec L2
open PyProof.Rows hiding St

/-- a def's promise, kept wherever no guarded call is under way -/
structure FnG (P : Program) (w : World) (K : PySem.W.Frag) (mg : Str → Option Value) (base : Heap) (CX : CXT)
    (k : Nat) (f : Addr) (fd : FuncData) (ps : List Str) (sp : Sp) : Prop where
  len : ∀ vs H Q E, sp vs H Q E → vs.length = ps.length
  go : ∀ (A : Around) (outer : List Env) (s : Shared) (H : Hp) (args : Args) (us : List Value) (vs : List V)
    (Q : VK) (E : XK), A.guards = some [] → Room k A → Env0 P w K mg base A outer s H →
    BindsTo s fd args (ps.zip us) → Vals vs us → sp vs H Q E →
    codeAny (model P w) A (.call (.ref f) args) (CR CX outer P w H s Q E) s

section
variable {P : Program} {w : World} {K : PySem.W.Frag} {mg : Str → Option Value} {base : Heap} {CX : CXT}
  {k : Nat} {f : Addr} {fd : FuncData} {ps : List Str} {sp : Sp}

theorem FnG.of (F : FnOk P w K mg base CX k f fd ps sp) : FnG P w K mg base CX k f fd ps sp :=
  ⟨F.len, fun A outer s H args us vs Q E _ hr e0 hb r h => F.run A outer s H args us vs Q E hr e0 hb r h⟩

theorem FnG.mono {j : Nat} (F : FnG P w K mg base CX j f fd ps sp) (h : j ≤ k) : FnG P w K mg base CX k f fd ps sp :=
  ⟨F.len, fun A outer s H args us vs Q E g hr e0 hb r h' => F.go A outer s H args us vs Q E g (hr.mono h) e0 hb r h'⟩
end

/-- a def's body, where no guarded call is under way -/
theorem fnG_of {CX : CXT} {P : Program} {w : World} {K : PySem.W.Frag} {mg : Str → Option Value} {base : Heap} {k : Nat}
    {f : Addr} {name qual : Str} {params : Arguments} {body : List Stmt} {scope : Scope} {dV kV doc pm cdv ct oc : Value}
    {an od : Option Addr} {osl : Array (Option Value)} {N ps : List Str} {sp : Sp}
    (lk : K.lookup f = some ⟨oc, od, .func (PySem.W.fnOf name qual params body scope dV kV doc pm an cdv ct), osl⟩)
    (hcd : PySem.W.codeIn K cdv qual = true) (S : FnScope N ps scope)
    (len : ∀ vs H Q E, sp vs H Q E → vs.length = ps.length)
    (hbody : ∀ (A : Around) (outer : List Env) (s : Shared) (H : Hp) (vs : List V) (Q : VK) (E : XK),
      A.guards = some [] → Room k (A.deeper (envOfC qual scope s.heap.objs.size f cdv)) → sp vs H Q E →
      ∃ t, PSs (cxOf CX P w K mg base N qual scope f cdv A outer s H E) body t ∧
        t { nx := fun _ H' => Q .non H', rt := Q } (start N vs) H) :
    FnG P w K mg base CX (k + 1) f (PySem.W.fnOf name qual params body scope dV kV doc pm an cdv ct) ps sp := by
  constructor
  · exact len
  intro A outer s H args us vs Q E gd hr e0 hb r hsp
  have hl := len _ _ _ _ hsp
  have KX : K.In s.heap := e0.mod.kin.keeps fun b o e => (e0.bs b o e).1
  have lim : s.heap.NoLimit := e0.mod.nolimit.keeps fun b o e => (e0.bs b o e).1
  have hk : ∀ y ∈ ps.zip us, scope.names.lookup y.1 = some .local ∨
      (scope.names.lookup y.1 = some .cell ∧
        ((cellsFrom (s.heap.objs.size + 1) scope.names []).lookup y.1).isSome = true) := by
    rintro ⟨n, v⟩ hy
    rcases S.par n (List.of_mem_zip hy).1 with q | q
    · exact .inl q
    · exact .inr ⟨q, PySem.W.cellsFrom_some _ _ _ (.inl q)⟩
  refine codeAny_call_function hr.depth (KX _ _ lk) rfl S.co S.gen rfl (PySem.W.codeRec_of KX hcd) ?_
  refine hb _ _ _ _ (wpAny_newFunctionEnv_cells S.kind hk ?_)
  intro env he s1 x
  subst he
  refine ⟨lim.keeps x.toInCall.keep, ?_⟩
  refine codeAny_func ?_
  obtain ⟨t, ht, hq⟩ := hbody A outer s H vs Q E gd (hr.deeper _) hsp
  have I := inv_start (CX := CX) (N := N) (E := E) S hr.hd e0 hl r x
  refine wpAny_mono (ht.run [] s1 (start N vs) H _ I hq) ?_ (fun e s' hs => hs)
  intro fl s' hs
  cases fl with
  | ret u =>
    obtain ⟨v, σ', H', J, rv, q⟩ := hs
    exact ⟨v, H', J.os, J.bare, J.base, J.hok, rv, q⟩
  | next =>
    obtain ⟨σ', H', J, q⟩ := hs
    exact ⟨V.non, H', J.os, J.bare, J.base, J.hok, rfl, q⟩
  | brk =>
    obtain ⟨_, _, _, q⟩ := hs
    exact q.elim
  | cont =>
    obtain ⟨_, _, _, q⟩ := hs
    exact q.elim

section
variable {P : Program} {w : World} {K : PySem.W.Frag} {mg : Str → Option Value} {base : Heap}
/-- the same for a def of the text that lets no exception out -/
theorem okG {x qual : Str} {st : Stmt} {f : Addr} {fd : FuncData} {N ps : List Str} {k : Nat} {sp : Sp}
    (F : Fun K x qual st f fd) (S : FnScope N ps (defScope st)) (len : ∀ vs H Q E, sp vs H Q E → vs.length = ps.length)
    (hbody : ∀ (cdv : Value) (A : Around) (outer : List Env) (s : Shared) (H : Hp) (vs : List V) (Q : VK) (E : XK),
      A.guards = some [] → Room k (A.deeper (envOfC qual (defScope st) s.heap.objs.size f cdv)) → sp vs H Q E →
      ∃ t, PSs (cxOf CX0 P w K mg base N qual (defScope st) f cdv A outer s H E).nox (defBody st) t ∧
        t { nx := fun _ H' => Q .non H', rt := Q } (start N vs) H) :
    FnG P w K mg base CX0 (k + 1) f fd ps sp := by
  obtain ⟨oc, od, kV, doc, pm, an, cdv, ct, osl, rfl, lk, hcd⟩ := F.ex
  refine fnG_of lk hcd S len ?_
  intro A outer s H vs Q E g hr hsp
  obtain ⟨t, h, q⟩ := hbody cdv A outer s H vs Q E g hr hsp
  exact ⟨t, h.nox, q⟩
end

section
variable {X : Cx} {CX : CXT} {k : Nat} {f C : Addr} {fd : FuncData} {ps : List Str} {sp : Sp} {dvs : List V}
  {ds : List Value} {E : XK} {x m : Str} {p pos apos : Pos} {e o : Expr} {es : List Expr} {ta : TE} {t : TA}

/-- such a callee runs -/
theorem run_fnG {pins : List (Addr × Obj)} {σ : St} {H : Hp} {s : Shared} {Q : VK} {us : List Value} {vs : List V}
    (F : FnG X.prog X.w X.K X.mg X.base CX k f fd ps sp) (gd : X.A.guards = some []) (hr : Room k X.A)
    (hb : Binds X.K fd ps ds) (hd : Vals dvs ds) (hx : Passes CX X E)
    (I : Inv X pins σ H s) (r : Vals vs us) (h : sp (vs ++ dvs) H Q E) :
    wpAny (model X.prog X.w) X.A (call (.ref f) us) (EP X pins σ Q) X.xe s := by
  have r2 : Vals (vs ++ dvs) (us ++ ds) := r.append hd
  have hl : (us ++ ds).length = ps.length := r2.length.symm.trans (F.len _ _ _ _ h)
  have run := F.go X.A X.stack s H ⟨us, []⟩ (us ++ ds) (vs ++ dvs) Q E gd hr I.env0 (hb s us I.kIn hl) r2 h
  refine wpAny_call (codeAny_mono run ?_)
  intro r s' hq
  cases r with
  | error e => exact hx pins σ H s e s' I hq
  | ok fl =>
    cases fl with
    | ret u => exact I.after hq
    | next => exact hq.elim
    | brk => exact hq.elim
    | cont => exact hq.elim

theorem pe_callG (F : FnG X.prog X.w X.K X.mg X.base CX k f fd ps sp) (gd : X.A.guards = some []) (hr : Room k X.A)
    (hg : Gl X x) (hm : X.mg x = some (.ref f)) (hk : PySem.W.keepIn X.K (.ref f) = true) (hb : Binds X.K fd ps ds)
    (hd : Vals dvs ds) (hx : Passes CX X E) (ha : PA X (e :: es) t)
    (hdb : (x == ("__debug__" : Str)) = false := by decide)
    (he : starEach (e :: es) X.env = (false, eval e X.env) :: starEach es X.env := by rfl)
    (hpl : (backTo pos (starEach es X.env)).any (·.1) = false := by rfl) :
    PE X (.Call (.Name x p) (e :: es) [] pos) (tCall sp dvs E t) := by
  constructor
  intro pins s σ H Q I h
  refine wpAny_Call_Name_kw (ld_glob I hg hm ?_ hdb)
  refine PySem.W.callWith_K (h₀ := X.base) I.ok.mod.kin hk (thn (ha.run pos pins s σ H _ I h) ?_) he hpl
  rintro us s1 ⟨vs, H1, I1, r, q⟩
  exact ⟨I1.kIn, run_fnG F gd hr hb hd hx I1 r q⟩

theorem pe_callG0 (F : FnG X.prog X.w X.K X.mg X.base CX k f fd ps sp) (gd : X.A.guards = some []) (hr : Room k X.A)
    (hg : Gl X x) (hm : X.mg x = some (.ref f)) (hk : PySem.W.keepIn X.K (.ref f) = true) (hb : Binds X.K fd ps ds)
    (hd : Vals dvs ds) (hx : Passes CX X E) (hdb : (x == ("__debug__" : Str)) = false := by decide) :
    PE X (.Call (.Name x p) [] [] pos) (tCall sp dvs E tNil) := by
  constructor
  intro pins s σ H Q I h
  refine wpAny_Call_Name_kw (ld_glob I hg hm ?_ hdb)
  exact PySem.W.callWith_K0 I.kIn hk (run_fnG (us := []) F gd hr hb hd hx I .nil h)

/-- what repr asks: data that is read, and its text -/
def rReprD (K : PySem.W.Frag) : List V → Hp → VK → Prop := fun xs H Q =>
  ∃ x d, xs = [x] ∧ Dp K H x d ∧ d.showable = true ∧ d.hasDict = false ∧ d.depth ≤ 60 ∧ d.shown.length ≤ sizeLine ∧
    Q (.str d.shown) H

theorem call_reprD (gd : X.A.guards = some []) (hu : X.A.units + 64 < cLine) : CallR X (.builtin "repr") (rReprD X.K) := by
  intro pins s σ H xs us Q I r h
  obtain ⟨x, d, rfl, hd, hs, hn, hz, hl, q⟩ := h
  obtain ⟨u, rfl, r1⟩ := vals1 r
  cases hd with
  | non =>
    cases (show u = Value.none from r1)
    exact PySem.P.repr_of_none ⟨.str _, H, I.tok _, ⟨_, rfl⟩, q⟩
  | bl b =>
    cases (show u = Value.bool b from r1)
    exact PySem.P.repr_of_bool ⟨.str _, H, I.tok _, ⟨_, rfl⟩, q⟩
  | int i =>
    obtain ⟨t, rfl⟩ := (show ∃ t, u = Value.int i t from r1)
    have hi : i.natAbs.log2 < 1920 := by simpa [PyData.showable] using hs
    exact PySem.P.repr_of_int hi ⟨.str _, H, I.tok _, ⟨_, rfl⟩, q⟩
  | str y =>
    obtain ⟨t, rfl⟩ := (show ∃ t, u = Value.str y t from r1)
    exact PySem.P.repr_of_str ⟨.str _, H, I.tok _, ⟨_, rfl⟩, q⟩ hl
  | @lst a ys ds h1 h2 =>
    have e0 : Dp X.K H (.ref a) (.list ds) := .lst h1 h2
    cases (show u = Value.ref a from r1)
    obtain ⟨as, rd⟩ := Dp.reads I _ _ _ e0 rfl
    refine repr_of_reads' rd hs (fun z => ?_) gd (by omega) (fun _ _ e => e) (fun h' v tk hk => ?_) hl
    · rw [hn] at z
      cases z
    · exact ⟨.str _, H, I.kept hk, ⟨_, rfl⟩, q⟩
  | @tup a ys ds h1 h2 =>
    have e0 : Dp X.K H (.ref a) (.tuple ds) := .tup h1 h2
    cases (show u = Value.ref a from r1)
    obtain ⟨as, rd⟩ := Dp.reads I _ _ _ e0 rfl
    refine repr_of_reads' rd hs (fun z => ?_) gd (by omega) (fun _ _ e => e) (fun h' v tk hk => ?_) hl
    · rw [hn] at z
      cases z
    · exact ⟨.str _, H, I.kept hk, ⟨_, rfl⟩, q⟩
end

/-- the law's call, of such a def -/
theorem law_callG {P : Program} {w : World} {K : PySem.W.Frag} {mg mb : Str → Option Value} {k : Nat} {fa a : Addr}
    {fd : FuncData} {x : Str} {sp : Sp} {s₁ : Shared} {vs : List Value} {ns : List Int}
    (KX : K.In s₁.heap) (hns : s₁.heap.Ns mainGlobals mg) (hb : s₁.heap.Ns builtinsNs mb)
    (hbb : ∀ x : Str, x ≠ "__name__" → mb x = bootBuiltins x) (hlim : s₁.heap.NoLimit) (hg : s₁.gens = #[])
    (ha : s₁.heap.get? a = some { cls := .type "list", data := .seq vs.toArray }) (hi : IntsAre vs ns)
    (hl : ns.length ≤ sizeLine) (hr : Room k callerA)
    (F : ∀ base : Heap, K.In base → base.Ns mainGlobals mg → FnG P w K mg base CX0 k fa fd [x] sp)
    (hbind : ∀ (s : Shared) (u : Value), BindsTo s fd ⟨[u], []⟩ [(x, u)])
    (hsp : ∀ H : Hp, Only H → SqL K H a (ns.map V.int) → sp [.ref a] H (fun v _ => v = .bl true) fun _ _ _ => False) :
    codeAny (model P w) callerA (.call (.ref fa) ⟨[.ref a], []⟩) (fun r s' => r = .ok (.ret (.bool true)) ∧
      OldK s₁.heap s'.heap ∧ s'.os = s₁.os ∧ AllBare s'.gens) s₁ := by
  have rv := vals_ints hi
  have lenV := hi.length
  have core : ∀ H : Hp, Only H → SqL K H a (ns.map V.int) → HOk P w H s₁.heap → (∀ b, H b ≠ none → b = a) →
      (H a ≠ none → K.lookup a = none) →
      codeAny (model P w) callerA (.call (.ref fa) ⟨[.ref a], []⟩) (fun r s' => r = .ok (.ret (.bool true)) ∧
        OldK s₁.heap s'.heap ∧ s'.os = s₁.os ∧ AllBare s'.gens) s₁ := by
    intro H hO hS hok hA hK
    have noA : ∀ {b : Addr} {o : Obj} {es : Array DictEntry} {ep : Nat}, s₁.heap.get? b = some o →
        o.data = .dict es ep → H b = none := by
      intro b o es ep e d
      by_cases q : H b = none
      · exact q
      · have e' := hA b q
        subst e'
        rw [ha] at e
        cases e
        cases (show Data.seq vs.toArray _ = Data.dict es ep from d)
    have nsK : ∀ {b : Addr} {m : Str → Option Value}, s₁.heap.Ns b m → (hidT s₁.heap H).Ns b m := by
      rintro b m ⟨o, es, ep, e, d, r⟩
      exact ⟨o, es, ep, hidT_get e (noA e d), d, r⟩
    have hKb : K.In (hidT s₁.heap H) := by
      intro b o e
      refine hidT_get (KX b o e) ?_
      by_cases q : H b = none
      · exact q
      · have e' := hA b q
        subst e'
        rw [hK q] at e
        cases e
    obtain ⟨mc, hc1, hc2⟩ := hlim
    have hM : Mod K mg (hidT s₁.heap H) := ⟨hKb, nsK hns, ⟨mb, nsK hb, hbb⟩, ⟨mc, nsK hc1, hc2⟩⟩
    have e0 : Env0 P w K mg (hidT s₁.heap H) callerA [] s₁ H :=
      ⟨rfl, hM, fun b o e => of_hidT e, Nat.le_of_eq (hidT_size _ _), trivial,
        fun b hb => absurd (show b ∈ ([] : List Addr) from hb) (by simp), hok, .of_eq hg⟩
    have G := F _ hKb (nsK hns)
    refine codeAny_mono (G.go callerA [] s₁ H ⟨[.ref a], []⟩ [.ref a] [.ref a] _ _ rfl hr e0 (hbind s₁ (.ref a))
      (.cons rfl .nil) (hsp H hO hS)) ?_
    intro r s' h
    cases r with
    | error e => exact h.elim
    | ok fl =>
      cases fl with
      | next => exact h.elim
      | brk => exact h.elim
      | cont => exact h.elim
      | ret u =>
        obtain ⟨v, H', os, bare, un, hok', r', q⟩ := h
        have q' : v = .bl true := q
        subst q'
        obtain rfl : u = Value.bool true := r'
        refine ⟨rfl, OldK.of_keep ?_, os, bare⟩
        intro b o e
        rcases hO b with z | ⟨ob, xs, z⟩
        · exact un.keep b o e z (fun y => absurd (show b ∈ ([] : List Addr) from y) (by simp)) (by simp)
        · obtain ⟨e1, _⟩ := hok b _ z
          obtain ⟨e2, _⟩ := hok' b _ (un.frzs b ob _ z)
          rw [e] at e1
          cases e1
          exact e2
  by_cases hk : K.lookup a = none
  · let O : Obj := { cls := .type "list", data := .seq vs.toArray }
    let HH : Hp := fun b => if b = a then some (.frz O (.lst (ns.map V.int))) else none
    have h1 : HH a = some (.frz O (.lst (ns.map V.int))) := if_pos rfl
    have h2 : ∀ b, b ≠ a → HH b = none := fun b hb => if_neg hb
    refine core HH ?_ (.inl (.inr ⟨O, h1⟩)) ?_ ?_ (fun _ => hk)
    · intro b
      by_cases hb : b = a
      · subst hb
        exact .inr ⟨_, _, h1⟩
      · exact .inl (h2 b hb)
    · intro b u z
      by_cases hb : b = a
      · subst hb
        rw [h1] at z
        cases z
        exact ⟨ha, by rw [List.length_map]; exact hl, vs, _, rv, ha⟩
      · rw [h2 b hb] at z
        cases z
    · intro b z
      by_cases hb : b = a
      · exact hb
      · exact absurd (h2 b hb) z
  · obtain ⟨o, ho⟩ := Option.ne_none_iff_exists'.mp hk
    have e := KX a o ho
    rw [ha] at e
    cases e
    refine core (fun _ => none) (fun _ => .inl rfl) (.inr ⟨_, vs.toArray, _, ho, rfl, rfl, rfl, ?_, ?_⟩) ?_ ?_ ?_
    · rw [List.size_toArray, lenV]
      exact hl
    · simpa using rv
    · intro b u z
      cases (show (none : Option HO) = some u from z)
    · intro b z
      exact absurd rfl z
    · intro z
      exact absurd rfl z

/-- the goal that the head leaves, from the law's promise -/
theorem walk_ofG {l : PySem.W.OpenLaw} {n k : Nat} {q : Program} {loose : List Str} {XP : (Str → Option Value) → Heap → Prop}
    {YP : World → Heap → Prop} {d : DefRec} {K : Params → PySem.W.Frag} {sp : PySem.W.Frag → Sp} {x : Str}
    (hn : l.most = some n) (hn2 : n ≤ sizeLine) (hdf : d.params.defaults = []) (hr : Room k callerA)
    (hY : ∀ (w : World) (h : Heap), YP w h → (K w.params).In h)
    (F : ∀ (w : World) (mg : Str → Option Value) (fa : Addr) (h : Heap), (K w.params).In h → h.Ns mainGlobals mg →
      mg d.name = some (.ref fa) → ∃ fd : FuncData, (∀ (s : Shared) (u : Value), BindsTo s fd ⟨[u], []⟩ [(x, u)]) ∧
        ∀ base : Heap, (K w.params).In base → base.Ns mainGlobals mg →
          FnG l.prog w (K w.params) mg base CX0 k fa fd [x] (sp (K w.params)))
    (hsp : ∀ (K : PySem.W.Frag) (H : Hp) (a : Addr) (ns : List Int), ns.length ≤ n → Only H → SqL K H a (ns.map V.int) →
      sp K [.ref a] H (fun v _ => v = .bl true) fun _ _ _ => False) :
    PySem.W.WalkO q loose XP YP l.row.toRowW d [] (fun f vs => PySem.call f vs) := by
  refine Att.attach_call hn hdf ?_
  intro w s₀ s₁ mg mb fa o pm cd doc a vs ns G Y ho hd hcd hmg hobj hints hlen hg
  have KX := hY w _ Y
  obtain ⟨fd, hb, hF⟩ := F w mg fa _ KX G.T.g hmg
  exact law_callG KX G.T.g G.T.b G.T.builtins G.T.nolimit hg hobj hints (Nat.le_trans hlen hn2) hr hF hb
    (fun H hO hS => hsp (K w.params) H a ns hlen hO hS)
end LP

set_option Elab.async false
set_option linter.all false
set_option maxRecDepth 100000
set_option maxHeartbeats 4000000
/-! LPC: defs of a linked text, calls of them, heaps. -/
namespace LP
open PySem PySem.Spec L2
open PyProof.Rows hiding St

/-- a def of the text: where it stands, its name, how its arguments bind -/
structure Df (K : PySem.W.Frag) (mg : Str → Option Value) (x : Str) (st : Stmt) (ps : List Str) (f : Addr) (fd : FuncData) : Prop where
  F : Fun K x x st f fd
  g : mg x = some (.ref f)
  b : Binds K fd ps []

section
variable {X : Cx} {k : Nat} {f : Addr} {fd : FuncData} {ps : List Str} {sp : Sp} {x : Str} {st : Stmt} {p pos : Pos}
  {e : Expr} {es : List Expr} {t : TA}
theorem pe_df (D : Df X.K X.mg x st ps f fd) (G : FnOk X.prog X.w X.K X.mg X.base CX0 k f fd ps sp) (hr : Room k X.A)
    (hg : Gl X x) (ha : PA X (e :: es) t) (hdb : (x == ("__debug__" : Str)) = false := by decide)
    (he : starEach (e :: es) X.env = (false, eval e X.env) :: starEach es X.env := by rfl)
    (hpl : (backTo pos (starEach es X.env)).any (·.1) = false := by rfl) :
    PE X (.Call (.Name x p) (e :: es) [] pos) (tCall sp [] E0 t) := pe_call G hr hg D.g D.F.kp D.b .nil pass0 ha hdb he hpl
theorem pe_df0 (D : Df X.K X.mg x st ps f fd) (G : FnOk X.prog X.w X.K X.mg X.base CX0 k f fd ps sp) (hr : Room k X.A)
    (hg : Gl X x) (hdb : (x == ("__debug__" : Str)) = false := by decide) :
    PE X (.Call (.Name x p) [] [] pos) (tCall sp [] E0 tNil) := pe_call0 G hr hg D.g D.F.kp D.b .nil pass0 hdb
theorem pe_dfG (D : Df X.K X.mg x st ps f fd) (G : FnG X.prog X.w X.K X.mg X.base CX0 k f fd ps sp)
    (gd : X.A.guards = some []) (hr : Room k X.A)
    (hg : Gl X x) (ha : PA X (e :: es) t) (hdb : (x == ("__debug__" : Str)) = false := by decide)
    (he : starEach (e :: es) X.env = (false, eval e X.env) :: starEach es X.env := by rfl)
    (hpl : (backTo pos (starEach es X.env)).any (·.1) = false := by rfl) :
    PE X (.Call (.Name x p) (e :: es) [] pos) (tCall sp [] E0 t) := pe_callG G gd hr hg D.g D.F.kp D.b .nil pass0 ha hdb he hpl
end

/-! ### heaps -/
theorem upd_none {H : Hp} {a b : Addr} {o : HO} : upd H a o b = none ↔ b ≠ a ∧ H b = none := by
  unfold upd
  by_cases h : b = a <;> simp [h]
theorem upd_at {H : Hp} {a b : Addr} {o : HO} : upd H a o b = if b = a then some o else H b := rfl
theorem Same.new {H : Hp} {p : Addr} {o : HO} (h : H p = none) : Same H (upd H p o) := fun b u e => by
  rw [upd_ne (ne_of_none e h)]
  exact e
theorem Same.tup {K : PySem.W.Frag} {H H' : Hp} {a : Addr} {xs : List V} (e : Same H H') (h : SqT K H a xs) : SqT K H' a xs := by
  rcases h with (h | ⟨o, h⟩) | h
  · exact .inl (.inl (e _ _ h))
  · exact .inl (.inr ⟨o, e _ _ h⟩)
  · exact .inr h

/-! ### values that can be asked for their class -/
/-- the built-in class of a plain value -/
inductive Pl (K : PySem.W.Frag) (H : Hp) : V → String → Prop
  | non : Pl K H .non "NoneType"
  | bl (b : Bool) : Pl K H (.bl b) "bool"
  | int (i : Int) : Pl K H (.int i) "int"
  | str (x : Str) : Pl K H (.str x) "str"
  | lst {a : Addr} {xs : List V} (h : H a = some (.lst xs)) : Pl K H (.ref a) "list"
  | tup {a : Addr} {xs : List V} (h : H a = some (.tup xs)) : Pl K H (.ref a) "tuple"
  | dct {a : Addr} {xs : List (Key × V)} (h : H a = some (.dK xs)) : Pl K H (.ref a) "dict"
theorem Pl.ty {K : PySem.W.Frag} {H : Hp} {v : V} {t : String} (h : Pl K H v t) : TyX K H v (.type t) := by
  cases h with
  | non => exact .base .non
  | bl b => exact .base (.bl b)
  | int i => exact .base (.int i)
  | str x => exact .base (.str x)
  | lst h => exact .base (.lst h)
  | tup h => exact .base (.tup h)
  | dct h => exact .base (.dK h)
theorem Pl.same {K : PySem.W.Frag} {H H' : Hp} {v : V} {t : String} (e : Same H H') (h : Pl K H v t) : Pl K H' v t := by
  cases h with
  | non => exact .non
  | bl b => exact .bl b
  | int i => exact .int i
  | str x => exact .str x
  | lst h => exact .lst (e _ _ h)
  | tup h => exact .tup (e _ _ h)
  | dct h => exact .dct (e _ _ h)
/-- isinstance of a plain value, told -/
def isiB (t c : String) : Bool := (t == c) || (t == "bool" && c == "int")
theorem isi_int {K : PySem.W.Frag} {H : Hp} {v : V} {t : String} (h : Pl K H v t) : PySem.W.kitOne K (.type t) (.type "int") = some (isiB t "int") := by
  refine kit_ty ?_
  cases h <;> decide +kernel
theorem isi_bool {K : PySem.W.Frag} {H : Hp} {v : V} {t : String} (h : Pl K H v t) : PySem.W.kitOne K (.type t) (.type "bool") = some (isiB t "bool") := by
  refine kit_ty ?_
  cases h <;> decide +kernel
theorem isi_str {K : PySem.W.Frag} {H : Hp} {v : V} {t : String} (h : Pl K H v t) : PySem.W.kitOne K (.type t) (.type "str") = some (isiB t "str") := by
  refine kit_ty ?_
  cases h <;> decide +kernel
theorem isi_tuple {K : PySem.W.Frag} {H : Hp} {v : V} {t : String} (h : Pl K H v t) : PySem.W.kitOne K (.type t) (.type "tuple") = some (isiB t "tuple") := by
  refine kit_ty ?_
  cases h <;> decide +kernel
theorem isi_dict {K : PySem.W.Frag} {H : Hp} {v : V} {t : String} (h : Pl K H v t) : PySem.W.kitOne K (.type t) (.type "dict") = some (isiB t "dict") := by
  refine kit_ty ?_
  cases h <;> decide +kernel
theorem rd_isi {K : PySem.W.Frag} {H : Hp} {v : V} {t c : String} {Q : VK} (h : Pl K H v t) (k : PySem.W.kitOne K (.type t) (.type c) = some (isiB t c))
    (q : Q (.bl (isiB t c)) H) : rIsi K [v, .ty c] H Q := ⟨v, .ty c, .type t, .type c, _, rfl, .ty c, h.ty, k, q⟩

/-! ### readings that are told by what is tracked -/
section
variable {X : Cx}
theorem call_imp {f : Value} {r r' : List V → Hp → VK → Prop} (F : CallR X f r) (h : ∀ xs H Q, r' xs H Q → r xs H Q) : CallR X f r' :=
  fun pins s σ H xs us Q I rv q => F pins s σ H xs us Q I rv (h xs H Q q)
theorem op_imp {f : Value → Value → Sem Value} {r r' : R2} (F : OpR X f r) (h : ∀ x y H Q, r' x y H Q → r x y H Q) : OpR X f r' :=
  fun pins s σ H x y v u Q I rx ry q => F pins s σ H x y v u Q I rx ry (h x y H Q q)
theorem ix_imp {r r' : R2} (F : IxR X r) (h : ∀ x y H Q, r' x y H Q → r x y H Q) : IxR X r' :=
  fun va sl pins s σ H x y v u Q I rx ry q hs => F va sl pins s σ H x y v u Q I rx ry (h x y H Q q) hs
def rIxM : R2 := fun x y H Q => ∃ p xs i v, x = .ref p ∧ y = .int i ∧ H p = some (.lst xs) ∧ atI xs i = some v ∧ Q v H
theorem ix_M : IxR X rIxM := ix_imp ix_list fun x y H Q ⟨p, xs, i, v, h1, h2, h3, h4, q⟩ => ⟨p, xs, i, v, h1, h2, SqL.of h3, h4, q⟩
def rLenM : List V → Hp → VK → Prop := fun xs H Q => ∃ p ys, xs = [.ref p] ∧ H p = some (.lst ys) ∧ Q (.int (ys.length : Int)) H
theorem call_lenM : CallR X (.builtin "len") rLenM := call_imp call_len_seq fun xs H Q ⟨p, ys, h1, h2, q⟩ => ⟨p, ys, h1, .inl (SqL.of h2), q⟩
def rInt : List V → Hp → VK → Prop := fun xs H Q => ∃ i, xs = [.int i] ∧ Q (.int i) H
theorem call_intI : CallR X (.type "int") rInt := call_imp call_int1 fun xs H Q h => .inl h
def rIntB : List V → Hp → VK → Prop := fun xs H Q => ∃ k, xs = [.bl k] ∧ Q (.int (if k then 1 else 0)) H
theorem call_intB : CallR X (.type "int") rIntB := call_imp call_int1 fun xs H Q h => .inr h
end

theorem pe_imp {X : Cx} {e : Expr} {t t' : TE} (h : PE X e t) (i : ∀ σ H Q, t' σ H Q → t σ H Q) : PE X e t' :=
  ⟨fun pins s σ H Q I q => h.run pins s σ H Q I (i σ H Q q)⟩
/-- a method of a text, of a tracked list, of a tracked dict -/
def tSM (r : V → List V → Hp → VK → Prop) (to : TE) (t : TA) : TE := fun σ H Q => to σ H fun x H1 => ∃ a, x = .str a ∧ t σ H1 fun xs H2 => r x xs H2 Q
def tLM (r : V → List V → Hp → VK → Prop) (to : TE) (t : TA) : TE := fun σ H Q => to σ H fun x H1 => ∃ p ys, x = .ref p ∧ H1 p = some (.lst ys) ∧ t σ H1 fun xs H2 => r x xs H2 Q
section
variable {X : Cx} {o e : Expr} {es : List Expr} {to : TE} {t : TA} {name : Str} {apos cpos : Pos} {id : String} {r : V → List V → Hp → VK → Prop}
/-- a reading closed under what follows from what is wanted -/
def tUp (to : TE) : TE := fun σ H Q => ∃ Q1 : VK, to σ H Q1 ∧ ∀ v H1, Q1 v H1 → Q v H1
theorem pe_up (h : PE X o to) : PE X o (tUp to) := by
  constructor
  rintro pins s σ H Q I ⟨Q1, q1, i⟩
  refine thn (h.run pins s σ H Q1 I q1) ?_
  rintro v s1 ⟨x, H1, I1, r1, q⟩
  exact ⟨x, H1, I1, r1, i x H1 q⟩
theorem pe_sm (pa : PlainAttrs "str") (slot : Slot "str" name id) (hty : typeOf (.builtin id) = pure (.type "method_descriptor")) (hm : MtR X id r) (ho : PE X o to) (ha : PA X (e :: es) t)
    (hbase : attributeBase o name X.env (eval o X.env) = eval o X.env := by rfl)
    (hfew : ((backTo cpos (starEach (e :: es) X.env)).all (fun x => !x.1) && (backToKw cpos (keywordEach [] X.env)).all (fun x => x.1.isSome) &&
      decide ((e :: es).length + ([] : List Keyword).length + (if ([] : List Keyword).isEmpty then 0 else 1) < 30)) = true := by rfl)
    (hline : (apos.endLine == cpos.line) = true := by rfl) (hs : starEach (e :: es) X.env = (false, eval e X.env) :: starEach es X.env := by rfl)
    (hplain : (backTo cpos (starEach es X.env)).any (·.1) = false := by rfl) : PE X (.Call (.Attribute o name apos) (e :: es) [] cpos) (tSM r to t) := by
  refine pe_imp (pe_bm pa slot hty hm (pe_up ho) ha hbase hfew hline hs hplain) ?_
  intro σ H Q h
  refine ⟨_, h, ?_⟩
  rintro v H1 ⟨a, rfl, q⟩
  exact ⟨rfl, q⟩
theorem pe_lm (pa : PlainAttrs "list") (slot : Slot "list" name id) (hty : typeOf (.builtin id) = pure (.type "method_descriptor")) (hm : MtR X id r) (ho : PE X o to) (ha : PA X (e :: es) t)
    (hbase : attributeBase o name X.env (eval o X.env) = eval o X.env := by rfl)
    (hfew : ((backTo cpos (starEach (e :: es) X.env)).all (fun x => !x.1) && (backToKw cpos (keywordEach [] X.env)).all (fun x => x.1.isSome) &&
      decide ((e :: es).length + ([] : List Keyword).length + (if ([] : List Keyword).isEmpty then 0 else 1) < 30)) = true := by rfl)
    (hline : (apos.endLine == cpos.line) = true := by rfl) (hs : starEach (e :: es) X.env = (false, eval e X.env) :: starEach es X.env := by rfl)
    (hplain : (backTo cpos (starEach es X.env)).any (·.1) = false := by rfl) : PE X (.Call (.Attribute o name apos) (e :: es) [] cpos) (tLM r to t) := by
  refine pe_imp (pe_bm pa slot hty hm (pe_up ho) ha hbase hfew hline hs hplain) ?_
  intro σ H Q h
  refine ⟨_, h, ?_⟩
  rintro v H1 ⟨p, ys, rfl, hp, q⟩
  exact ⟨.inl ⟨rfl, ys, SqL.of hp⟩, q⟩
end
/-! ### the rest of a block, folded -/
def Later (u : TS) (D : Ends) (σ : St) (H : Hp) : Prop := u D σ H
theorem later {u : TS} {D : Ends} {σ : St} {H : Hp} (h : u D σ H) : Later u D σ H := h
theorem tSeq_eq (t u : TS) (D : Ends) (σ : St) (H : Hp) : tSeq t u D σ H = t { D with nx := Later u D } σ H := rfl
theorem tIfS_eq (c : TT) (t u : TS) (D : Ends) (σ : St) (H : Hp) :
  tIfS c t u D σ H = c σ H fun b H1 => if b = true then Later t D σ H1 else Later u D σ H1 := rfl
/-! ### loops -/
def Loop (J : It) (g : TG) (tb : TS) (D : Ends) (σ : St) (H1 : Hp) : Prop := ∃ W : Nat → Nat → St → Hp → Prop, (∃ m, W 0 m σ H1) ∧ ∀ i m σ H, W i m σ H →
  (J.stop i H ∧ D.nx σ H) ∨ (J.go i H ∧ ∃ N : St → Hp → Prop, (∀ σ' H', N σ' H' → ∃ m', m' < m ∧ W (i + 1) m' σ' H') ∧
    ∀ x H', J.yld i H x H' → g x σ H' fun σ2 H2 => tb { D with nx := N, ct := N, bk := D.nx } σ2 H2)
theorem tFor_eq (wi : TI) (g : TG) (tb : TS) (D : Ends) (σ : St) (H : Hp) : tFor wi g tb D σ H = wi σ H fun J H1 => Loop J g tb D σ H1 := rfl
theorem loop_range {n : Nat} {g : TG} {tb : TS} {D : Ends} {σ : St} {H : Hp} (Pv : Nat → St → Hp → Prop) (h0 : Pv 0 σ H)
    (hs : ∀ (i : Nat) (σ : St) (H : Hp), i < n → Pv i σ H → g (.int (i : Int)) σ H fun σ2 H2 => Later tb { D with nx := Pv (i + 1), ct := Pv (i + 1), bk := D.nx } σ2 H2)
    (hd : ∀ σ H, Pv n σ H → D.nx σ H) : Loop (Itr 0 n) g tb D σ H :=
  for_range (lo := 0) (n := n) Pv h0 (fun i σ H hi p => by rw [Int.zero_add]; exact hs i σ H hi p) hd
theorem loop_list {K : PySem.W.Frag} {a : Addr} {xs : List V} {g : TG} {tb : TS} {D : Ends} {σ : St} {H : Hp} (Pv : Nat → St → Hp → Prop) (h0 : Pv 0 σ H)
    (hl : ∀ i σ H, i ≤ xs.length → Pv i σ H → SqL K H a xs)
    (hs : ∀ (i : Nat) (x : V) (σ : St) (H : Hp), xs[i]? = some x → Pv i σ H → g x σ H fun σ2 H2 => Later tb { D with nx := Pv (i + 1), ct := Pv (i + 1), bk := D.nx } σ2 H2)
    (hd : ∀ σ H, Pv xs.length σ H → D.nx σ H) : Loop (Itl K a) g tb D σ H :=
  for_list (K := K) (a := a) (xs := xs) Pv h0 hl hs hd
/-- an invariant, folded -/
theorem inv_of {α : Type} (P : α → St → Hp → Prop) : ∃ Pv : α → St → Hp → Prop, ∀ i σ H, Pv i σ H ↔ P i σ H := ⟨P, fun _ _ _ => Iff.rfl⟩
def LcLoop (J : It) (g : TG) (tt : TT) (te : TE) (vs : List Nat) (σ : St) (H1 : Hp) (Q : VK) : Prop := ∀ D, H1 D = none → ∃ W : Nat → Nat → Hp → Prop, (∃ m, W 0 m (upd H1 D (.lst []))) ∧ ∀ i m H, W i m H →
  (J.stop i H ∧ Q (.ref D) H) ∨ (J.go i H ∧ ∃ Nx : Hp → Prop, (∀ H', Nx H' → ∃ m', m' < m ∧ W (i + 1) m' H') ∧ ∀ x H', J.yld i H x H' → g x (wipe σ vs) H' fun σ2 H2 => wipe σ2 vs = wipe σ vs ∧
    tt σ2 H2 fun b H3 => if b = true then te σ2 H3 fun y H4 => ∃ acc, H4 D = some (.lst acc) ∧ acc.length < sizeLine ∧ Nx (upd H4 D (.lst (acc ++ [y]))) else Nx H3)
theorem tLc_eq (wi : TI) (g : TG) (tt : TT) (te : TE) (vs : List Nat) (σ : St) (H : Hp) (Q : VK) : tLc wi g tt te vs σ H Q = wi σ H fun J H1 => LcLoop J g tt te vs σ H1 Q := rfl

theorem loop_zip {K : PySem.W.Frag} {a b : Addr} {xs ys : List V} {g : TG} {tb : TS} {D : Ends} {σ : St} {H : Hp} (hl : xs.length = ys.length) (Pv : Nat → St → Hp → Prop) (h0 : Pv 0 σ H)
    (hq : ∀ i σ H, Pv i σ H → SqL K H a xs ∧ SqL K H b ys)
    (hs : ∀ (i : Nat) (x y : V) (T : Addr) (σ : St) (H : Hp), xs[i]? = some x → ys[i]? = some y → Pv i σ H → H T = none →
      g (.ref T) σ (upd H T (.tup [x, y])) fun σ2 H2 => Later tb { D with nx := Pv (i + 1), ct := Pv (i + 1), bk := D.nx } σ2 H2)
    (hd : ∀ σ H, Pv xs.length σ H → D.nx σ H) : Loop (Itz K a b) g tb D σ H :=
  RZ.for_zipL (K := K) (a := a) (b := b) hl Pv h0 hq hs hd
/-- a comprehension whose test and element leave what is known -/
theorem lc_pure {K : PySem.W.Frag} {a : Addr} {xs : List V} {j : Nat} {tt : TT} {te : TE} {vs : List Nat} {σ : St} {H : Hp} {Q : VK} (hx : SqL K H a xs) (hz : xs.length ≤ 1000000) (f : V → Bool) (v : V → V)
    (hw : ∀ x, wipe ((wipe σ vs).set j (some x)) vs = wipe σ vs)
    (ht : ∀ x, x ∈ xs → ∀ H1, Same H H1 → ∀ R : Bool → Hp → Prop, (∀ H2, Same H1 H2 → R (f x) H2) → tt ((wipe σ vs).set j (some x)) H1 R)
    (he : ∀ x, x ∈ xs → f x = true → ∀ H1, Same H H1 → ∀ R : VK, (∀ H2, Same H1 H2 → R (v x) H2) → te ((wipe σ vs).set j (some x)) H1 R)
    (q : ∀ p H2, H p = none → Same H H2 → H2 p = some (.lst ((xs.filter f).map v)) → Q (.ref p) H2) : LcLoop (Itl K a) (gName j) tt te vs σ H Q := by
  intro D hD
  refine lc_list (K := K) (a := a) (xs := xs) (fun i H' => Same H H' ∧ H' D = some (.lst (((xs.take i).filter f).map v))) ⟨Same.new hD, upd_same⟩ (fun i H' _ p => p.1.seq hx) ?_ ?_
  · rintro i x H1 hi ⟨e1, d1⟩
    have hm : x ∈ xs := List.mem_of_getElem? hi
    have htk : xs.take (i + 1) = xs.take i ++ [x] := by rw [List.take_add_one, hi]; rfl
    refine ⟨hw x, ht x hm H1 e1 _ fun H2 e2 => ?_⟩
    cases hf : f x with
    | true =>
      show te _ H2 _
      refine he x hm hf H2 (e1.trans e2) _ fun H3 e3 => ?_
      refine ⟨_, e3 _ _ (e2 _ _ d1), ?_, ?_, ?_⟩
      · have h1 : (((xs.take i).filter f).map v).length ≤ xs.length := by
          rw [List.length_map]
          exact Nat.le_trans (List.length_filter_le _ _) (by rw [List.length_take]; omega)
        exact Nat.lt_of_le_of_lt (Nat.le_trans h1 hz) (by decide)
      · intro b o e
        rw [upd_ne (ne_of_none e hD)]
        exact e3 _ _ (e2 _ _ (e1 _ _ e))
      · rw [htk, upd_same, List.filter_append, List.map_append, List.filter_cons, if_pos hf]
        rfl
    | false =>
      show Same H H2 ∧ _
      refine ⟨e1.trans e2, ?_⟩
      rw [htk, List.filter_append, List.filter_cons, if_neg (by rw [hf]; decide), List.map_append]
      show H2 D = some (.lst (_ ++ []))
      rw [List.append_nil]
      exact e2 _ _ d1
  · rintro H1 ⟨e1, d1⟩
    rw [List.take_length] at d1
    exact q D H1 hD e1 d1

/-! ### repr of truths -/
def reprBB (a b : Bool) : Str := (PyData.list [.bool a, .bool b]).shown
theorem repr_bb {K : PySem.W.Frag} {H : Hp} {p : Addr} {a b : Bool} {Q : VK} (h : H p = some (.lst [.bl a, .bl b])) (q : Q (.str (reprBB a b)) H) : rReprD K [.ref p] H Q := by
  refine ⟨.ref p, .list [.bool a, .bool b], rfl, .lst (SqL.of h) (.cons (.bl a) (.cons (.bl b) .nil)), ?_, ?_, ?_, ?_, q⟩
  · cases a <;> cases b <;> decide
  · cases a <;> cases b <;> decide
  · cases a <;> cases b <;> decide
  · cases a <;> cases b <;> decide +kernel
theorem repr_b {K : PySem.W.Frag} {H : Hp} {a : Bool} {Q : VK} (q : Q (.str (PyData.bool a).shown) H) : rReprD K [.bl a] H Q := by
  refine ⟨.bl a, .bool a, rfl, .bl a, ?_, ?_, ?_, ?_, q⟩
  · cases a <;> decide
  · cases a <;> decide
  · cases a <;> decide
  · cases a <;> decide +kernel
theorem scal_str (x y : Str) : scal (.str x) (.str y) = true := rfl

theorem cx_K {CX : CXT} {P : Program} {w : World} {K : PySem.W.Frag} {mg : Str → Option Value} {base : Heap} {N : List Str} {qual : Str}
    {scope : Scope} {f : Addr} {cd : Value} {A : Around} {outer : List Env} {s : Shared} {H : Hp} {E : XK} :
    (cxOf CX P w K mg base N qual scope f cd A outer s H E).K = K := rfl
theorem cx_w {CX : CXT} {P : Program} {w : World} {K : PySem.W.Frag} {mg : Str → Option Value} {base : Heap} {N : List Str} {qual : Str}
    {scope : Scope} {f : Addr} {cd : Value} {A : Around} {outer : List Env} {s : Shared} {H : Hp} {E : XK} :
    (cxOf CX P w K mg base N qual scope f cd A outer s H E).w = w := rfl
theorem atI0 {α : Type} (x : α) (r : List α) : atI (x :: r) 0 = some x := atI_nat (j := 0) rfl
theorem atI1 {α : Type} (x y : α) (r : List α) : atI (x :: y :: r) 1 = some y := atI_nat (j := 1) rfl
theorem atI2 {α : Type} (x y z : α) (r : List α) : atI (x :: y :: z :: r) 2 = some z := atI_nat (j := 2) rfl
theorem atI_of {α : Type} {xs : List α} {r : Int} (h0 : 0 ≤ r) (h : r.toNat < xs.length) : atI xs r = some xs[r.toNat] := by
  have e : atI xs ((r.toNat : Nat) : Int) = some xs[r.toNat] := atI_nat (List.getElem?_eq_getElem h)
  rw [Int.toNat_of_nonneg h0] at e
  exact e
theorem ixN30 : ixN 3 0 = some 0 := by decide
theorem ixN32 : ixN 3 2 = some 2 := by decide
/-! ### powers of ten in the draws -/
theorem cpow59 : CPow 10 59 := ⟨by decide, by decide, by decide⟩
theorem cpow17 : CPow 10 17 := ⟨by decide, by decide, by decide⟩
theorem cpow60 : CPow 10 60 := ⟨by decide, by decide, by decide⟩
theorem mul60 : CMulW (10 ^ Int.toNat 60) (10 ^ Int.toNat 60) := wide_mul (a := 200) (b := 200) (by decide) (by decide) (by decide) (by decide) (by decide)
end LP

set_option Elab.async false
set_option linter.all false
set_option maxRecDepth 100000
set_option maxHeartbeats 4000000
/-! LPT: texts of numbers, stripped texts (mathematics). -/
namespace LP
open PySem PySem.Spec L2
open PyProof.Rows hiding St
open PySem.Builtin.Str TL

theorem tl_ofString (s : String) : tl (Str.ofString s) = s.toList.map Char.toNat := by
  show (Str.ofString s).cps.toList = _
  rw [Str.ofString_eq_toList]
theorem tl_neg (m : Nat) : tl (Str.ofString (toString (Int.negSucc m))) = 45 :: numL (m + 1) := by
  rw [tl_ofString]
  have e : toString (Int.negSucc m) = "-" ++ Nat.repr (m + 1) := rfl
  rw [e, String.toList_append, List.map_append]
  have e2 : (Nat.repr (m + 1)).toList = Nat.toDigits 10 (m + 1) := Nat.toList_repr
  rw [e2]
  rfl
theorem tl_int (i : Int) : tl (Str.ofString (toString i)) = if i < 0 then 45 :: numL i.natAbs else numL i.natAbs := by
  cases i with
  | ofNat m =>
    rw [if_neg (by show ¬ (Int.ofNat m) < 0; simp)]
    exact tl_num m
  | negSucc m =>
    rw [if_pos (Int.negSucc_lt_zero m)]
    exact tl_neg m
theorem numL_le {n k : Nat} (hk : 0 < k) : (numL n).length ≤ k ↔ n < 10 ^ k := by
  unfold numL
  rw [List.length_map]
  exact Nat.length_toDigits_le_iff (by decide) hk
theorem len_tl' (x : Str) : x.length = (tl x).length := by
  show x.cps.size = x.cps.toList.length
  rw [Array.length_toList]
theorem getD_tl (x : Str) (k : Nat) : x.cps.getD k 0 = (tl x).getD k 0 := (getD_list x k).symm
theorem strSub_len (x : Str) (i j : Nat) (h1 : i ≤ j) (h2 : j ≤ x.length) : (strSub x i j).length = j - i := by
  show (x.cps.extract i j).size = j - i
  rw [Array.size_extract]
  have : j ≤ x.cps.size := h2
  omega
/-- what is stripped is empty just if all signs go -/
theorem strip_nil (x y : Str) : (Txt.stripChars x y).length = 0 ↔ ∀ c ∈ tl x, y.cps.contains c = true := by
  unfold Txt.stripChars
  rw [stripBy_eq]
  obtain ⟨a0, a1, a2⟩ := lo_facts y.cps.contains x
  obtain ⟨b0, b1, b2, b3⟩ := hi_facts y.cps.contains x _ a0
  rw [strSub_len _ _ _ b0 b1]
  have key : ∀ k, k < x.length → x.cps.getD k 0 ∈ tl x := by
    intro k hk
    rw [getD_tl]
    have hk' : k < (tl x).length := by rw [← len_tl']; exact hk
    rw [List.getD_eq_getElem?_getD, List.getElem?_eq_getElem hk']
    exact List.getElem_mem hk'
  constructor
  · intro h c hc
    obtain ⟨k, hk, e⟩ := List.mem_iff_getElem.mp hc
    have hkx : k < x.length := by rw [len_tl']; exact hk
    have e' : x.cps.getD k 0 = c := by
      rw [getD_tl, List.getD_eq_getElem?_getD, List.getElem?_eq_getElem hk]
      exact e
    rw [← e']
    by_cases hl : k < stripLo y.cps.contains true x
    · exact a1 k hl
    · exact b2 k (by omega) hkx
  · intro h
    rcases a2 with e | e
    · omega
    · by_cases hl : stripLo y.cps.contains true x < x.length
      · rw [h _ (key _ hl)] at e
        cases e
      · omega
/-- the figures of a number, its sign stripped -/
theorem len_let (i : Int) : (Txt.stripChars (Str.ofString (toString i)) "-").length = (numL i.natAbs).length := by
  have e := tl_int i
  generalize Str.ofString (toString i) = x at e
  unfold Txt.stripChars
  rw [stripBy_eq]
  obtain ⟨a0, a1, a2⟩ := lo_facts ((Str.ofString "-").cps.contains) x
  obtain ⟨b0, b1, b2, b3⟩ := hi_facts ((Str.ofString "-").cps.contains) x _ a0
  rw [strSub_len _ _ _ b0 b1]
  have hgo : ∀ c : Nat, (Str.ofString "-").cps.contains c = decide (c = 45) := by
    intro c
    have : (Str.ofString "-").cps = #[45] := by decide +kernel
    rw [this]
    by_cases h : c = 45
    · subst h; simp
    · simp [h]
  have hne := numL_ne i.natAbs
  have hpos : 0 < (numL i.natAbs).length := List.length_pos_iff.mpr hne
  have hdig : ∀ k, k < (numL i.natAbs).length → (numL i.natAbs).getD k 0 ≠ 45 := by
    intro k hk h
    rw [List.getD_eq_getElem?_getD, List.getElem?_eq_getElem hk] at h
    have hm : (numL i.natAbs)[k] ∈ numL i.natAbs := List.getElem_mem hk
    have h' : (numL i.natAbs)[k] = 45 := h
    rw [h'] at hm
    exact numL_free (.inl (by decide)) hm
  have hlen := len_tl' x
  by_cases hi : i < 0
  · rw [if_pos hi] at e
    rw [e, List.length_cons] at hlen
    have x0 : x.cps.getD 0 0 = 45 := by rw [getD_tl, e]; rfl
    have xs : ∀ k, x.cps.getD (k + 1) 0 = (numL i.natAbs).getD k 0 := by intro k; rw [getD_tl, e]; rfl
    have lo1 : stripLo ((Str.ofString "-").cps.contains) true x = 1 := by
      by_cases h0 : stripLo ((Str.ofString "-").cps.contains) true x = 0
      · rcases a2 with z | z
        · omega
        · rw [h0, x0, hgo] at z
          simp at z
      · by_cases h2 : 1 < stripLo ((Str.ofString "-").cps.contains) true x
        · have z := a1 1 h2
          rw [xs 0, hgo] at z
          exact absurd (of_decide_eq_true z) (hdig 0 hpos)
        · omega
    have hi1 : stripHi ((Str.ofString "-").cps.contains) true x (stripLo ((Str.ofString "-").cps.contains) true x) = x.length := by
      by_cases h0 : stripHi ((Str.ofString "-").cps.contains) true x (stripLo ((Str.ofString "-").cps.contains) true x) < x.length
      · have z := b2 (x.length - 1) (by omega) (by omega)
        have e3 : x.length - 1 = (numL i.natAbs).length - 1 + 1 := by omega
        rw [e3, xs, hgo] at z
        exact absurd (of_decide_eq_true z) (hdig _ (by omega))
      · omega
    rw [hi1, lo1]
    omega
  · rw [if_neg hi] at e
    rw [e] at hlen
    have xs : ∀ k, x.cps.getD k 0 = (numL i.natAbs).getD k 0 := by intro k; rw [getD_tl, e]
    have lo1 : stripLo ((Str.ofString "-").cps.contains) true x = 0 := by
      by_cases h0 : stripLo ((Str.ofString "-").cps.contains) true x = 0
      · exact h0
      · have z := a1 0 (by omega)
        rw [xs 0, hgo] at z
        exact absurd (of_decide_eq_true z) (hdig 0 hpos)
    have hi1 : stripHi ((Str.ofString "-").cps.contains) true x (stripLo ((Str.ofString "-").cps.contains) true x) = x.length := by
      by_cases h0 : stripHi ((Str.ofString "-").cps.contains) true x (stripLo ((Str.ofString "-").cps.contains) true x) < x.length
      · have z := b2 (x.length - 1) (by omega) (by omega)
        rw [xs, hgo] at z
        exact absurd (of_decide_eq_true z) (hdig _ (by omega))
      · omega
    rw [hi1, lo1]
    omega
/-- the first sign of a number -/
theorem head_int (i : Int) : ∃ c, atI (tl (Str.ofString (toString i))) 0 = some c ∧ (c = 45 ↔ i < 0) := by
  rw [tl_int i]
  by_cases hi : i < 0
  · rw [if_pos hi]
    exact ⟨45, atI0 _ _, by simp [hi]⟩
  · rw [if_neg hi]
    cases h : numL i.natAbs with
    | nil => exact absurd h (numL_ne _)
    | cons c r =>
      refine ⟨c, atI0 _ _, ?_⟩
      have : c ≠ 45 := by
        intro z
        have hm : c ∈ numL i.natAbs := by rw [h]; exact List.mem_cons_self
        rw [z] at hm
        exact numL_free (.inl (by decide)) hm
      simp [this, hi]
theorem log2_of {n : Nat} {k : Nat} (h : n < 2 ^ k) (hk : 0 < k) : n.log2 < k := PySem.Flt.log2_lt_of hk h
end LP

set_option Elab.async false
set_option linter.all false
set_option maxRecDepth 100000
set_option maxHeartbeats 8000000
/-! LPS: sets of texts: set(list of texts), sorted of such a set. -/
namespace LP
open PySem PySem.Spec L2
open PyProof.Rows hiding St

/-! ### what a set of texts is -/
def tkey (e : Int × Value) : Str := match e.2 with
  | .str x _ => x
  | _ => Str.empty
def GoodT (w : World) (e : Int × Value) : Prop := ∃ x tk, e.2 = Value.str x tk ∧ e.1 = hashStr w x
/-- the table rises, and the order of a walk is told by it -/
def Walked (w : World) (t : SetTable) : Prop := Ris t.place.toList ∧ (w.params.followText "set-order" = true ∨ t.led = true)
structure TxIn (w : World) (es : Array (Int × Value)) (S : Str → Bool) : Prop where
  good : ∀ e ∈ es.toList, GoodT w e
  nd : (es.toList.map tkey).Nodup
  mem : ∀ k, S k = true ↔ k ∈ es.toList.map tkey
  few : es.size < scanBound
def SetT (w : World) (h : Heap) (a : Addr) (S : Str → Bool) (n : Nat) : Prop := ∃ o es ep t,
  h.get? a = some o ∧ o.ExactSet ∧ o.data = .set es ep t ∧ TxIn w es S ∧ t.fits es.size = true ∧ es.size = n ∧ Walked w t

section
variable {P : Program} {w : World} {h h' : Heap} {a : Addr} {S : Str → Bool} {n : Nat}
theorem SetT.at (R : SetT w h a S n) (k : ∀ o, h.get? a = some o → h'.get? a = some o) : SetT w h' a S n := by
  obtain ⟨o, es, ep, t, ho, r⟩ := R
  exact ⟨o, es, ep, t, k o ho, r⟩
theorem SetT.congr {S' : Str → Bool} {n' : Nat} (R : SetT w h a S n) (e : ∀ k, S' k = S k) (en : n' = n) : SetT w h a S' n' := by
  have q : S' = S := funext e
  rw [q, en]
  exact R
theorem tx_elems {l : List (Int × Value)} (g : ∀ e ∈ l, GoodT w e) : ElemsOf (strKind P w) l := by
  intro e he
  obtain ⟨x, tk, h1, h2⟩ := g e he
  constructor
  · refine ⟨x, ?_, h2⟩
    rw [h1]
    exact strKind_is P w x tk
  · rw [h1]
    rfl
theorem tx_is {e : Int × Value} (g : GoodT w e) (k : Str) : (strKind P w).is k e.2 = true ↔ tkey e = k := by
  obtain ⟨x, tk, h1, _⟩ := g
  unfold tkey
  rw [h1]
  constructor
  · intro q
    obtain ⟨u, e2⟩ := Value.isStrOf_shape (show Value.isStrOf k (.str x tk) = true from q)
    injection e2
  · intro q
    have q' : x = k := q
    rw [q']
    exact strKind_is P w k tk
theorem tx_mem {l : List (Int × Value)} (g : ∀ e ∈ l, GoodT w e) (k : Str) : k ∈ l.map tkey ↔ ∃ e ∈ l, (strKind P w).is k e.2 = true := by
  rw [List.mem_map]
  constructor
  · rintro ⟨e, he, q⟩
    exact ⟨e, he, (tx_is (P := P) (g e he) k).2 q⟩
  · rintro ⟨e, he, q⟩
    exact ⟨e, he, (tx_is (P := P) (g e he) k).1 q⟩
end

section
variable {P : Program} {w : World} {A : Around} {E : Value → Shared → Prop} {s : Shared} {a : Addr} {S : Str → Bool} {n : Nat}

theorem setT_tail {g : Bool → Sem Unit}
    (hg : ∀ (b : Bool) (s₁ : Shared) (Q' : Unit → Shared → Prop), Q' () s₁ → wpAny (model P w) A (g b) Q' E s₁)
    {o : Obj} {es : Array (Int × Value)} {ep : Nat} {t : SetTable} (ho : s.heap.get? a = some o) (hex : o.ExactSet) (hd : o.data = .set es ep t)
    {es1 : Array (Int × Value)} {t2 : SetTable} {S' : Str → Bool} (T1 : TxIn w es1 S') (hf2 : t2.fits es1.size = true) (hw : Walked w t2)
    {wasDummy : Bool} {R : Option Bool → Shared → Prop}
    (hR : ∀ h', Heap.SameBut a s.heap h' → SetT w h' a S' es1.size → R (some true) { s with heap := h' }) :
    wpAny (model P w) A (do
        storeSet a es1 t2
        if (!wasDummy && t2.tooFull) = true then do
            g (relayAll t2 es1 (SetTable.grown es1.size)).2.2
            storeSet a (relayAll t2 es1 (SetTable.grown es1.size)).1
              (relayAll t2 es1 (SetTable.grown es1.size)).2.1
            pure (some true)
          else pure (some true)) R E s := by
  refine wpAny_bind (wpAny_storeSet_of ho hd ?_ (fits_of_scanBound T1.few))
  have ho1 := store_at (es' := es1) (t' := t2) ho hd
  have sb1 := Heap.SameBut.update s.heap a (Obj.putSet es1 t2)
  split
  · have pm := relayAll_perm t2 es1 (SetTable.grown es1.size)
    have q1 := relayAll_fits t2 es1 (SetTable.grown es1.size)
    have q2 := relayAll_ris t2 es1 (SetTable.grown es1.size)
    have q3 := relayAll_led t2 es1 (SetTable.grown es1.size)
    generalize relayAll t2 es1 (SetTable.grown es1.size) = Z at pm q1 q2 q3 ⊢
    obtain ⟨es2, t3, gave⟩ := Z
    dsimp only at pm q1 q2 q3 ⊢
    have hsz : es2.size = es1.size := by
      have := pm.length_eq
      rw [Array.length_toList, Array.length_toList] at this
      exact this
    have few2 : es2.size < scanBound := hsz ▸ T1.few
    refine wpAny_bind (hg _ _ _ ?_)
    refine wpAny_bind (wpAny_storeSet_of ho1 rfl ?_ (fits_of_scanBound few2))
    have ho2 := store_at (es' := es2) (t' := t3) ho1 rfl
    refine wpAny_pure (hR _ (sb1.trans (Heap.SameBut.update _ a _)) ?_)
    have pk := pm.map tkey
    have T2 : TxIn w es2 S' := ⟨fun e he => T1.good e (pm.mem_iff.mp he), pk.nodup_iff.mpr T1.nd, fun k => (T1.mem k).trans pk.mem_iff.symm, few2⟩
    refine ⟨_, es2, _, t3, ho2, hex, rfl, T2, q1, hsz, q2, ?_⟩
    rcases hw.2 with z | z
    · exact .inl z
    · exact .inr (q3.trans z)
  · exact wpAny_pure (hR _ sb1 ⟨_, es1, _, t2, ho1, hex, rfl, T1, hf2, rfl, hw⟩)

theorem setT_add {k : Str} {tk : Tok} {Q : Bool → Shared → Prop} (R : SetT w s.heap a S n) (room : n + 1 < scanBound)
    (hQ : ∀ h', Heap.SameBut a s.heap h' → SetT w h' a (fun j => S j || decide (j = k)) (if S k = true then n else n + 1) →
      Q (!S k) { s with heap := h' }) :
    wpAny (model P w) A (setAddHashed a (.str k tk) ((strKind P w).hash k)) Q E s := by
  obtain ⟨o, es, ep, t, ho, hex, hd, T, hf, hn, hw⟩ := R
  have hkey : (strKind P w).is k (.str k tk) = true := strKind_is P w k tk
  have hsc : (Value.str k tk).scannable = true := rfl
  have hel : ElemsOf (strKind P w) es.toList := tx_elems T.good
  unfold setAddHashed setAddHashedIn
  refine wpAny_holding (wpAny_bind (wpAny_setState_of ho hd hf ?_))
  dsimp only
  rw [byScan_of hsc T.few hel]
  simp only [↓reduceIte]
  unfold setAddByScan
  refine wpAny_bind ?_
  refine wpAny_bind (wpAny_rule ?_)
  refine wpAny_bind (wpAny_setScan_of hkey ho hd hf hel ?_)
  cases hfi : List.findIdx? (fun e => (strKind P w).is k e.2) es.toList with
  | some j =>
    dsimp only
    obtain ⟨hj, pj, _⟩ := List.findIdx?_eq_some_iff_getElem.mp hfi
    have hSk : S k = true := (T.mem k).2 ((tx_mem (P := P) T.good k).2 ⟨es.toList[j], List.getElem_mem hj, pj⟩)
    refine wpAny_pure (wpAny_pure ?_)
    have mem' : ∀ i, (S i || decide (i = k)) = true ↔ i ∈ es.toList.map tkey := by
      intro i
      rw [Bool.or_eq_true, decide_eq_true_eq, ← T.mem i]
      constructor
      · rintro (z | z)
        · exact z
        · rw [z]; exact hSk
      · exact .inl
    have q := hQ s.heap (Heap.SameBut.refl a s.heap) ⟨o, es, ep, t, ho, hex, hd, ⟨T.good, T.nd, mem', T.few⟩, hf, by rw [if_pos hSk]; exact hn, hw⟩
    rw [hSk] at q
    exact q
  | none =>
    dsimp only
    have hnk : k ∉ es.toList.map tkey := by
      intro z
      obtain ⟨e, he, q⟩ := (tx_mem (P := P) T.good k).1 z
      have c := List.findIdx?_eq_none_iff.mp hfi e he
      rw [q] at c
      cases c
    have hSk : S k = false := by
      cases q : S k with
      | false => rfl
      | true => exact absurd ((T.mem k).1 q) hnk
    have hgw : ∀ (b : Bool) {s₁ : Shared} {Q' : Unit → Shared → Prop}, Q' () s₁ →
        wpAny (model P w) A (match b with | true => rule "set.scan.the-table-gave-way" | false => pure ()) Q' E s₁ := by
      intro b s₁ Q' q
      cases b
      · exact wpAny_pure q
      · exact wpAny_rule q
    have pm := layNew_perm t es ((strKind P w).hash k) (.str k tk)
    have q1 := layNew_fits t es ((strKind P w).hash k) (.str k tk)
    have q2 := layNew_ris t es ((strKind P w).hash k) (.str k tk) hw.1
    have q3 := layNew_led t es ((strKind P w).hash k) (.str k tk)
    generalize layNew t es ((strKind P w).hash k) (.str k tk) = Z at pm q1 q2 q3 ⊢
    obtain ⟨es1, t1, wasDummy, gave⟩ := Z
    dsimp only at pm q1 q2 q3 ⊢
    rw [Array.toList_push] at pm
    have pc := pm.trans (List.perm_append_singleton _ _)
    have pk : (es1.toList.map tkey).Perm (k :: es.toList.map tkey) := pc.map tkey
    have hsz : es1.size = n + 1 := by
      have z := pc.length_eq
      rw [List.length_cons, Array.length_toList, Array.length_toList, hn] at z
      exact z
    have T1 : TxIn w es1 (fun j => S j || decide (j = k)) := by
      refine ⟨fun e he => ?_, pk.nodup_iff.mpr (List.nodup_cons.mpr ⟨hnk, T.nd⟩), fun i => ?_, hsz ▸ room⟩
      · rcases List.mem_cons.mp (pc.mem_iff.mp he) with z | z
        · rw [z]
          exact ⟨k, tk, rfl, rfl⟩
        · exact T.good e z
      · rw [Bool.or_eq_true, decide_eq_true_eq, T.mem i, pk.mem_iff, List.mem_cons]
        exact Or.comm
    have hw1 : Walked w t1 := by
      refine ⟨q2, ?_⟩
      rcases hw.2 with z | z
      · exact .inl z
      · exact .inr (q3.trans z)
    have fin : ∀ h', Heap.SameBut a s.heap h' → SetT w h' a (fun j => S j || decide (j = k)) es1.size → Q true { s with heap := h' } := by
      intro h' sb r
      have q := hQ h' sb
      rw [hSk] at q
      rw [hsz] at r
      exact q r
    refine wpAny_bind (hgw _ ?_)
    split
    · refine wpAny_bind ?_
      rw [hashByValue_scannable 8 hsc]
      refine wpAny_pure ?_
      refine setT_tail ?_ ho hex hd T1 ?_ ?_ ?_
      · intro b s₁ Q' q
        cases b
        · exact wpAny_pure q
        · exact wpAny_rule q
      · first | (split <;> first | exact q1 | exact SetTable.fits_plain_off q1) | exact q1
      · first | (split <;> exact hw1) | exact hw1
      · intro h' sb r
        dsimp only
        exact wpAny_pure (fin h' sb r)
    · refine wpAny_bind (wpAny_pure ?_)
      simp only [↓reduceIte]
      refine setT_tail ?_ ho hex hd T1 q1 hw1 ?_
      · intro b s₁ Q' q
        cases b
        · exact wpAny_pure q
        · exact wpAny_rule q
      · intro h' sb r
        dsimp only
        exact wpAny_pure (fin h' sb r)
end

/-! ### set(xs) -/
section
variable {prog : Program} {w : World} {A : Around} {R : Result → Shared → Prop} {I : Addr} {fp wr : List Addr}
  {G : Array GenState → Array GenState → Prop} {n : Nat} {P : Nat → Value → Prop} {St : Nat → Shared → Prop}

/-- the set at S holds just the first i of the texts -/
def HoldsT (w : World) (h : Heap) (S : Addr) (xs : List Str) (i : Nat) : Prop := ∃ (M : Str → Bool) (m : Nat), SetT w h S M m ∧ m ≤ i ∧ ∀ k, M k = true ↔ k ∈ xs.take i

theorem update_texts (W : WalksS prog w A.in1 I fp wr G n P St) (S : Addr) (hSf : S ∉ fp) (xs : List Str)
    (hval : ∀ (i : Nat) (v : Value), P i v → ∃ x t, xs[i]? = some x ∧ v = Value.str x t) (hb : n + 1 < scanBound) :
    ∀ (k i : Nat) (s : Shared), n - i = k → i ≤ n → St i s → HoldsT w s.heap S xs i →
      (∀ s', Moved (S :: wr) G s s' → HoldsT w s'.heap S xs n → R (.ok (.ret .none)) s') →
      codeAny (model prog w) A (.builtin "set.update.loop" ⟨[.ref S, .ref I], []⟩) R s := by
  have hSw : S ∉ wr := fun h => hSf (W.sub _ h)
  have hsub : ∀ b ∈ wr, b ∈ S :: wr := fun b hb => List.mem_cons_of_mem _ hb
  intro k
  induction k with
  | zero =>
    intro i s hk hi hst hS hR
    obtain rfl : i = n := by omega
    refine codeAny_builtin F.entry_set_update_loop ?_
    rw [Around.under_plainId F.plain_set_update_loop _]
    show wpAny _ A.in1 (pyNext (.ref I) >>= _) _ _ s
    refine wpAny_bind (W.done s _ _ hst ?_)
    intro s' hm
    show wpAny _ A.in1 (ret Value.none) _ _ s'
    refine wpAny_pure (hR s' (hm.mono hsub) ?_)
    obtain ⟨M, m, T, hmi, hM⟩ := hS
    exact ⟨M, m, T.at fun o ho => hm.heap S _ hSw ho, hmi, hM⟩
  | succ k ih =>
    intro i s hk hi hst hS hR
    have hlt : i < n := by omega
    refine codeAny_builtin F.entry_set_update_loop ?_
    rw [Around.under_plainId F.plain_set_update_loop _]
    show wpAny _ A.in1 (pyNext (.ref I) >>= _) _ _ s
    refine wpAny_bind (W.item i s _ _ hlt hst ?_)
    intro v s' hP hst' hm
    obtain ⟨x, t, hx, rfl⟩ := hval i v hP
    obtain ⟨M, m, T, hmi, hM⟩ := hS
    have T' : SetT w s'.heap S M m := T.at fun o ho => hm.heap S _ hSw ho
    show wpAny _ A.in1 (holding [Value.str x t] (setAdd S (.str x t)) >>= _) _ _ s'
    refine wpAny_bind (wpAny_holding ?_)
    unfold setAdd
    refine wpAny_holding ?_
    refine wpAny_bind ((strKind prog w).pyHash (k := x) (strKind_is _ _ _ _) ?_)
    refine setT_add (s := { s' with toks := s'.toks + 1 }) T' (by omega) ?_
    intro h' hsb T2
    have hSi : HoldsT w h' S xs (i + 1) := by
      refine ⟨_, _, T2, ?_, fun j => ?_⟩
      · split <;> omega
      · rw [Bool.or_eq_true, decide_eq_true_eq, hM j, List.take_add_one, hx, List.mem_append]
        show _ ↔ _ ∨ j ∈ [x]
        rw [List.mem_singleton]
    refine wpAny_pure ⟨plainId_quiet F.plain_set_update_loop _, ?_⟩
    refine ih (i + 1) _ (by omega) hlt (W.frame _ s' _ _ hst' (Nat.le_succ _) ?_) hSi ?_
    · intro b hb o e
      rw [hsb.2 b (fun h : b = S => hSf (by rw [← h]; exact hb))]
      exact e
    · intro s'' hm'' hS''
      refine hR s'' (Moved.trans W.gtrans ((hm.mono hsub).then_heap (Nat.le_succ _) ?_) hm'') hS''
      intro b o hb e
      rw [hsb.2 b (fun h : b = S => hb (by rw [h]; exact List.mem_cons_self))]
      exact e
end

section
variable {P : Program} {w : World} {A : Around} {E : Value → Shared → Prop} {s : Shared}
def freshSet (w : World) : Obj := { cls := .type "set", dict := none, data := .set #[] 0 (.fresh 0 0 (!w.params.followText "set-order")) }
theorem set_new1 (a : Value) {Q₁ : Value → Shared → Prop} (h : Q₁ (.ref s.heap.objs.size) { s with heap := s.heap.push (freshSet w) }) :
    codeAny (model P w) A (.call (.builtin "set.__new__") ⟨[.type "set", a], []⟩) (wants Q₁ E) s := by
  refine codeAny_of_tree ?_
  show wpAny _ A.in1 (do
    checkBuiltinCall "set.__new__" ⟨[.type "set", a], []⟩
    again (.builtin "set.__new__" ⟨[.type "set", a], []⟩)) _ _ s
  refine wpAny_bind (wpAny_of_eq (F.newCall_set_1 a) (wpAny_pure ⟨plainId_quiet F.plain_set_new _, ?_⟩))
  refine codeAny_builtin F.entry_set_new ?_
  rw [Around.under_plainId F.plain_set_new _]
  unfold Builtin.«set.__new__» Builtin.Frozenset.newClass
  have hsub := sub_set_self
  obtain ⟨hp, g, d, tk, os⟩ := s
  dsimp only
  wp_walk
  refine wpAny_askSetting (wpAny_pure ?_)
  dsimp only
  simp only [newObj]
  exact wpAny_bind (wpAny_alloc (wpAny_pure (wpAny_pure h)))
theorem setT_fresh {h : Heap} (w : World) (xs : List Str) : HoldsT w (h.push (freshSet w)) h.objs.size xs 0 := by
  refine ⟨fun _ => false, 0, ⟨_, #[], 0, _, Heap.get?_push_size _ rfl, ⟨rfl, rfl, rfl⟩, rfl, ⟨?_, ?_, ?_, ?_⟩, ?_, rfl, List.Pairwise.nil, ?_⟩, Nat.le_refl _, ?_⟩
  · intro e he
    simp at he
  · simp
  · intro k
    simp
  · decide
  · rfl
  · show _ ∨ (!w.params.followText "set-order") = true
    cases w.params.followText "set-order"
    · exact .inr rfl
    · exact .inl rfl
  · intro k
    simp

theorem call_set_texts {l : Addr} {items : Array Value} {xs : List Str} {Q : Value → Shared → Prop} (hh : A.handled = none)
    (hl : s.heap.IsList l items) (hi : ∀ (i : Nat) (v : Value), items[i]? = some v → ∃ x t, xs[i]? = some x ∧ v = Value.str x t) (hb : items.size + 1 < scanBound)
    (h : ∀ (h' : Heap) (tk : Nat), HoldsT w h' s.heap.objs.size xs items.size →
      (∀ b o, b < s.heap.objs.size → s.heap.get? b = some o → h'.get? b = some o) → Q (.ref s.heap.objs.size) { s with heap := h', toks := tk }) :
    wpAny (model P w) A (call (.type "set") [.ref l]) Q E s := by
  obtain ⟨c, tl, hmro⟩ := F.called_set.mro
  have hmade := F.called_set.made
  have hsub := F.called_set.sub
  refine wpAny_call (codeAny_of_tree ?_)
  show wpAny _ _ (callAny (.type "set") _) _ _ _
  refine wpAny_pure ⟨Code.quiet_builtin _ (by decide +kernel), ?_⟩
  refine codeAny_builtin F.entry_type_call ?_
  rw [Around.under_plain (weight_type_call_type "set" [.ref l] []) rfl]
  have h1 := F.called_set.notType
  have h2 := F.called_set.canCreate
  have hct := F.typeCall_set_1 (.ref l)
  repeat (any_goals (first | assumption | wp_step))
  refine codeAny_mono (set_new1 (.ref l) (E := E) (Q₁ := fun obj s₁ => obj = .ref s.heap.objs.size ∧ s₁ = { s with heap := s.heap.push (freshSet w) }) ⟨rfl, rfl⟩) ?_
  intro r s₁ hr
  cases r with
  | error e => exact hr
  | ok fl =>
    cases fl with
    | ret obj =>
      obtain ⟨rfl, rfl⟩ := hr
      have hS : (s.heap.push (freshSet w)).get? s.heap.objs.size = some (freshSet w) := Heap.get?_push_size _ rfl
      have hT : Shared.TypeIs { s with heap := s.heap.push (freshSet w) } (.ref s.heap.objs.size) "set" := ⟨_, hS, rfl⟩
      have hli := F.called_set.init.lookup
      have hbi := F.called_set.init.bind (.ref s.heap.objs.size)
      repeat (any_goals (first | assumption | wp_step))
      refine codeAny_mono (codeAny_call_builtin (R := wants (fun r s₂ => r = .none ∧ ∃ h' tk, s₂ = { s with heap := h', toks := tk } ∧
          HoldsT w h' s.heap.objs.size xs items.size ∧ (∀ b o, b < s.heap.objs.size → s.heap.get? b = some o → h'.get? b = some o)) E)
        F.called_set.init.plain F.entry_set_init (check_set_init_1 hT ?_)) ?_
      · obtain ⟨ol, hol, hcl, nl, hdl⟩ := hl
        obtain ⟨ocls, odict, odata, oslots⟩ := ol
        simp only at hcl hdl
        subst hcl
        subst hdl
        have hol' : (s.heap.push (freshSet w)).get? l = some { cls := .type "list", dict := odict, data := .seq items nl, slots := oslots } := Heap.get?_push_of_some _ hol
        have hsls := F.sub_list_set
        have hslf := F.sub_list_frozenset
        have hne : (Value.type "list" == Value.type "dict") = false := by decide
        have hl1 : (s.heap.push (freshSet w)).IsList l items := ⟨_, hol', rfl, nl, rfl⟩
        unfold Builtin.«set.__init__» noKeywords Builtin.Frozenset.updateFrom
        generalize hPI : pyIter = PI
        wp_walk
        subst hPI
        refine wpAny_pyIter_list hl1 ?_
        refine wpAny_bind (wpAny_runValue ?_)
        have hlS : l < s.heap.objs.size := Heap.lt_size hol
        have hh3 : A.in1.in1.in1.handled = none := by simp [hh]
        have hsz : (s.heap.push (freshSet w)).objs.size = s.heap.objs.size + 1 := Heap.size_push _ _
        have hneI : l ≠ (s.heap.push (freshSet w)).objs.size := by
          rw [hsz]
          exact Nat.ne_of_lt (Nat.lt_succ_of_lt hlS)
        have hSf : s.heap.objs.size ∉ [(s.heap.push (freshSet w)).objs.size, l] := by
          rw [hsz]
          simp only [List.mem_cons, List.not_mem_nil, or_false, not_or]
          exact ⟨Nat.ne_of_lt (Nat.lt_succ_self _), Nat.ne_of_gt hlS⟩
        refine update_texts ((Walks.list hh3 _ l hneI items).toS) s.heap.objs.size hSf xs hi hb (items.size - 0) 0 _ (by omega) (Nat.zero_le _)
          ⟨⟨_, Heap.get?_push_size _ rfl, rfl, rfl⟩, (hl1.push _)⟩ ?hS0 ?hR
        case hS0 =>
          obtain ⟨M, m, T, e1, e2⟩ := setT_fresh (h := s.heap) w xs
          exact ⟨M, m, T.at fun o ho => Heap.get?_push_of_some _ ho, e1, e2⟩
        case hR =>
          intro s' hm hS'
          obtain ⟨h', g', d', tk', os'⟩ := s'
          have eg : g' = s.gens := hm.gens
          have ed : d' = s.drawn := hm.drawn
          have eo : os' = s.os := hm.os
          subst eg
          subst ed
          subst eo
          show wpAny _ _ _ _ _ _
          refine wpAny_pure ?_
          show wpAny _ _ (ret Value.none) _ _ _
          refine wpAny_pure ⟨rfl, h', tk', rfl, hS', ?_⟩
          intro b o hb e
          have hb1 : b ≠ s.heap.objs.size := Nat.ne_of_lt hb
          have hb2 : b ≠ (s.heap.push (freshSet w)).objs.size := by
            rw [hsz]
            exact Nat.ne_of_lt (Nat.lt_succ_of_lt hb)
          refine hm.heap b o ?_ (Heap.get?_push_of_some _ (Heap.get?_push_of_some _ e))
          simp only [List.mem_cons, List.not_mem_nil, or_false, not_or]
          exact ⟨hb1, hb2⟩
      · intro r₂ s₂ hr₂
        cases r₂ with
        | error e => exact hr₂
        | ok fl₂ =>
          cases fl₂ with
          | ret r =>
            obtain ⟨rfl, h', tk, rfl, hS', hk'⟩ := hr₂
            repeat (any_goals (first | assumption | wp_step))
            exact h _ _ hS' hk'
          | _ => exact hr₂.elim
    | _ => exact hr.elim

/-! ### sorted(set) -/
def txtOf (v : Value) : Str := match v with
  | .str x _ => x
  | _ => Str.empty
theorem strs_of : ∀ (l : List Value), (∀ v ∈ l, ∃ x tk, v = Value.str x tk) → StrsAre l (l.map txtOf)
  | [], _ => .nil
  | v :: l, h => by
    obtain ⟨x, tk, rfl⟩ := h v List.mem_cons_self
    exact .cons x tk (strs_of l fun u hu => h u (List.mem_cons_of_mem _ hu))

theorem sorted_texts {a : Addr} {S : Str → Bool} {n : Nat} {Q : Value → Shared → Prop} (R : SetT w s.heap a S n) (hh : A.handled = none)
    (hQ : ∀ s' p (out : Array Value) (c : Nat) (ys : List Str), (∀ b o, s.heap.get? b = some o → s'.heap.get? b = some o) → s'.gens = s.gens → s'.os = s.os →
      s.heap.objs.size ≤ p → s'.heap.get? p = some (seqObj "list" out c) → StrsAre out.toList ys → sortedS ys = true → ys.Nodup → (∀ k, k ∈ ys ↔ S k = true) →
      ys.length = n → Q (.ref p) s') :
    wpAny (model P w) A (call (.builtin "sorted") [.ref a]) Q E s := by
  obtain ⟨o, es, ep, t, ho, hex, hd, T, hf, hn, hw⟩ := R
  refine Calls.call_function_entry kind_sorted plain_sorted entry_sorted (args_sorted1 _) ?_
  unfold Builtin.«sorted»
  refine wpAny_bind (m := checkCount "sorted" 1 1 _) (wpAny_pure ?_)
  refine wpAny_bind (collect_set (A := A.in1) hh ⟨o, ho, hex.1, hd⟩ hf T.few hw.1 hw.2 ?_)
  intro s1 vs k1 hz g1 o1 pm
  have hvl : vs.length = n := by
    rw [pm.length_eq, List.length_map, Array.length_toList]
    exact hn
  have hI : StrsAre vs (vs.map txtOf) := by
    refine strs_of vs fun v hv => ?_
    obtain ⟨e, he, q⟩ := List.mem_map.mp (pm.mem_iff.mp hv)
    obtain ⟨x, tk, h1, _⟩ := T.good e he
    exact ⟨x, tk, by rw [← q]; exact h1⟩
  have pk : (vs.map txtOf).Perm (es.toList.map tkey) := by
    have q := pm.map txtOf
    rw [List.map_map] at q
    exact q
  have hline : vs.length ≤ sizeLine := by
    rw [hvl, ← hn]
    exact fits_of_scanBound T.few
  refine wpAny_bind (wpAny_newList ?_ hline)
  have hoL : (s1.heap.push (seqObj "list" vs.toArray 0)).get? s1.heap.objs.size = some (seqObj "list" vs.toArray 0) := Heap.get?_push_size _ rfl
  refine wpAny_bind (wpAny_holding (wpAny_call_entry slot_list_sort ⟨_, hoL, rfl⟩ entry_list_sort
    (list_sort_treeKAny strKind_oneLt hoL hI.keysOf (fun v₁ v₂ rest e => keyKind_strs (by rw [← e]; exact hI)) hline ?_) (args_list_sort _)))
  intro st' hp hs
  obtain ⟨ys, a1, a2, a3⟩ := sorted_out_str hI hp hs
  refine ⟨_, rfl, ?_⟩
  obtain ⟨c, hc⟩ := sortedHeap_at (vs := vs) (out := (arrOf st').map (·.2)) hoL
  have pn : ys.Perm (es.toList.map tkey) := a2.trans pk
  refine wpAny_pure ⟨_, rfl, ?_⟩
  refine hQ _ s1.heap.objs.size _ c ys ?_ g1 o1 hz hc a1 a3 (pn.nodup_iff.mpr T.nd) (fun k => by rw [pn.mem_iff, ← T.mem k]) ?_
  · intro b u e
    have q := k1 b u e
    have hlt := Heap.lt_size q
    show (sortedHeap (s1.heap.push (seqObj "list" vs.toArray 0)) s1.heap.objs.size vs _).get? b = some u
    rw [sortedHeap_old (Nat.ne_of_lt hlt) (by rw [size_push']; exact Nat.lt_succ_of_lt hlt)]
    exact Heap.get?_push_of_some _ q
  · rw [pn.length_eq, List.length_map, Array.length_toList]
    exact hn
end

/-! ### over the layer -/
/-- a tracked set of just these texts -/
def TxS (w : World) (a : Addr) (xs : List Str) : HO := .ext fun h => HoldsT w h a xs xs.length
theorem txS_ok {P : Program} {w : World} {H : Hp} {h : Heap} {a : Addr} {xs : List Str} (T : HoldsT w h a xs xs.length) : ObjOk P w H h a (TxS w a xs) := by
  refine ⟨T, ?_, ?_⟩
  · obtain ⟨_, _, ⟨o, _, _, _, ho, _⟩, _⟩ := T
    exact ⟨o, ho⟩
  · rintro h1 h2 ⟨M, m, T1, e1, e2⟩ k
    exact ⟨M, m, T1.at k, e1, e2⟩
/-- sorted, each once, the same members -/
structure Sorted (ys xs : List Str) : Prop where
  up : sortedS ys = true
  nd : ys.Nodup
  mem : ∀ k, k ∈ ys ↔ k ∈ xs
  len : ys.length ≤ xs.length
def rSetT (w : World) : List V → Hp → VK → Prop := fun vs H Q => ∃ (l : Addr) (xs : List Str), vs = [.ref l] ∧ H l = some (.lst (xs.map V.str)) ∧ xs.length + 1 < scanBound ∧
  ∀ p, H p = none → Q (.ref p) (upd H p (TxS w p xs))
def rSortT (w : World) : List V → Hp → VK → Prop := fun vs H Q => ∃ (a : Addr) (xs : List Str), vs = [.ref a] ∧ H a = some (TxS w a xs) ∧
  ∀ ys p, Sorted ys xs → H p = none → Q (.ref p) (upd H p (.lst (ys.map V.str)))
theorem vals_str {xs : List Str} {us : List Value} (r : Vals (xs.map V.str) us) (i : Nat) (v : Value) (h : us[i]? = some v) : ∃ x t, xs[i]? = some x ∧ v = Value.str x t := by
  have hi : i < us.length := (List.getElem?_eq_some_iff.mp h).1
  have hx : i < xs.length := by
    have := r.length
    rw [List.length_map] at this
    omega
  obtain ⟨u, h1, h2⟩ := Vals.get (i := i) (x := V.str xs[i]) r (by rw [List.getElem?_map, List.getElem?_eq_getElem hx]; rfl)
  rw [h] at h1
  cases h1
  obtain ⟨t, e⟩ := h2
  exact ⟨xs[i], t, List.getElem?_eq_getElem hx, e⟩
section
variable {X : Cx}
theorem cr_setT (hc : X.calm = true) : CallR X (.type "set") (rSetT X.w) := by
  intro pins s σ H vs us Q I r h
  obtain ⟨l, xs, rfl, hl, hz, q⟩ := h
  obtain ⟨its, rv, pl, _⟩ := I.list (SqL.of hl)
  rw [Vals.ref1 r]
  have hlen : its.length = xs.length := by
    have := rv.length
    rw [List.length_map] at this
    exact this.symm
  refine call_set_texts (xs := xs) (I.ok.hd hc) pl.isList (fun i v hv => vals_str rv i v (by simpa using hv)) (by rw [List.size_toArray, hlen]; exact hz) ?_
  intro h' tk T k
  have ez : its.toArray.size = xs.length := by rw [List.size_toArray, hlen]
  rw [ez] at T
  have kk : ∀ b o, s.heap.get? b = some o → h'.get? b = some o := fun b o e => k b o (Heap.lt_size e) e
  exact ⟨.ref _, _, I.laid (t' := tk) kk (Nat.le_refl _) (txS_ok T), rfl, q _ (I.hok.fresh (Nat.le_refl _))⟩
theorem cr_sortT (hc : X.calm = true) : CallR X (.builtin "sorted") (rSortT X.w) := by
  intro pins s σ H vs us Q I r h
  obtain ⟨a, xs, rfl, ha, q⟩ := h
  have T : HoldsT X.w s.heap a xs xs.length := (I.hok a _ ha).1
  obtain ⟨M, m, T, hm, hM⟩ := T
  rw [List.take_length] at hM
  rw [Vals.ref1 r]
  refine sorted_texts T (I.ok.hd hc) ?_
  intro s' p out c ys k g o hp hg hs h1 h2 h3 h4
  have so : Sorted ys xs := ⟨h1, h2, fun j => (h3 j).trans (hM j), by rw [h4]; exact hm⟩
  have few : ys.length < scanBound := by
    obtain ⟨_, es, _, _, _, _, _, Tx, _, hn, _⟩ := T
    rw [h4, ← hn]
    exact Tx.few
  have hlen : (ys.map V.str).length ≤ sizeLine := by
    rw [List.length_map]
    exact fits_of_scanBound few
  have hn : H p = none := I.hok.fresh hp
  have J : Inv X pins σ (upd H p (.lst (ys.map V.str))) { s with heap := s'.heap, gens := s'.gens, drawn := s'.drawn, toks := s'.toks } :=
    I.call (ch := []) (Un.laid k hp hn) (I.hok.laid k hp ⟨hlen, out.toList, c, vals_of_strs hs, hg⟩) (by rw [g]; exact I.bare) (fun _ z => nomatch z)
  have e : s' = { s with heap := s'.heap, gens := s'.gens, drawn := s'.drawn, toks := s'.toks } := by
    cases s'
    cases s
    cases o
    rfl
  rw [e]
  exact ⟨.ref p, _, J, rfl, q ys p so hn⟩
end
end LP

set_option Elab.async false
set_option linter.all false
set_option maxRecDepth 100000
set_option maxHeartbeats 4000000
/-! LPX: further readings: texts repeated, signs of a text, tuples walked, all(..). -/
namespace LP
open PySem PySem.Spec L2
open PyProof.Rows hiding St

/-! ### a text repeated -/
def repS (z : Str) (n : Int) : Str := Txt.mul z n
theorem foldl_app {α : Type} : ∀ (l : List (Array α)) (a : Array α), (l.foldl (· ++ ·) a).toList = a.toList ++ (l.map Array.toList).flatten
  | [], a => by simp
  | x :: r, a => by
    rw [List.foldl_cons, foldl_app r (a ++ x)]
    simp
theorem tl_rep (z : Str) (n : Int) : TL.tl (repS z n) = (List.replicate n.toNat (TL.tl z)).flatten := by
  unfold repS Txt.mul
  by_cases h : n < 1
  · rw [if_pos h]
    have e : n.toNat = 0 := by omega
    rw [e]
    rfl
  · rw [if_neg h]
    by_cases h2 : (n == 1 || z.length == 0) = true
    · rw [if_pos h2]
      rw [Bool.or_eq_true, beq_iff_eq, beq_iff_eq] at h2
      rcases h2 with e | e
      · rw [e]
        simp
      · have e2 : TL.tl z = [] := List.length_eq_zero_iff.mp ((len_tl' z).symm.trans e)
        rw [e2]
        simp
    · rw [if_neg h2]
      show ((List.replicate n.toNat z.cps).foldl (· ++ ·) #[]).toList = _
      rw [foldl_app]
      simp
theorem len_rep (z : Str) (n : Int) : (repS z n).length = z.length * n.toNat := by
  rw [len_tl', tl_rep, List.length_flatten, len_tl']
  simp [Nat.mul_comm]
def rRepS : R2 := fun x y H Q => ∃ z n, x = .str z ∧ y = .int n ∧ (-(2 ^ 63) ≤ n ∧ n < 2 ^ 63 ∧ z.length * n.toNat ≤ sizeLine) ∧ Q (.str (repS z n)) H
section
variable {X : Cx}
theorem op_repS : OpR X (binaryOp .Mult) rRepS := by
  intro pins s σ H x y v u Q I rx ry h
  obtain ⟨z, n, rfl, rfl, ⟨h1, h2, h3⟩, q⟩ := h
  obtain ⟨t, rfl⟩ := rx
  obtain ⟨k, rfl⟩ := ry
  refine SB.mul ⟨?_, ?_, ?_⟩ (fun t' k' => ⟨.str _, H, I.tok _, ⟨_, rfl⟩, q⟩)
  · rw [Bool.or_eq_false_iff, decide_eq_false_iff_not, decide_eq_false_iff_not]
    omega
  · intro hn _ hc
    have e : sizeLine = 16777216 := sizeLine_eq
    rw [e] at h3
    have h5 : (z.length : Int) * n ≤ 16777216 := by
      have e2 : ((n.toNat : Nat) : Int) = n := Int.toNat_of_nonneg (by omega)
      have e3 := Int.ofNat_le.mpr h3
      rw [Int.natCast_mul, e2] at e3
      exact e3
    have h6 : (z.length : Int) ≤ (2 ^ 63 - 1) / n := by
      rw [Int.le_ediv_iff_mul_le (by omega)]
      omega
    omega
  · intro hn _
    show decide (z.length * n.toNat > sizeLine) = false
    rw [decide_eq_false_iff_not]
    exact Nat.not_lt_of_le h3
end

/-! ### the signs of a text -/
def sgn (c : Nat) : V := .str ⟨#[c]⟩
def signs (x : Str) : List V := x.cps.toList.map sgn
theorem signs_len (x : Str) : (signs x).length = x.length := by
  unfold signs
  rw [List.length_map, len_tl']
theorem walk_signs (x : Str) : Walk (Its x) (signs x).length (fun _ => True) (YAt (signs x)) := by
  have e : (signs x).length = x.cps.size := signs_len x
  refine ⟨fun i H hi _ => ?_, fun H _ => ?_, fun i H v H' hi _ y => ?_⟩
  · rw [e] at hi
    exact hi
  · exact Nat.le_of_eq e.symm
  · obtain ⟨e1, c, hc, e2⟩ := y
    refine ⟨e1, ?_⟩
    unfold signs
    rw [List.getElem?_map, Array.getElem?_toList, hc, e2]
    rfl

/-! ### comprehensions that leave what is known, over any walk -/
theorem lc_pureW {J : It} {G : Hp → Prop} {xs : List V} (W : Walk J xs.length G (YAt xs)) {j : Nat} {tt : TT} {te : TE} {vs : List Nat} {σ : St} {H : Hp} {Q : VK}
    (hG : ∀ H1, Same H H1 → G H1) (hz : xs.length ≤ 1000000) (f : V → Bool) (v : V → V)
    (hw : ∀ x, wipe ((wipe σ vs).set j (some x)) vs = wipe σ vs)
    (ht : ∀ x, x ∈ xs → ∀ H1, Same H H1 → ∀ R : Bool → Hp → Prop, (∀ H2, Same H1 H2 → R (f x) H2) → tt ((wipe σ vs).set j (some x)) H1 R)
    (he : ∀ x, x ∈ xs → f x = true → ∀ H1, Same H H1 → ∀ R : VK, (∀ H2, Same H1 H2 → R (v x) H2) → te ((wipe σ vs).set j (some x)) H1 R)
    (q : ∀ p H2, H p = none → Same H H2 → H2 p = some (.lst ((xs.filter f).map v)) → Q (.ref p) H2) : LcLoop J (gName j) tt te vs σ H Q := by
  intro D hD
  refine lc_it W (fun i H' => Same H H' ∧ H' D = some (.lst (((xs.take i).filter f).map v))) ⟨Same.new hD, upd_same⟩ (fun i H' _ p => hG H' p.1) ?_ ?_
  · rintro i x H1 H1' hi ⟨e1, d1⟩ ⟨rfl, hx⟩
    have hm : x ∈ xs := List.mem_of_getElem? hx
    have htk : xs.take (i + 1) = xs.take i ++ [x] := by rw [List.take_add_one, hx]; rfl
    refine ⟨hw x, ht x hm _ e1 _ fun H2 e2 => ?_⟩
    cases hf : f x with
    | true =>
      show te _ H2 _
      refine he x hm hf H2 (e1.trans e2) _ fun H3 e3 => ?_
      refine ⟨_, e3 _ _ (e2 _ _ d1), ?_, ?_, ?_⟩
      · have h1 : (((xs.take i).filter f).map v).length ≤ xs.length := by
          rw [List.length_map]
          exact Nat.le_trans (List.length_filter_le _ _) (by rw [List.length_take]; omega)
        exact Nat.lt_of_le_of_lt (Nat.le_trans h1 hz) (by decide)
      · intro b o e
        rw [upd_ne (ne_of_none e hD)]
        exact e3 _ _ (e2 _ _ (e1 _ _ e))
      · rw [htk, upd_same, List.filter_append, List.map_append, List.filter_cons, if_pos hf]
        rfl
    | false =>
      show Same H H2 ∧ _
      refine ⟨e1.trans e2, ?_⟩
      rw [htk, List.filter_append, List.filter_cons, if_neg (by rw [hf]; decide), List.map_append]
      show H2 D = some (.lst (_ ++ []))
      rw [List.append_nil]
      exact e2 _ _ d1
  · rintro H1 ⟨e1, d1⟩
    rw [List.take_length] at d1
    exact q D H1 hD e1 d1
/-- .. without a test -/
theorem lc_mapW {J : It} {G : Hp → Prop} {xs : List V} (W : Walk J xs.length G (YAt xs)) {j : Nat} {te : TE} {vs : List Nat} {σ : St} {H : Hp} {Q : VK}
    (hG : ∀ H1, Same H H1 → G H1) (hz : xs.length ≤ 1000000) (v : V → V)
    (hw : ∀ x, wipe ((wipe σ vs).set j (some x)) vs = wipe σ vs)
    (he : ∀ x, x ∈ xs → ∀ H1, Same H H1 → ∀ R : VK, (∀ H2, Same H1 H2 → R (v x) H2) → te ((wipe σ vs).set j (some x)) H1 R)
    (q : ∀ p H2, H p = none → Same H H2 → H2 p = some (.lst (xs.map v)) → Q (.ref p) H2) : LcLoop J (gName j) tYes te vs σ H Q := by
  refine lc_pureW W hG hz (fun _ => true) v hw (fun x _ H1 _ R h => h H1 (Same.refl _)) (fun x hx _ H1 e R h => he x hx H1 e R h) ?_
  intro p H2 hp e hl
  have ef : xs.filter (fun _ => true) = xs := List.filter_eq_self.mpr (fun _ _ => rfl)
  rw [ef] at hl
  exact q p H2 hp e hl

/-! ### loops over any walk -/
theorem loop_it {J : It} {n : Nat} {G : Hp → Prop} {Y : Nat → Hp → V → Hp → Prop} (W : Walk J n G Y) {g : TG} {tb : TS} {D : Ends} {σ : St} {H : Hp} (Pv : Nat → St → Hp → Prop) (h0 : Pv 0 σ H)
    (hG : ∀ i σ H, i ≤ n → Pv i σ H → G H)
    (hs : ∀ i x σ H H', i < n → Pv i σ H → Y i H x H' → g x σ H' fun σ2 H2 => Later tb { D with nx := Pv (i + 1), ct := Pv (i + 1), bk := D.nx } σ2 H2)
    (hd : ∀ σ H, Pv n σ H → D.nx σ H) : Loop J g tb D σ H := for_it W Pv h0 hG hs hd
theorem loop_tup {K : PySem.W.Frag} {a : Addr} {xs : List V} {g : TG} {tb : TS} {D : Ends} {σ : St} {H : Hp} (Pv : Nat → St → Hp → Prop) (h0 : Pv 0 σ H)
    (hl : ∀ i σ H, i ≤ xs.length → Pv i σ H → SqT K H a xs)
    (hs : ∀ (i : Nat) (x : V) (σ : St) (H : Hp), xs[i]? = some x → Pv i σ H → g x σ H fun σ2 H2 => Later tb { D with nx := Pv (i + 1), ct := Pv (i + 1), bk := D.nx } σ2 H2)
    (hd : ∀ σ H, Pv xs.length σ H → D.nx σ H) : Loop (Itt K a) g tb D σ H := for_tup (K := K) (a := a) (xs := xs) Pv h0 hl hs hd

/-! ### all(..), one sign in a text, ranges -/
def rAllM : List V → Hp → VK → Prop := fun vs H Q => ∃ (a : Addr) (bs : List Bool), vs = [V.ref a] ∧ H a = some (.lst (bs.map V.bl)) ∧ Q (.bl (bs.all id)) H
def rSgn : R2 := fun x y H Q => ∃ (c : Nat) (z : Str), x = sgn c ∧ y = .str z ∧ Q (.bl (decide (c ∈ z.cps.toList))) H
def rRng2 : List V → Hp → VK → Prop := fun vs H Q => ∃ i j, vs = [V.int i, V.int j] ∧ ∀ p, H p = none → Q (.ref p) (upd H p (.rng i j))
def rInRng : R2 := fun x y H Q => ∃ i a lo hi, x = V.int i ∧ y = V.ref a ∧ H a = some (.rng lo hi) ∧ Q (.bl (decide (lo ≤ i ∧ i < hi))) H
section
variable {X : Cx}
theorem op_eqK {K : PySem.W.Frag} (hK : X.K = K) (hu : X.A.units + 64 < cLine) : OpR X (compareOp .Eq) (rEqD K) := by
  subst hK
  exact op_eqD hu
theorem op_neK {K : PySem.W.Frag} (hK : X.K = K) (hu : X.A.units + 64 < cLine) : OpR X (compareOp .NotEq) (rNeD K) := by
  subst hK
  exact op_neD hu
theorem call_isiK' {K : PySem.W.Frag} (hK : X.K = K) : CallR X (.builtin "isinstance") (rIsi K) := by
  subst hK
  exact call_isi
theorem call_reprK {K : PySem.W.Frag} (hK : X.K = K) (gd : X.A.guards = some []) (hu : X.A.units + 64 < cLine) : CallR X (.builtin "repr") (rReprD K) := by
  subst hK
  exact call_reprD gd hu
theorem cr_allM (hc : X.calm = true) : CallR X (.builtin "all") rAllM := call_imp (cr_all hc) fun xs H Q ⟨a, bs, h1, h2, q⟩ => ⟨a, bs, h1, SqL.of h2, q⟩
theorem op_sgn : OpR X (compareOp .In) rSgn := op_imp op_in_sign fun x y H Q h => h
theorem cr_rng2 : CallR X (.type "range") rRng2 := cr_range2
theorem op_inRng : OpR X (compareOp .In) rInRng := op_in_rng
end
end LP

set_option Elab.async false
set_option linter.all false
set_option maxRecDepth 100000
set_option maxHeartbeats 4000000
set_option exponentiation.threshold 5000
namespace K00
open PySem PySem.Spec L2 LP
open PyProof.Rows hiding St
def top (i : Nat) : Stmt := PySem.Challenge.pw_lastprices_k00_whole_words_of_few_signs.main.body.getD i (.Pass ⟨0, 0, 0, 0⟩)
abbrev s_is_spelt : Stmt := top 4
abbrev N_is_spelt : List Str := ["value", "letter"]
abbrev P_is_spelt : List Str := ["value"]
theorem sc_is_spelt : FnScope N_is_spelt P_is_spelt (defScope s_is_spelt) :=
  ⟨rfl, rfl, rfl, by decide +kernel, rfl, by decide +kernel, by decide +kernel⟩
abbrev s_is_name : Stmt := top 5
abbrev N_is_name : List Str := ["value"]
abbrev P_is_name : List Str := ["value"]
theorem sc_is_name : FnScope N_is_name P_is_name (defScope s_is_name) :=
  ⟨rfl, rfl, rfl, by decide +kernel, rfl, by decide +kernel, by decide +kernel⟩
abbrev s_is_letter : Stmt := top 6
abbrev N_is_letter : List Str := ["value"]
abbrev P_is_letter : List Str := ["value"]
theorem sc_is_letter : FnScope N_is_letter P_is_letter (defScope s_is_letter) :=
  ⟨rfl, rfl, rfl, by decide +kernel, rfl, by decide +kernel, by decide +kernel⟩
abbrev s_is_text : Stmt := top 7
abbrev N_is_text : List Str := ["value"]
abbrev P_is_text : List Str := ["value"]
theorem sc_is_text : FnScope N_is_text P_is_text (defScope s_is_text) :=
  ⟨rfl, rfl, rfl, by decide +kernel, rfl, by decide +kernel, by decide +kernel⟩
abbrev s_dice : Stmt := top 9
abbrev N_dice : List Str := ["_law_script", "_law_spot", "_law_cell", "_law_great", "_law_left"]
abbrev P_dice : List Str := ["_law_script", "_law_spot"]
theorem sc_dice : FnScope N_dice P_dice (defScope s_dice) :=
  ⟨rfl, rfl, rfl, by decide +kernel, rfl, by decide +kernel, by decide +kernel⟩
abbrev s_roll : Stmt := top 10
abbrev N_roll : List Str := ["_law_dice_here", "_law_total", "_law_found", "_law_one", "_law_two"]
abbrev P_roll : List Str := ["_law_dice_here", "_law_total"]
theorem sc_roll : FnScope N_roll P_roll (defScope s_roll) :=
  ⟨rfl, rfl, rfl, by decide +kernel, rfl, by decide +kernel, by decide +kernel⟩
abbrev s_pick : Stmt := top 11
abbrev N_pick : List Str := ["_law_dice_here", "_law_items"]
abbrev P_pick : List Str := ["_law_dice_here", "_law_items"]
theorem sc_pick : FnScope N_pick P_pick (defScope s_pick) :=
  ⟨rfl, rfl, rfl, by decide +kernel, rfl, by decide +kernel, by decide +kernel⟩
abbrev s_texts : Stmt := top 12
abbrev N_texts : List Str := ["_law_letters", "_law_most", "_law_layer", "_law_found", "_law_turn"]
abbrev P_texts : List Str := ["_law_letters", "_law_most"]
theorem sc_texts : FnScope N_texts P_texts (defScope s_texts) :=
  ⟨rfl, rfl, rfl, by decide +kernel, rfl, by decide +kernel, by decide +kernel⟩
abbrev s_longer : Stmt := top 13
abbrev N_longer : List Str := ["_law_texts_here", "_law_letters", "_law_found", "_law_text", "_law_letter"]
abbrev P_longer : List Str := ["_law_texts_here", "_law_letters"]
theorem sc_longer : FnScope N_longer P_longer (defScope s_longer) :=
  ⟨rfl, rfl, rfl, by decide +kernel, rfl, by decide +kernel, by decide +kernel⟩
abbrev s_signs : Stmt := top 14
abbrev N_signs : List Str := ["_law_dice_here", "_law_odd", "_law_turn"]
abbrev P_signs : List Str := ["_law_dice_here"]
theorem sc_signs : FnScope N_signs P_signs (defScope s_signs) :=
  ⟨rfl, rfl, rfl, by decide +kernel, rfl, by decide +kernel, by decide +kernel⟩
abbrev s_told : Stmt := top 15
abbrev N_told : List Str := ["_law_text"]
abbrev P_told : List Str := ["_law_text"]
theorem sc_told : FnScope N_told P_told (defScope s_told) :=
  ⟨rfl, rfl, rfl, by decide +kernel, rfl, by decide +kernel, by decide +kernel⟩
abbrev s_due : Stmt := top 16
abbrev N_due : List Str := ["_law_text", "_law_rest", "_law_is_clean"]
abbrev P_due : List Str := ["_law_text"]
theorem sc_due : FnScope N_due P_due (defScope s_due) :=
  ⟨rfl, rfl, rfl, by decide +kernel, rfl, by decide +kernel, by decide +kernel⟩
abbrev s_long : Stmt := top 17
abbrev N_long : List Str := ["_law_dice_here", "_law_signs_here", "_law_found", "_law_size", "_law_at", "_law_sign"]
abbrev P_long : List Str := ["_law_dice_here", "_law_signs_here"]
theorem sc_long : FnScope N_long P_long (defScope s_long) :=
  ⟨rfl, rfl, rfl, by decide +kernel, rfl, by decide +kernel, by decide +kernel⟩
abbrev s_law : Stmt := top 18
abbrev N_law : List Str := ["_law_script", "_law_spot", "_law_dice_here", "_law_signs_here", "_law_text", "_law_odd", "_law_value"]
abbrev P_law : List Str := ["_law_script"]
theorem sc_law : FnScope N_law P_law (defScope s_law) :=
  ⟨rfl, rfl, rfl, by decide +kernel, rfl, by decide +kernel, by decide +kernel⟩
structure Bt (mg : Str → Option Value) : Prop where
  abs : mg "abs" = none
  all : mg "all" = none
  int : mg "int" = none
  isinstance : mg "isinstance" = none
  len : mg "len" = none
  max : mg "max" = none
  min : mg "min" = none
  range : mg "range" = none
  repr : mg "repr" = none
  set : mg "set" = none
  sorted : mg "sorted" = none
  str : mg "str" = none
structure Cs (mg : Str → Option Value) : Prop where
  ALPHABET : ∃ t_ALPHABET, mg "ALPHABET" = some (.str "abcdefghijklmnopqrstuvwxyz" t_ALPHABET)
  MAX_LETTERS : ∃ t_MAX_LETTERS, mg "MAX_LETTERS" = some (.int 8 t_MAX_LETTERS)
  MAX_TEXT : ∃ t_MAX_TEXT, mg "MAX_TEXT" = some (.int 100000 t_MAX_TEXT)
structure Ad where
  (a_is_spelt : Addr)
  (d_is_spelt : FuncData)
  (a_is_name : Addr)
  (d_is_name : FuncData)
  (a_is_letter : Addr)
  (d_is_letter : FuncData)
  (a_is_text : Addr)
  (d_is_text : FuncData)
  (a_dice : Addr)
  (d_dice : FuncData)
  (a_roll : Addr)
  (d_roll : FuncData)
  (a_pick : Addr)
  (d_pick : FuncData)
  (a_texts : Addr)
  (d_texts : FuncData)
  (a_longer : Addr)
  (d_longer : FuncData)
  (a_signs : Addr)
  (d_signs : FuncData)
  (a_told : Addr)
  (d_told : FuncData)
  (a_due : Addr)
  (d_due : FuncData)
  (a_long : Addr)
  (d_long : FuncData)
  (a_law : Addr)
  (d_law : FuncData)
structure Ds (K : PySem.W.Frag) (mg : Str → Option Value) (Z : Ad) : Prop where
  is_spelt : Df K mg "is_spelt" s_is_spelt P_is_spelt Z.a_is_spelt Z.d_is_spelt
  is_name : Df K mg "is_name" s_is_name P_is_name Z.a_is_name Z.d_is_name
  is_letter : Df K mg "is_letter" s_is_letter P_is_letter Z.a_is_letter Z.d_is_letter
  is_text : Df K mg "is_text" s_is_text P_is_text Z.a_is_text Z.d_is_text
  dice : Df K mg "_law_dice" s_dice P_dice Z.a_dice Z.d_dice
  roll : Df K mg "_law_roll" s_roll P_roll Z.a_roll Z.d_roll
  pick : Df K mg "_law_pick" s_pick P_pick Z.a_pick Z.d_pick
  texts : Df K mg "_law_texts" s_texts P_texts Z.a_texts Z.d_texts
  longer : Df K mg "_law_longer" s_longer P_longer Z.a_longer Z.d_longer
  signs : Df K mg "_law_signs" s_signs P_signs Z.a_signs Z.d_signs
  told : Df K mg "_law_told" s_told P_told Z.a_told Z.d_told
  due : Df K mg "_law_due" s_due P_due Z.a_due Z.d_due
  long : Df K mg "_law_long" s_long P_long Z.a_long Z.d_long
  law : Df K mg "law" s_law P_law Z.a_law Z.d_law
local macro_rules | `(tactic| walk_at "rd") => `(tactic| try simp only [cx_K, cx_w, tRet, tSeq_eq, tAsg, tDrop, tIfS_eq, tNext, gName, gSub, tAndV, tOrV, tNotV, tB, tTest, tAnd, tOr, tNot, tIf, tCB, tCons, tNil, tVar, tC, tOp, tUn, tChain, rI0, rI, rU, tLst, tTup, tCall, tPar,
  tFor_eq, tLc_eq, iRng1, iRng2, iList, iTup, iStr, iZip, tRevL, tDisp, tPairs, tYes, wipe, id, rNe, rEq, scal_str, rIxS, tSM, tLM, rIxM, rLenM, rCat, rInt, rIntB, rSetL, rAppend, rExtend, rAllM, rRepS, rRng2, rInRng, atI0, atI1, atI2, ixN30, ixN32, upd_same, upd_upd,
  L2.start, List.map_cons, List.map_nil, List.length_cons, List.length_nil, List.reduceReplicate, List.replicate_succ, List.replicate_zero, Nat.reduceAdd, Nat.reduceSub, List.nil_append, List.cons_append, List.append_nil,
  List.getElem?_cons_zero, List.getElem?_cons_succ, List.set_cons_zero, List.set_cons_succ, Int.zero_add,
  Option.some.injEq, HO.lst.injEq, HO.tup.injEq, HO.rng.injEq, V.int.injEq, V.bl.injEq, V.str.injEq, V.ref.injEq, reduceCtorEq, exists_eq_left, exists_eq_left', exists_eq_right, exists_eq', exists_eq, exists_and_left, true_and, and_true, false_and, and_assoc, exists_false, List.cons.injEq, ↓reduceIte, if_true, if_false, Bool.false_eq_true, *])
local macro_rules | `(tactic| walk_at "go") => `(tactic| (refine later ?_; walk_at "rd"))
local macro_rules | `(tactic| walk_at "cj") => `(tactic| repeat (refine And.intro (by first | assumption | exact cpow60 | exact cpow59 | exact cpow17 | exact mul60 | decide | exact .inl ⟨by decide, by decide⟩ | exact .inr ⟨by decide, by decide⟩ | omega | exact ⟨by decide, by decide⟩) ?_))
/-! ### the dice -/
section
variable {P : Program} {w : World} {K : PySem.W.Frag} {mg : Str → Option Value} {base : Heap} {Z : Ad}
def spRoll : Sp := fun vs H Q _ => ∃ (d : Addr) (x y z n : Int), vs = [.ref d, .int n] ∧ H d = some (.lst [.int x, .int y, .int z]) ∧ 0 < n ∧ n.natAbs.log2 < 9000 ∧
  ∀ r x' y' z' : Int, 0 ≤ r → r < n → Q (.int r) (upd H d (.lst [.int x', .int y', .int z']))
theorem ok_roll (D : Ds K mg Z) (B : Bt mg) : FnOk P w K mg base CX0 1 Z.a_roll Z.d_roll P_roll spRoll := by
  refine D.roll.F.ok sc_roll (fun vs H Q E h => ?_) (fun cdv A outer s H vs Q E hr h => ?_)
  · obtain ⟨d, x, y, z, n, rfl, _⟩ := h
    rfl
  · obtain ⟨d, x, y, z, n, rfl, hd, hn, hlog, q⟩ := h
    refine ⟨_, (pss_cons (ps_if (pt_cmpR op_gt (pe_ix ix_M (pv 0) pe_int (fun _ _ => rfl)) pe_int (nomark _)) (pss_cons (ps_set (i := 2) sc_roll.nd rfl (Or.inl rfl) (pe_op op_mod (pe_callTy call_intI (by rfl) B.int (by decide +kernel) (pa_cons (pe_ix ix_M (pv 0) pe_int (fun _ _ => rfl)) pa_nil)) (pv 1)))
    (pss_cons (ps_asg (pe_op op_fdivW (pe_ix ix_M (pv 0) pe_int (fun _ _ => rfl)) (pv 1)) (pg_sub (pv 0) pe_int set_list))
    (pss_one (ps_ret (pv 2))))) pss_nil)
    (pss_cons (ps_asg (pe_op op_add (pe_ix ix_M (pv 0) pe_int (fun _ _ => rfl)) pe_int) (pg_sub (pv 0) pe_int set_list))
    (pss_cons (ps_set (i := 3) sc_roll.nd rfl (Or.inl rfl) (pe_op op_mod (pe_callTy call_intI (by rfl) B.int (by decide +kernel) (pa_cons (pe_op op_add (pe_ix ix_M (pv 0) pe_int (fun _ _ => rfl)) (pe_op op_mul pe_int (pe_ix ix_M (pv 0) pe_int (fun _ _ => rfl)))) pa_nil)) pe_int))
    (pss_cons (ps_set (i := 4) sc_roll.nd rfl (Or.inl rfl) (pe_op op_add (pe_op op_mul (pe_op op_mod (pe_callTy call_intI (by rfl) B.int (by decide +kernel) (pa_cons (pe_op op_add (pe_op op_mul (pv 3) (pv 3)) (pe_op op_mul pe_int (pe_ix ix_M (pv 0) pe_int (fun _ _ => rfl)))) pa_nil)) pe_int) pe_int) (pv 3)))
    (pss_one (ps_ret (pe_op op_mod (pe_callTy call_intI (by rfl) B.int (by decide +kernel) (pa_cons (pe_op op_fdivW (pv 4) pe_int) pa_nil)) (pv 1)))))))), ?_⟩
    walk_at "rd"
    have hdv : ∀ i : Int, CDivW i n := fun i => ⟨hn, hlog⟩
    have hm : ∀ i : Int, 0 ≤ i % n ∧ i % n < n := fun i => ⟨Int.emod_nonneg _ (by omega), Int.emod_lt_of_pos _ hn⟩
    refine ite2 (fun h => ?_) (fun h => ?_)
    · walk_at "go"
      walk_at "go"
      walk_at "go"
    · walk_at "go"
      walk_at "go"
      walk_at "go"
      refine ⟨.inl ⟨by decide, by decide⟩, by decide, ?_⟩
      have h1 := Int.emod_nonneg (y + 7907 * (z + 1)) (show (2305843009213693907 : Int) ≠ 0 by decide)
      have h2 := Int.emod_lt_of_pos (y + 7907 * (z + 1)) (show (0 : Int) < 2305843009213693907 by decide)
      generalize (y + 7907 * (z + 1)) % 2305843009213693907 = o at h1 h2 ⊢
      walk_at "go"
      have h3 := Int.emod_nonneg (o * o + 67 * (z + 1)) (show (2305843009213693921 : Int) ≠ 0 by decide)
      have h4 := Int.emod_lt_of_pos (o * o + 67 * (z + 1)) (show (0 : Int) < 2305843009213693921 by decide)
      refine ⟨.inl ⟨by omega, by omega⟩, .inl ⟨by decide, by decide⟩, by decide, .inr ⟨by decide, by decide⟩, ?_⟩
      walk_at "go"
      exact ⟨by decide, by decide⟩

def Items (H : Hp) (d : Addr) (it : V) (xs : List V) : Prop := (∃ l, it = .ref l ∧ l ≠ d ∧ H l = some (.lst xs)) ∨
  (∃ z : Str, it = .str z ∧ xs = z.cps.toList.map fun c => V.str ⟨#[c]⟩)
def spPick : Sp := fun vs H Q _ => ∃ (d : Addr) (x y z : Int) (it : V) (xs : List V), vs = [.ref d, it] ∧ H d = some (.lst [.int x, .int y, .int z]) ∧
  Items H d it xs ∧ 0 < xs.length ∧ xs.length ≤ 1000 ∧ ∀ v, v ∈ xs → ∀ x' y' z' : Int, Q v (upd H d (.lst [.int x', .int y', .int z']))
theorem ok_pick (D : Ds K mg Z) (B : Bt mg) : FnOk P w K mg base CX0 2 Z.a_pick Z.d_pick P_pick spPick := by
  have G_roll := ok_roll (P := P) (w := w) (base := base) D B
  refine D.pick.F.ok sc_pick (fun vs H Q E h => ?_) (fun cdv A outer s H vs Q E hr h => ?_)
  · obtain ⟨d, x, y, z, it, xs, rfl, _⟩ := h
    rfl
  · obtain ⟨d, x, y, z, it, xs, rfl, hd, hit, h0, h1, q⟩ := h
    refine ⟨_, (pss_one (ps_ret (pe_ix ix_seq (pv 1) (pe_df D.roll G_roll (hr.mono (by decide)) (by rfl) (pa_cons (pv 0) (pa_cons (pe_callB call_len (by rfl) B.len (by decide +kernel) (pa_cons (pv 1) pa_nil)) pa_nil))) (fun _ _ => rfl)))), ?_⟩
    have hlog : ((xs.length : Int)).natAbs.log2 < 9000 := Nat.lt_of_lt_of_le (log2_of (k := 10) (by omega) (by decide)) (by decide)
    have hat : ∀ r : Int, 0 ≤ r → r < (xs.length : Int) → ∃ v, v ∈ xs ∧ atI xs r = some v := by
      intro r r0 r1
      have hr' : r.toNat < xs.length := by omega
      refine ⟨xs[r.toNat], List.getElem_mem hr', ?_⟩
      exact L2.at_of (j := r.toNat) (by omega) (List.getElem?_eq_getElem hr')
    walk_at "rd"
    rcases hit with ⟨l, rfl, nl, hl⟩ | ⟨z', rfl, rfl⟩
    · refine ⟨xs.length, .inl ⟨xs, SqL.of hl, rfl⟩, ?_⟩
      refine ⟨d, x, y, z, _, rfl, hd, by omega, hlog, fun r x' y' z' r0 r1 => ?_⟩
      obtain ⟨v, hv, ha⟩ := hat r r0 r1
      exact .inl ⟨l, xs, r, v, rfl, rfl, SqL.of (by rw [upd_ne nl]; exact hl), ha, q v hv _ _ _⟩
    · rw [List.length_map] at h0 h1
      have ez : z'.length = z'.cps.toList.length := len_tl' z'
      have hz : z'.length ≤ sizeLine := Nat.le_trans (show z'.length ≤ 1000 by omega) (by decide)
      rw [List.length_map, ← ez] at hat hlog
      refine ⟨z'.length, ⟨hz, rfl⟩, ?_⟩
      refine ⟨d, x, y, z, _, rfl, hd, by omega, hlog, fun r x' y' w' r0 r1 => ?_⟩
      have hr' : r.toNat < z'.cps.toList.length := by omega
      have ha : atI z'.cps.toList r = some z'.cps.toList[r.toNat] := atI_of r0 hr'
      refine .inr (.inr ⟨z', r, z'.cps.toList[r.toNat], rfl, rfl, hz, ha, ?_⟩)
      exact q _ (List.mem_map.mpr ⟨_, List.getElem_mem hr', rfl⟩) _ _ _

def spDice (K : PySem.W.Frag) : Sp := fun vs H Q _ => ∃ (a : Addr) (ns : List Int) (i : Nat), vs = [.ref a, .int (i : Int)] ∧ SqL K H a (ns.map V.int) ∧
  ∀ (p : Addr) (x y : Int), H p = none → Q (.ref p) (upd H p (.lst [.int x, .int y, .int 0]))
theorem ok_dice (D : Ds K mg Z) (B : Bt mg) : FnOk P w K mg base CX0 1 Z.a_dice Z.d_dice P_dice (spDice K) := by
  refine D.dice.F.ok sc_dice (fun vs H Q E h => ?_) (fun cdv A outer s H vs Q E hr h => ?_)
  · obtain ⟨a, ns, i, rfl, _⟩ := h
    rfl
  · obtain ⟨a, ns, i, rfl, hS, q⟩ := h
    refine ⟨_, (pss_cons (ps_set (i := 2) sc_dice.nd rfl (Or.inl rfl) (pe_ifExp (pt_cmpR op_lt (pv 1) (pe_callB call_len_seq (by rfl) B.len (by decide +kernel) (pa_cons (pv 0) pa_nil)) (nomark _)) (pe_callTy call_intI (by rfl) B.int (by decide +kernel) (pa_cons (pe_ix ix_list (pv 0) (pv 1) (fun _ _ => rfl)) pa_nil)) (pe_op op_add (pe_op op_mul pe_int (pv 1)) pe_int)))
    (pss_cons (ps_set (i := 3) sc_dice.nd rfl (Or.inl rfl) (pe_op op_mod (pe_callB call_abs (by rfl) B.abs (by decide +kernel) (pa_cons (pv 2) pa_nil)) (pe_op op_pow pe_int pe_int)))
    (pss_cons (ps_set (i := 4) sc_dice.nd rfl (Or.inl rfl) (pe_callB (call_max2 rfl) (by rfl) B.max (by decide +kernel) (pa_cons pe_int (pa_cons (pe_op op_sub (pe_callB call_abs (by rfl) B.abs (by decide +kernel) (pa_cons (pv 2) pa_nil)) (pe_op op_pow pe_int pe_int)) pa_nil))))
    (pss_one (ps_ret (pe_lst (pa_cons (pe_op op_mod (pv 4) (pe_op op_mulW (pe_op op_pow pe_int pe_int) (pe_op op_pow pe_int pe_int))) (pa_cons (pe_op op_add (pe_op op_add (pe_op op_add (pe_op op_mul (pe_op op_mod (pv 3) pe_int) pe_int) (pe_op op_mul pe_int (pv 1))) (pe_op op_mul pe_int (pe_callTy call_intB (by rfl) B.int (by decide +kernel) (pa_cons (pe_cmpR op_lt (pv 2) pe_int (nomark _)) pa_nil)))) pe_int) (pa_cons pe_int pa_nil))))))))), ?_⟩
    walk_at "rd"
    refine ⟨_, .inl hS, ?_⟩
    rw [List.length_map]
    have cut : ∀ (A B : Prop) (c : Bool), (c = true → A) → (c = false → B) → if c = true then A else B := by
      intro A B c h1 h2
      cases c
      · exact h2 rfl
      · exact h1 rfl
    refine cut _ _ _ (fun h => ?_) (fun h => ?_)
    · have hi : i < ns.length := by have := of_decide_eq_true h; omega
      refine ⟨a, _, _, .int ns[i], rfl, rfl, hS, L2.at_of rfl (by rw [List.getElem?_map, List.getElem?_eq_getElem hi]; rfl), ?_⟩
      walk_at "rd"
      generalize ns[i] = c
      walk_at "go"
      refine ⟨cpow59, by decide, ?_⟩
      walk_at "go"
      refine ⟨cpow17, ?_⟩
      walk_at "go"
      walk_at "cj"
      exact fun p hp => q p _ _ hp
    · refine ⟨.inl ⟨by decide, by decide⟩, ?_⟩
      generalize 43 * (i : Int) + 7 = c
      walk_at "go"
      refine ⟨cpow59, by decide, ?_⟩
      walk_at "go"
      refine ⟨cpow17, ?_⟩
      walk_at "go"
      walk_at "cj"
      exact fun p hp => q p _ _ hp

end
/-! ### words -/
def alpha : Str := "abcdefghijklmnopqrstuvwxyz"
def spelt : V → Bool
  | .str x => (TL.tl x).all fun c => decide (c ∈ TL.tl alpha)
  | _ => false
def lenV : V → Nat
  | .str x => x.length
  | _ => 0
def isName (v : V) : Bool := spelt v && (decide (1 ≤ lenV v) && decide (lenV v ≤ 8))
def isLetter (v : V) : Bool := spelt v && decide (lenV v = 1)
def isText (v : V) : Bool := spelt v && decide (lenV v ≤ 100000)
/-- a plain value, a text of at most a million signs -/
def Ok1 (K : PySem.W.Frag) (H : Hp) (v : V) : Prop := (∃ t, Pl K H v t) ∧ lenV v ≤ 1000000
theorem Ok1.same {K : PySem.W.Frag} {H H' : Hp} {v : V} (e : Same H H') (h : Ok1 K H v) : Ok1 K H' v := by
  obtain ⟨⟨t, p⟩, z⟩ := h
  exact ⟨⟨t, p.same e⟩, z⟩
def sp1 (K : PySem.W.Frag) (f : V → Bool) : Sp := fun vs H Q _ => ∃ v, vs = [v] ∧ Ok1 K H v ∧ ∀ H', Same H H' → Q (.bl (f v)) H'

section
variable {P : Program} {w : World} {K : PySem.W.Frag} {mg : Str → Option Value} {base : Heap} {Z : Ad}
theorem ok_is_spelt (D : Ds K mg Z) (B : Bt mg) (C0 : Cs mg) : FnOk P w K mg base CX0 1 Z.a_is_spelt Z.d_is_spelt P_is_spelt (sp1 K spelt) := by
  obtain ⟨⟨t_ALPHABET, c_ALPHABET⟩, ⟨t_MAX_LETTERS, c_MAX_LETTERS⟩, ⟨t_MAX_TEXT, c_MAX_TEXT⟩⟩ := C0
  refine D.is_spelt.F.ok sc_is_spelt (fun vs H Q E h => ?_) (fun cdv A outer s H vs Q E hr h => ?_)
  · obtain ⟨v, rfl, _⟩ := h
    rfl
  · obtain ⟨v, rfl, ⟨⟨t, pl⟩, hz⟩, q⟩ := h
    refine ⟨_, (pss_one (ps_ret (pe_and (pe_callB (call_isiK' (K := K) rfl) (by rfl) B.isinstance (by decide +kernel) (pa_cons (pv 0) (pa_cons (pe_bltn (v := .ty "str") (by rfl) B.str (by decide +kernel) rfl) pa_nil))) (pe_one (pe_callB (cr_allM rfl) (by rfl) B.all (by decide +kernel) (pa_cons (pe_lc (own := [("letter", 1)]) (g := gName 1) rfl sc_is_spelt.nd (pi_str (pv 0)) (blkOk_by (N := N_is_spelt) (sc := defScope s_is_spelt) (by decide +kernel)) (fun _ _ _ _ _ => (pg_name (i := 1) sc_is_spelt.nd rfl (Or.inl rfl))) (fun _ _ _ _ _ => pts_nil) (fun _ _ _ _ _ => (pe_cmpR op_sgn (pv 1) (pe_glob (v := .str _) (by rfl) c_ALPHABET ⟨_, rfl⟩) (by rfl)))) pa_nil)))))), ?_⟩
    walk_at "rd"
    refine rd_isi pl (isi_str pl) ?_
    walk_at "rd"
    cases pl with
    | str x =>
      rw [if_pos (by decide)]
      walk_at "rd"
      refine lc_mapW (walk_signs x) (fun _ _ => trivial) (by rw [signs_len]; exact hz) (fun v => match v with | .str y => .bl (decide (y.cps.getD 0 0 ∈ TL.tl alpha)) | _ => .non) (fun x => rfl) ?_ ?_
      · intro v hv H1 e1 R hR
        obtain ⟨c, _, rfl⟩ := List.mem_map.mp hv
        walk_at "rd"
        refine ⟨c, alpha, rfl, rfl, ?_⟩
        exact hR H1 (Same.refl _)
      · intro p H2 hp e2 hl
        refine ⟨p, rfl, (TL.tl x).map (fun c => decide (c ∈ TL.tl alpha)), ?_, ?_⟩
        · rw [hl]
          unfold LP.signs sgn
          rw [List.map_map, List.map_map]
          rfl
        · have r := q H2 e2
          have e : ((TL.tl x).map (fun c => decide (c ∈ TL.tl alpha))).all id = spelt (.str x) := by
            rw [List.all_map]
            rfl
          rw [e]
          exact r
    | _ =>
      rw [if_neg (by decide)]
      exact q H (Same.refl _)

theorem ok_is_name (D : Ds K mg Z) (B : Bt mg) (C0 : Cs mg) : FnOk P w K mg base CX0 2 Z.a_is_name Z.d_is_name P_is_name (sp1 K isName) := by
  have G_is_spelt := ok_is_spelt (P := P) (w := w) (base := base) D B C0
  obtain ⟨⟨t_ALPHABET, c_ALPHABET⟩, ⟨t_MAX_LETTERS, c_MAX_LETTERS⟩, ⟨t_MAX_TEXT, c_MAX_TEXT⟩⟩ := C0
  refine D.is_name.F.ok sc_is_name (fun vs H Q E h => ?_) (fun cdv A outer s H vs Q E hr h => ?_)
  · obtain ⟨v, rfl, _⟩ := h
    rfl
  · obtain ⟨v, rfl, ok, q⟩ := h
    refine ⟨_, (pss_one (ps_ret (pe_and (pe_df D.is_spelt G_is_spelt (hr.mono (by decide)) (by rfl) (pa_cons (pv 0) pa_nil)) (pe_one (pe_chain op_le op_le pe_int (pe_callB call_len_str (by rfl) B.len (by decide +kernel) (pa_cons (pv 0) pa_nil)) (pe_glob (v := .int _) (by rfl) c_MAX_LETTERS ⟨_, rfl⟩)))))), ?_⟩
    walk_at "rd"
    refine ⟨v, rfl, ok, fun H1 e1 => ?_⟩
    walk_at "rd"
    replace q := q H1 e1
    unfold isName at q
    refine ite2 (fun h => ?_) (fun h => ?_)
    · cases v with
      | str x =>
        rw [h, Bool.true_and] at q
        walk_at "rd"
        refine ⟨Nat.le_trans ok.2 (by decide), ?_⟩
        have e1 : decide ((1 : Int) ≤ (x.length : Int)) = decide (1 ≤ lenV (.str x)) := decide_eq_decide.mpr (by show _ ↔ 1 ≤ x.length; omega)
        have e2 : decide ((x.length : Int) ≤ 8) = decide (lenV (.str x) ≤ 8) := decide_eq_decide.mpr (by show _ ↔ x.length ≤ 8; omega)
        rw [e1, e2]
        refine ite2 (fun h => ?_) (fun h => ?_)
        · rw [h, Bool.true_and] at q
          exact q
        · rw [Bool.eq_false_iff.mpr h, Bool.false_and] at q
          exact q
      | _ => cases h
    · rw [Bool.eq_false_iff.mpr h, Bool.false_and] at q
      exact q
theorem ok_is_letter (D : Ds K mg Z) (B : Bt mg) (C0 : Cs mg) : FnOk P w K mg base CX0 2 Z.a_is_letter Z.d_is_letter P_is_letter (sp1 K isLetter) := by
  have G_is_spelt := ok_is_spelt (P := P) (w := w) (base := base) D B C0
  obtain ⟨⟨t_ALPHABET, c_ALPHABET⟩, ⟨t_MAX_LETTERS, c_MAX_LETTERS⟩, ⟨t_MAX_TEXT, c_MAX_TEXT⟩⟩ := C0
  refine D.is_letter.F.ok sc_is_letter (fun vs H Q E h => ?_) (fun cdv A outer s H vs Q E hr h => ?_)
  · obtain ⟨v, rfl, _⟩ := h
    rfl
  · obtain ⟨v, rfl, ok, q⟩ := h
    refine ⟨_, (pss_one (ps_ret (pe_and (pe_df D.is_spelt G_is_spelt (hr.mono (by decide)) (by rfl) (pa_cons (pv 0) pa_nil)) (pe_one (pe_cmpR op_eq (pe_callB call_len_str (by rfl) B.len (by decide +kernel) (pa_cons (pv 0) pa_nil)) pe_int (nomark _)))))), ?_⟩
    walk_at "rd"
    refine ⟨v, rfl, ok, fun H1 e1 => ?_⟩
    walk_at "rd"
    replace q := q H1 e1
    unfold isLetter at q
    refine ite2 (fun h => ?_) (fun h => ?_)
    · cases v with
      | str x =>
        rw [h, Bool.true_and] at q
        walk_at "rd"
        refine ⟨Nat.le_trans ok.2 (by decide), rfl, ?_⟩
        have e1 : decide ((x.length : Int) = 1) = decide (lenV (.str x) = 1) := decide_eq_decide.mpr (by show _ ↔ x.length = 1; omega)
        rw [e1]
        exact q
      | _ => cases h
    · rw [Bool.eq_false_iff.mpr h, Bool.false_and] at q
      exact q
theorem ok_is_text (D : Ds K mg Z) (B : Bt mg) (C0 : Cs mg) : FnOk P w K mg base CX0 2 Z.a_is_text Z.d_is_text P_is_text (sp1 K isText) := by
  have G_is_spelt := ok_is_spelt (P := P) (w := w) (base := base) D B C0
  obtain ⟨⟨t_ALPHABET, c_ALPHABET⟩, ⟨t_MAX_LETTERS, c_MAX_LETTERS⟩, ⟨t_MAX_TEXT, c_MAX_TEXT⟩⟩ := C0
  refine D.is_text.F.ok sc_is_text (fun vs H Q E h => ?_) (fun cdv A outer s H vs Q E hr h => ?_)
  · obtain ⟨v, rfl, _⟩ := h
    rfl
  · obtain ⟨v, rfl, ok, q⟩ := h
    refine ⟨_, (pss_one (ps_ret (pe_and (pe_df D.is_spelt G_is_spelt (hr.mono (by decide)) (by rfl) (pa_cons (pv 0) pa_nil)) (pe_one (pe_cmpR op_le (pe_callB call_len_str (by rfl) B.len (by decide +kernel) (pa_cons (pv 0) pa_nil)) (pe_glob (v := .int _) (by rfl) c_MAX_TEXT ⟨_, rfl⟩) (nomark _)))))), ?_⟩
    walk_at "rd"
    refine ⟨v, rfl, ok, fun H1 e1 => ?_⟩
    walk_at "rd"
    replace q := q H1 e1
    unfold isText at q
    refine ite2 (fun h => ?_) (fun h => ?_)
    · cases v with
      | str x =>
        rw [h, Bool.true_and] at q
        walk_at "rd"
        refine ⟨Nat.le_trans ok.2 (by decide), ?_⟩
        have e1 : decide ((x.length : Int) ≤ 100000) = decide (lenV (.str x) ≤ 100000) := decide_eq_decide.mpr (by show _ ↔ x.length ≤ 100000; omega)
        rw [e1]
        exact q
      | _ => cases h
    · rw [Bool.eq_false_iff.mpr h, Bool.false_and] at q
      exact q

/-! ### told and due -/
def spTold (K : PySem.W.Frag) : Sp := fun vs H Q _ => ∃ v, vs = [v] ∧ Ok1 K H v ∧ ∀ p H', H p = none → Same H H' → H' p = some (.lst [.bl (isName v), .bl (isLetter v), .bl (isText v)]) → Q (.ref p) H'
theorem ok_told (D : Ds K mg Z) (B : Bt mg) (C0 : Cs mg) : FnOk P w K mg base CX0 3 Z.a_told Z.d_told P_told (spTold K) := by
  have G_is_name := ok_is_name (P := P) (w := w) (base := base) D B C0
  have G_is_letter := ok_is_letter (P := P) (w := w) (base := base) D B C0
  have G_is_text := ok_is_text (P := P) (w := w) (base := base) D B C0
  refine D.told.F.ok sc_told (fun vs H Q E h => ?_) (fun cdv A outer s H vs Q E hr h => ?_)
  · obtain ⟨v, rfl, _⟩ := h
    rfl
  · obtain ⟨v, rfl, ok, q⟩ := h
    refine ⟨_, (pss_one (ps_ret (pe_lst (pa_cons (pe_df D.is_name G_is_name (hr.mono (by decide)) (by rfl) (pa_cons (pv 0) pa_nil)) (pa_cons (pe_df D.is_letter G_is_letter (hr.mono (by decide)) (by rfl) (pa_cons (pv 0) pa_nil)) (pa_cons (pe_df D.is_text G_is_text (hr.mono (by decide)) (by rfl) (pa_cons (pv 0) pa_nil)) pa_nil)))))), ?_⟩
    walk_at "rd"
    refine ⟨v, rfl, ok, fun H1 e1 => ?_⟩
    walk_at "rd"
    refine ⟨v, rfl, ok.same e1, fun H2 e2 => ?_⟩
    walk_at "rd"
    refine ⟨v, rfl, ok.same (e1.trans e2), fun H3 e3 => ?_⟩
    walk_at "rd"
    refine ⟨by decide, fun p hp => ?_⟩
    have e := (e1.trans e2).trans e3
    exact q p _ (e.free hp) (e.trans (Same.new hp)) upd_same
theorem clean_eq (x : Str) : decide (Txt.stripChars x alpha = Str.ofString "") = spelt (.str x) := by
  have h := strip_nil x alpha
  have e : (Txt.stripChars x alpha = Str.ofString "") ↔ (Txt.stripChars x alpha).length = 0 := by
    constructor
    · intro z
      rw [z]
      decide +kernel
    · intro z
      rw [len_tl'] at z
      have z2 : TL.tl (Txt.stripChars x alpha) = [] := List.length_eq_zero_iff.mp z
      have e0 : Str.ofString "" = ⟨#[]⟩ := by decide +kernel
      rw [e0]
      cases hx : Txt.stripChars x alpha with
      | mk cps =>
        rw [hx] at z2
        have z3 : cps.toList = [] := z2
        rw [Array.toList_eq_nil_iff] at z3
        rw [z3]
  rw [decide_eq_decide.mpr (e.trans h)]
  show _ = (TL.tl x).all fun c => decide (c ∈ TL.tl alpha)
  rw [Bool.eq_iff_iff, decide_eq_true_iff, List.all_eq_true]
  constructor
  · intro k c hc
    have := k c hc
    rw [Array.contains_iff_mem] at this
    exact decide_eq_true (Array.mem_toList_iff.mpr this)
  · intro k c hc
    have := of_decide_eq_true (k c hc)
    rw [Array.contains_iff_mem]
    exact Array.mem_toList_iff.mp this
def spDue : Sp := fun vs H Q _ => ∃ x : Str, vs = [.str x] ∧ x.length ≤ 1000000 ∧ ∀ p H', H p = none → Same H H' → H' p = some (.lst [.bl (isName (.str x)), .bl (isLetter (.str x)), .bl (isText (.str x))]) → Q (.ref p) H'
theorem ok_due (D : Ds K mg Z) (B : Bt mg) : FnOk P w K mg base CX0 1 Z.a_due Z.d_due P_due spDue := by
  refine D.due.F.ok sc_due (fun vs H Q E h => ?_) (fun cdv A outer s H vs Q E hr h => ?_)
  · obtain ⟨v, rfl, _⟩ := h
    rfl
  · obtain ⟨x, rfl, hz, q⟩ := h
    refine ⟨_, (pss_cons (ps_set (i := 1) sc_due.nd rfl (Or.inl rfl) (pe_sm PySem.F.plainAttrs_str PySem.F.slot_str_strip PySem.F.type_str_strip mt_stripChars (pv 0) (pa_cons pe_str pa_nil)))
    (pss_cons (ps_set (i := 2) sc_due.nd rfl (Or.inl rfl) (pe_cmpR op_eq (pv 1) pe_str (nomark _)))
    (pss_one (ps_ret (pe_lst (pa_cons (pe_and (pv 2) (pe_one (pe_cmpR op_inRng (pe_callB call_len_str (by rfl) B.len (by decide +kernel) (pa_cons (pv 0) pa_nil)) (pe_callTy cr_rng2 (by rfl) B.range (by decide +kernel) (pa_cons pe_int (pa_cons pe_int pa_nil))) (by rfl)))) (pa_cons (pe_and (pv 2) (pe_one (pe_cmpR op_eq (pe_callB call_len_str (by rfl) B.len (by decide +kernel) (pa_cons (pv 0) pa_nil)) pe_int (nomark _)))) (pa_cons (pe_and (pv 2) (pe_one (pe_cmpR op_le (pe_callB call_len_str (by rfl) B.len (by decide +kernel) (pa_cons (pv 0) pa_nil)) pe_int (nomark _)))) pa_nil)))))))), ?_⟩
    have hz2 : x.length ≤ sizeLine := Nat.le_trans hz (by decide)
    have ec := clean_eq x
    unfold alpha at ec
    walk_at "rd"
    walk_at "go"
    have n1 : isName (.str x) = (spelt (.str x) && decide ((1 : Int) ≤ (x.length : Int) ∧ (x.length : Int) < 9)) := by
      unfold isName
      rw [← Bool.decide_and]
      refine congrArg _ (decide_eq_decide.mpr ?_)
      show (1 ≤ x.length ∧ x.length ≤ 8) ↔ _
      omega
    have n2 : isLetter (.str x) = (spelt (.str x) && decide ((x.length : Int) = 1)) := by
      unfold isLetter
      refine congrArg _ (decide_eq_decide.mpr ?_)
      show x.length = 1 ↔ _
      omega
    have n3 : isText (.str x) = (spelt (.str x) && decide ((x.length : Int) ≤ 100000)) := by
      unfold isText
      refine congrArg _ (decide_eq_decide.mpr ?_)
      show x.length ≤ 100000 ↔ _
      omega
    rw [n1, n2, n3] at q
    cases hc : spelt (.str x) with
    | true =>
      rw [hc] at q
      simp only [Bool.true_and] at q
      walk_at "go"
      intro p hp
      refine ⟨rfl, by decide, fun p1 hp1 => ?_⟩
      obtain ⟨k1, k2⟩ := upd_none.mp hp1
      exact q p1 _ k2 ((Same.new hp).trans (Same.new hp1)) upd_same
    | false =>
      rw [hc] at q
      simp only [Bool.false_and] at q
      walk_at "go"
      refine ⟨by decide, fun p hp => q p _ hp (Same.new hp) upd_same⟩

/-! ### texts -/
def Strs (H : Hp) (a : Addr) (xs : List Str) (m : Nat) : Prop := H a = some (.lst (xs.map V.str)) ∧ ∀ x, x ∈ xs → x.length ≤ m
theorem Strs.same {H H' : Hp} {a : Addr} {xs : List Str} {m : Nat} (e : Same H H') (h : Strs H a xs m) : Strs H' a xs m := ⟨e _ _ h.1, h.2⟩
def spLonger : Sp := fun vs H Q _ => ∃ (a b : Addr) (xs ys : List Str) (m : Nat), vs = [.ref a, .ref b] ∧ Strs H a xs m ∧ Strs H b ys 1 ∧ xs.length ≤ 1000 ∧ ys.length ≤ 5 ∧ m ≤ 1000 ∧
  ∀ (p : Addr) (H' : Hp) (zs : List Str), H p = none → Same H H' → Strs H' p zs (m + 1) → zs.length = xs.length * ys.length → Q (.ref p) H'
theorem len_add (x y : Str) : (x ++ y).length = x.length + y.length := by
  show (x.cps ++ y.cps).size = _
  rw [Array.size_append]
  rfl
theorem ok_longer (D : Ds K mg Z) (B : Bt mg) : FnOk P w K mg base CX0 1 Z.a_longer Z.d_longer P_longer spLonger := by
  refine D.longer.F.ok sc_longer (fun vs H Q E h => ?_) (fun cdv A outer s H vs Q E hr h => ?_)
  · obtain ⟨a, b, xs, ys, m, rfl, _⟩ := h
    rfl
  · obtain ⟨a, b, xs, ys, m, rfl, ha, hb, hx, hy, hm, q⟩ := h
    refine ⟨_, (pss_cons (ps_set (i := 2) sc_longer.nd rfl (Or.inl rfl) (pe_lst pa_nil))
    (pss_cons (ps_for PassesOwn.never rfl (pi_list (pv 0)) (pg_name (i := 3) sc_longer.nd rfl (Or.inr rfl))
      (pss_one (ps_expr (pe_lm PySem.F.plainAttrs_list PySem.F.slot_list_extend PySem.F.type_list_extend mt_extend (pv 2) (pa_cons (pe_lc (own := [("_law_letter", 4)]) (g := gName 4) rfl sc_longer.nd (pi_list (pv 1)) (blkOk_by (N := N_longer) (sc := defScope s_longer) (by decide +kernel)) (fun _ _ _ _ _ => (pg_name (i := 4) sc_longer.nd rfl (Or.inl rfl))) (fun _ _ _ _ _ => pts_nil) (fun _ _ _ _ _ => (pe_op op_add_str (pv 3) (pv 4)))) pa_nil)))))
    (pss_one (ps_ret (pv 2))))), ?_⟩
    walk_at "rd"
    refine ⟨by decide, fun f hf => ?_⟩
    walk_at "go"
    have s1 : Same H (upd H f (.lst [])) := Same.new hf
    refine ⟨⟨_, SqL.of (s1 _ _ ha.1)⟩, ?_⟩
    obtain ⟨Pv, hP⟩ := inv_of (fun (i : Nat) (σ : St) (H' : Hp) => ∃ (zs : List Str) (o3 o4 : Option V), σ = [some (.ref a), some (.ref b), some (.ref f), o3, o4] ∧ Same H H' ∧ Strs H' f zs (m + 1) ∧ zs.length = i * ys.length)
    refine loop_list (xs := xs.map V.str) Pv ((hP _ _ _).mpr ⟨[], _, _, rfl, s1, ⟨upd_same, fun x hx => by cases hx⟩, by simp⟩) ?_ ?_ ?_
    · intro i σ H1 _ h
      obtain ⟨zs, o3, o4, rfl, e, _⟩ := (hP _ _ _).mp h
      exact SqL.of (e _ _ ha.1)
    · intro i v σ H1 hv h
      obtain ⟨zs, o3, o4, rfl, e1, hz, hl⟩ := (hP _ _ _).mp h
      clear h
      obtain ⟨x, hxm, rfl⟩ := List.mem_map.mp (List.mem_of_getElem? hv)
      have hi : i < xs.length := by
        have := (List.getElem?_eq_some_iff.mp hv).1
        rw [List.length_map] at this
        exact this
      have hz1 := hz.1
      walk_at "rd"
      walk_at "go"
      have hb1 := e1 _ _ hb.1
      refine ⟨⟨_, SqL.of hb1⟩, ?_⟩
      refine lc_mapW (walk_list (K := K) (a := b) (xs := ys.map V.str)) (fun H2 e2 => SqL.of (e2 _ _ hb1)) (by rw [List.length_map]; omega)
        (fun v => match v with | .str y => .str (x ++ y) | _ => .non) (fun x => rfl) ?_ ?_
      · intro v hv H2 e2 R hR
        obtain ⟨y, hym, rfl⟩ := List.mem_map.mp hv
        have h1 := ha.2 x hxm
        have h2 := hb.2 y hym
        walk_at "rd"
        exact ⟨Nat.le_trans (show x.length + y.length ≤ 2000 by omega) (by decide), hR H2 (Same.refl _)⟩
      · intro p H2 hp e2 hl2
        rw [List.map_map] at hl2
        have hl3 : H2 p = some (.lst ((ys.map fun y => x ++ y).map V.str)) := by
          rw [List.map_map]
          exact hl2
        have hf2 := e2 _ _ hz1
        clear hl2
        walk_at "rd"
        refine ⟨?_, ?_, zs ++ ys.map (fun y => x ++ y), ⟨?_, ?_⟩, ?_⟩
        · rw [List.length_map, List.length_map, List.length_map, hl]
          have : i * ys.length ≤ 1000 * 5 := Nat.mul_le_mul (by omega) hy
          exact Nat.le_trans (show i * ys.length + ys.length ≤ 6000 by omega) (by decide)
        · intro b' o e
          rw [upd_ne (ne_of_none e hf)]
          exact e2 _ _ (e1 _ _ e)
        · rw [upd_same, List.map_append]
        · intro z hz'
          rcases List.mem_append.mp hz' with h | h
          · exact hz.2 z h
          · obtain ⟨y, hym, rfl⟩ := List.mem_map.mp h
            rw [len_add]
            have h1 := ha.2 x hxm
            have h2 := hb.2 y hym
            omega
        · rw [List.length_append, List.length_map, hl, Nat.succ_mul]
    · intro σ H1 h
      obtain ⟨zs, o3, o4, rfl, e1, hz, hl⟩ := (hP _ _ _).mp h
      clear h
      rw [List.length_map] at hl
      walk_at "go"
      walk_at "go"
      exact q f H1 zs hf e1 hz hl

def spTexts : Sp := fun vs H Q _ => ∃ (b : Addr) (ys : List Str), vs = [.ref b, .int 4] ∧ Strs H b ys 1 ∧ ys.length ≤ 5 ∧
  ∀ (p : Addr) (H' : Hp) (zs : List Str), H p = none → Same H H' → Strs H' p zs 10 → zs.length ≤ 5000 → Q (.ref p) H'
theorem pow5 (i : Nat) (n : Nat) (h : n ≤ 5 ^ i) (hi : i < 4) (m : Nat) (hm : m ≤ 5) : n * m ≤ 5 ^ (i + 1) := by
  rw [Nat.pow_succ]
  exact Nat.mul_le_mul h hm
theorem ok_texts (D : Ds K mg Z) (B : Bt mg) : FnOk P w K mg base CX0 2 Z.a_texts Z.d_texts P_texts spTexts := by
  have G_longer := ok_longer (P := P) (w := w) (base := base) D B
  refine D.texts.F.ok sc_texts (fun vs H Q E h => ?_) (fun cdv A outer s H vs Q E hr h => ?_)
  · obtain ⟨b, ys, rfl, _⟩ := h
    rfl
  · obtain ⟨b, ys, rfl, hb, hy, q⟩ := h
    refine ⟨_, (pss_cons (ps_par (i := 2) (j := 3) (by rfl) sc_texts.nd rfl rfl (by decide) rfl rfl (pa_cons (pe_lst (pa_cons pe_str pa_nil)) (pa_cons (pe_lst (pa_cons pe_str pa_nil)) pa_nil)) (by rfl))
    (pss_cons (ps_for PassesOwn.never rfl (pi_range1 (by rfl) B.range (pa_cons (pv 1) pa_nil)) (pg_name (i := 4) sc_texts.nd rfl (Or.inl rfl))
      (pss_cons (ps_set (i := 2) sc_texts.nd rfl (Or.inl rfl) (pe_df D.longer G_longer (hr.mono (by decide)) (by rfl) (pa_cons (pv 2) (pa_cons (pv 0) pa_nil))))
    (pss_one (ps_set (i := 3) sc_texts.nd rfl (Or.inl rfl) (pe_op op_cat (pv 3) (pv 2))))))
    (pss_one (ps_ret (pv 3))))), ?_⟩
    walk_at "rd"
    refine ⟨by decide, fun l hl => ⟨by decide, fun f hf => ?_⟩⟩
    walk_at "go"
    refine ⟨by decide, by decide, ?_⟩
    have s1 : Same H (upd (upd H l (.lst [.str (Str.ofString "")])) f (.lst [.str (Str.ofString "")])) := (Same.new hl).trans (Same.new hf)
    have e0 : (Str.ofString "").length = 0 := by decide +kernel
    obtain ⟨fl, hf0⟩ := upd_none.mp hf
    obtain ⟨Pv, hP⟩ := inv_of (fun (i : Nat) (σ : St) (H' : Hp) => ∃ (l f : Addr) (xs zs : List Str) (o4 : Option V), σ = [some (.ref b), some (.int 4), some (.ref l), some (.ref f), o4] ∧ Same H H' ∧ H f = none ∧ Strs H' l xs i ∧ Strs H' f zs 10 ∧ xs.length ≤ 5 ^ i ∧ zs.length ≤ 1 + 625 * i)
    refine loop_range Pv ((hP _ _ _).mpr ⟨l, f, [""], [""], _, rfl, s1, hf0, ⟨?_, ?_⟩, ⟨upd_same, ?_⟩, by decide, by decide⟩) ?_ ?_
    · rw [upd_ne fl.symm, upd_same]
      rfl
    · intro x hx
      rw [List.mem_singleton.mp hx, e0]
      exact Nat.le_refl _
    · intro x hx
      rw [List.mem_singleton.mp hx, e0]
      decide
    · intro i σ H1 hi h
      obtain ⟨l, f, xs, zs, o4, rfl, e1, hf0, hx, hz, lx, lz⟩ := (hP _ _ _).mp h
      clear h
      have hi4 : i < 4 := hi
      have l625 : xs.length ≤ 625 := Nat.le_trans lx (Nat.pow_le_pow_right (by decide) (show i ≤ 4 by omega))
      walk_at "rd"
      walk_at "go"
      refine ⟨l, b, xs, ys, i, rfl, hx, hb.same e1, by omega, hy, by omega, fun p H2 ws hp e2 hw hlw => ?_⟩
      walk_at "rd"
      walk_at "go"
      have hz2 := (hz.same e2).1
      have hw2 := hw.1
      have lw : ws.length ≤ 5 ^ (i + 1) := by
        rw [hlw]
        exact pow5 i _ lx hi4 _ hy
      have lw2 : ws.length ≤ 625 := Nat.le_trans lw (Nat.pow_le_pow_right (by decide) (show i + 1 ≤ 4 by omega))
      walk_at "rd"
      refine ⟨?_, fun p2 hp2 => ⟨(e1.trans e2).trans (Same.new hp2), (e1.trans e2).free hp2, ws, hw.same (Same.new hp2), zs ++ ws, ⟨?_, ?_⟩, lw, ?_⟩⟩
      · rw [List.length_map, List.length_map]
        exact Nat.le_trans (show zs.length + ws.length ≤ 4000 by omega) (by decide)
      · rw [upd_same, List.map_append]
      · intro z hz'
        rcases List.mem_append.mp hz' with h | h
        · exact hz.2 z h
        · exact Nat.le_trans (hw.2 z h) (by omega)
      · rw [List.length_append]
        omega
    · intro σ H1 h
      obtain ⟨l, f, xs, zs, o4, rfl, e1, hf0, hx, hz, lx, lz⟩ := (hP _ _ _).mp h
      clear h
      walk_at "go"
      walk_at "go"
      exact q f H1 zs hf0 e1 hz (Nat.le_trans lz (by decide))

/-! ### draws that change the dice alone -/
def DK (d : Addr) (H H' : Hp) : Prop := (∀ b o, b ≠ d → H b = some o → H' b = some o) ∧ ∃ x y z : Int, H' d = some (.lst [.int x, .int y, .int z])
theorem DK.refl {d : Addr} {H : Hp} {x y z : Int} (h : H d = some (.lst [.int x, .int y, .int z])) : DK d H H := ⟨fun _ _ _ e => e, x, y, z, h⟩
theorem DK.roll {d : Addr} {H H' : Hp} (k : DK d H H') (x y z : Int) : DK d H (upd H' d (.lst [.int x, .int y, .int z])) :=
  ⟨fun b o hb e => by rw [upd_ne hb]; exact k.1 b o hb e, x, y, z, upd_same⟩
theorem DK.new {d : Addr} {H H' : Hp} (k : DK d H H') {p : Addr} {o : HO} (hp : H' p = none) : DK d H (upd H' p o) := by
  obtain ⟨k1, x, y, z, k2⟩ := k
  refine ⟨fun b u hb e => ?_, x, y, z, ?_⟩
  · rw [upd_ne (ne_of_none (k1 b u hb e) hp)]
    exact k1 b u hb e
  · rw [upd_ne (ne_of_none k2 hp)]
    exact k2
/-- an object that was not there may change -/
theorem DK.mut {d : Addr} {H H' : Hp} (k : DK d H H') {p : Addr} {o : HO} (hp : H p = none) (hd : p ≠ d) : DK d H (upd H' p o) := by
  obtain ⟨k1, x, y, z, k2⟩ := k
  refine ⟨fun b u hb e => ?_, x, y, z, ?_⟩
  · rw [upd_ne (ne_of_none e hp)]
    exact k1 b u hb e
  · rw [upd_ne hd.symm]
    exact k2
theorem DK.trans {d : Addr} {H H1 H2 : Hp} (a : DK d H H1) (b : DK d H1 H2) : DK d H H2 := ⟨fun c o hc e => b.1 c o hc (a.1 c o hc e), b.2⟩
theorem DK.free {d : Addr} {H H' : Hp} (k : DK d H H') {p : Addr} (hd : p ≠ d) (h : H' p = none) : H p = none := by
  cases e : H p with
  | none => rfl
  | some o =>
    rw [k.1 p o hd e] at h
    cases h
theorem DK.ne {d : Addr} {H H' : Hp} (k : DK d H H') {p : Addr} (h : H' p = none) : p ≠ d := by
  obtain ⟨_, x, y, z, k2⟩ := k
  intro e
  rw [e, k2] at h
  cases h
theorem sgn_len {z : Str} {v : V} (h : v ∈ z.cps.toList.map fun c => V.str ⟨#[c]⟩) : ∃ x : Str, v = .str x ∧ x.length = 1 := by
  obtain ⟨c, _, rfl⟩ := List.mem_map.mp h
  exact ⟨⟨#[c]⟩, rfl, rfl⟩

def spSigns : Sp := fun vs H Q _ => ∃ (d : Addr) (x y z : Int), vs = [.ref d] ∧ H d = some (.lst [.int x, .int y, .int z]) ∧
  ∀ (p : Addr) (H' : Hp) (zs : List Str), H p = none → p ≠ d → DK d H H' → Strs H' p zs 1 → zs.length = 5 → Q (.ref p) H'
theorem ok_signs (D : Ds K mg Z) (B : Bt mg) : FnOk P w K mg base CX0 3 Z.a_signs Z.d_signs P_signs spSigns := by
  have G_pick := ok_pick (P := P) (w := w) (base := base) D B
  refine D.signs.F.ok sc_signs (fun vs H Q E h => ?_) (fun cdv A outer s H vs Q E hr h => ?_)
  · obtain ⟨d, x, y, z, rfl, _⟩ := h
    rfl
  · obtain ⟨d, x, y, z, rfl, hd, q⟩ := h
    refine ⟨_, (pss_cons (ps_set (i := 1) sc_signs.nd rfl (Or.inr rfl) pe_str)
    (pss_one (ps_ret (pe_op op_cat (pe_lst (pa_cons (pe_df D.pick G_pick (hr.mono (by decide)) (by rfl) (pa_cons (pv 0) (pa_cons pe_str pa_nil))) (pa_cons (pe_df D.pick G_pick (hr.mono (by decide)) (by rfl) (pa_cons (pv 0) (pa_cons pe_str pa_nil))) pa_nil))) (pe_lc (own := [("_law_turn", 2)]) (g := gName 2) rfl sc_signs.nd (pi_range1 (by rfl) B.range (pa_cons pe_int pa_nil)) (blkOk_by (N := N_signs) (sc := defScope s_signs) (by decide +kernel)) (fun _ _ _ _ _ => (pg_name (i := 2) sc_signs.nd rfl (Or.inl rfl))) (fun _ _ _ _ _ => pts_nil) (fun _ _ _ _ _ => (pe_df D.pick G_pick (hr.mono (by decide)) (by rfl) (pa_cons (pv 0) (pa_cons (pv 1) pa_nil))))))))), ?_⟩
    walk_at "rd"
    walk_at "go"
    refine ⟨d, x, y, z, _, _, rfl, hd, .inr ⟨_, rfl, rfl⟩, by decide +kernel, by decide +kernel, fun v1 hv1 x1 y1 z1 => ?_⟩
    obtain ⟨s1, rfl, l1⟩ := sgn_len hv1
    walk_at "rd"
    refine ⟨d, x1, y1, z1, _, _, rfl, upd_same, .inr ⟨_, rfl, rfl⟩, by decide +kernel, by decide +kernel, fun v2 hv2 x2 y2 z2 => ?_⟩
    obtain ⟨s2, rfl, l2⟩ := sgn_len hv2
    walk_at "rd"
    refine ⟨by decide, fun p hp => ?_⟩
    have k2 : DK d H (upd H d (.lst [.int x2, .int y2, .int z2])) := (DK.refl hd).roll _ _ _
    have pd := k2.ne hp
    have k3 : DK d H (upd (upd H d (.lst [.int x2, .int y2, .int z2])) p (.lst [.str s1, .str s2])) := k2.new hp
    have hp3 : (upd (upd H d (.lst [.int x2, .int y2, .int z2])) p (.lst [.str s1, .str s2])) p = some (.lst [.str s1, .str s2]) := upd_same
    have hp0 : H p = none := k2.free pd hp
    generalize (upd (upd H d (.lst [.int x2, .int y2, .int z2])) p (.lst [.str s1, .str s2])) = H1 at k3 hp3 ⊢
    refine ⟨by decide, by decide, fun L hL => ?_⟩
    have Ld := k3.ne hL
    have hL0 := k3.free Ld hL
    refine lc_range (lo := 0) (n := Int.toNat 3) (fun i H' => DK d H H' ∧ H' p = some (.lst [.str s1, .str s2]) ∧ ∃ zs : List Str, Strs H' L zs 1 ∧ zs.length = i)
      ⟨k3.new hL, by rw [upd_ne (ne_of_none hp3 hL)]; exact hp3, [], ⟨upd_same, fun x hx => by cases hx⟩, rfl⟩ ?_ ?_
    · rintro i H2 hi ⟨k4, hp4, zs, hz, lz⟩
      obtain ⟨_, x4, y4, z4, hd4⟩ := id k4
      walk_at "rd"
      refine ⟨d, x4, y4, z4, _, _, rfl, hd4, .inr ⟨_, rfl, rfl⟩, by decide +kernel, by decide +kernel, fun v5 hv5 x5 y5 z5 => ?_⟩
      obtain ⟨s5, rfl, l5⟩ := sgn_len hv5
      have pL : p ≠ L := ne_of_none hp3 hL
      refine ⟨zs.map V.str, by rw [upd_ne Ld]; exact hz.1, ?_, (k4.roll _ _ _).mut hL0 Ld, ?_, zs ++ [s5], ⟨?_, ?_⟩, ?_⟩
      · rw [List.length_map]
        exact Nat.lt_of_le_of_lt (show zs.length ≤ 3 by have : i < 3 := hi; omega) (by decide)
      · rw [upd_ne pL, upd_ne pd]
        exact hp4
      · rw [upd_same, List.map_append]
        rfl
      · intro z' hz'
        rcases List.mem_append.mp hz' with h | h
        · exact hz.2 z' h
        · rw [List.mem_singleton.mp h, l5]
          exact Nat.le_refl _
      · rw [List.length_append, lz]
        rfl
    · rintro H2 ⟨k4, hp4, zs, hz, lz⟩
      have hz1 := hz.1
      walk_at "rd"
      refine ⟨?_, fun p2 hp2 => ?_⟩
      · rw [List.length_map, lz]
        decide
      · have p2d := k4.ne hp2
        refine q p2 _ (s1 :: s2 :: zs) (k4.free p2d hp2) p2d (k4.new hp2) ⟨upd_same, ?_⟩ (by rw [List.length_cons, List.length_cons, lz]; rfl)
        intro z' hz'
        rcases List.mem_cons.mp hz' with h | h
        · rw [h, l1]
          exact Nat.le_refl _
        · rcases List.mem_cons.mp h with h | h
          · rw [h, l2]
            exact Nat.le_refl _
          · exact hz.2 z' h

structure S9 (d f T : Addr) (H : Hp) (ws tp : List V) (H' : Hp) : Prop where
  k : DK d H H'
  f : H' f = some (.lst ws)
  t : H' T = some (.tup tp)
theorem S9.roll {d f T : Addr} {H H' : Hp} {ws tp : List V} (s : S9 d f T H ws tp H') (fd : f ≠ d) (Td : T ≠ d) (x y z : Int) : S9 d f T H ws tp (upd H' d (.lst [.int x, .int y, .int z])) :=
  ⟨s.k.roll _ _ _, by rw [upd_ne fd]; exact s.f, by rw [upd_ne Td]; exact s.t⟩
theorem S9.new {d f T : Addr} {H H' : Hp} {ws tp : List V} (s : S9 d f T H ws tp H') {p : Addr} {o : HO} (hp : H' p = none) : S9 d f T H ws tp (upd H' p o) :=
  ⟨s.k.new hp, by rw [upd_ne (ne_of_none s.f hp)]; exact s.f, by rw [upd_ne (ne_of_none s.t hp)]; exact s.t⟩
def spLong : Sp := fun vs H Q _ => ∃ (d g : Addr) (x y z : Int) (zs : List Str), vs = [.ref d, .ref g] ∧ H d = some (.lst [.int x, .int y, .int z]) ∧ Strs H g zs 1 ∧ zs.length = 5 ∧ g ≠ d ∧
  ∀ (p : Addr) (H' : Hp) (ws : List Str), H p = none → p ≠ d → DK d H H' → Strs H' p ws 10000 → ws.length ≤ 5 → Q (.ref p) H'
theorem ok_long (D : Ds K mg Z) (B : Bt mg) : FnOk P w K mg base CX0 3 Z.a_long Z.d_long P_long spLong := by
  have G_pick := ok_pick (P := P) (w := w) (base := base) D B
  have G_roll := ok_roll (P := P) (w := w) (base := base) D B
  refine D.long.F.ok sc_long (fun vs H Q E h => ?_) (fun cdv A outer s H vs Q E hr h => ?_)
  · obtain ⟨d, g, x, y, z, zs, rfl, _⟩ := h
    rfl
  · obtain ⟨d, g, x, y, z, zs, rfl, hd, hg, lg, gd, q⟩ := h
    obtain ⟨g1, g2⟩ := hg
    obtain ⟨z0, z1, z2, z3, z4, rfl⟩ : ∃ a b c e f, zs = [a, b, c, e, f] := by
      match zs, lg with
      | [a, b, c, e, f], _ => exact ⟨a, b, c, e, f, rfl⟩
    have g1' : H g = some (.lst [.str z0, .str z1, .str z2, .str z3, .str z4]) := g1
    refine ⟨_, (pss_cons (ps_set (i := 2) sc_long.nd rfl (Or.inl rfl) (pe_lst pa_nil))
    (pss_cons (ps_for PassesOwn.never rfl (pi_tup (pe_tup (pa_cons pe_int (pa_cons pe_int (pa_cons pe_int (pa_cons pe_int (pa_cons pe_int pa_nil))))))) (pg_name (i := 3) sc_long.nd rfl (Or.inl rfl))
      (pss_cons (ps_set (i := 4) sc_long.nd rfl (Or.inl rfl) (pe_df D.pick G_pick (hr.mono (by decide)) (by rfl) (pa_cons (pv 0) (pa_cons (pe_lst (pa_cons pe_int (pa_cons (pe_op op_sub (pv 3) pe_int) (pa_cons (pe_df D.roll G_roll (hr.mono (by decide)) (by rfl) (pa_cons (pv 0) (pa_cons (pv 3) pa_nil))) pa_nil)))) pa_nil))))
    (pss_cons (ps_set (i := 5) sc_long.nd rfl (Or.inl rfl) (pe_df D.pick G_pick (hr.mono (by decide)) (by rfl) (pa_cons (pv 0) (pa_cons (pe_lst (pa_cons (pe_ix ix_M (pv 1) pe_int (fun _ _ => rfl)) (pa_cons (pe_ix ix_M (pv 1) pe_int (fun _ _ => rfl)) (pa_cons (pe_df D.pick G_pick (hr.mono (by decide)) (by rfl) (pa_cons (pv 0) (pa_cons (pv 1) pa_nil))) pa_nil)))) pa_nil))))
    (pss_one (ps_expr (pe_lm PySem.F.plainAttrs_list PySem.F.slot_list_append PySem.F.type_list_append mt_append (pv 2) (pa_cons (pe_op op_add_str (pe_op op_add_str (pe_op op_repS (pe_ix ix_M (pv 1) pe_int (fun _ _ => rfl)) (pv 4)) (pv 5)) (pe_op op_repS (pe_ix ix_M (pv 1) pe_int (fun _ _ => rfl)) (pe_op op_sub (pe_op op_sub (pv 3) pe_int) (pv 4)))) pa_nil)))))))
    (pss_one (ps_ret (pv 2))))), ?_⟩
    walk_at "rd"
    refine ⟨by decide, fun f hf => ?_⟩
    walk_at "go"
    refine ⟨by decide, fun T hT => ⟨⟨_, .inl (.inl upd_same)⟩, ?_⟩⟩
    have k0 := (DK.refl hd).new (o := .lst []) hf
    have fd : f ≠ d := (DK.refl hd).ne hf
    have Td : T ≠ d := k0.ne hT
    have fT : f ≠ T := ne_of_none upd_same hT
    obtain ⟨Pv, hP⟩ := inv_of (fun (i : Nat) (σ : St) (H' : Hp) => ∃ (ws : List Str) (o3 o4 o5 : Option V), σ = [some (.ref d), some (.ref g), some (.ref f), o3, o4, o5] ∧ S9 d f T H (ws.map V.str) [.int 7, .int 8, .int 9, .int 3999, .int 4000] H' ∧ (∀ x, x ∈ ws → x.length ≤ 10000) ∧ ws.length ≤ i)
    refine loop_tup (xs := [.int 7, .int 8, .int 9, .int 3999, .int 4000]) Pv ((hP _ _ _).mpr ⟨[], _, _, _, rfl, ⟨k0.new hT, ?_, upd_same⟩, ?_, Nat.le_refl _⟩) ?_ ?_ ?_
    · rw [upd_ne fT, upd_same]
      rfl
    · intro x hx
      cases hx
    · intro i σ H1 _ h
      obtain ⟨ws, o3, o4, o5, _, s9, _⟩ := (hP _ _ _).mp h
      exact .inl (.inl s9.t)
    · intro i v σ H1 hv h
      obtain ⟨ws, o3, o4, o5, rfl, s9, hw, lw⟩ := (hP _ _ _).mp h
      clear h
      obtain ⟨n, n7, n4, rfl⟩ : ∃ n : Int, 7 ≤ n ∧ n ≤ 4000 ∧ v = .int n := by
        have hm := List.mem_of_getElem? hv
        simp only [List.mem_cons, List.not_mem_nil, or_false] at hm
        rcases hm with h | h | h | h | h <;> subst h
        · exact ⟨7, by decide, by decide, rfl⟩
        · exact ⟨8, by decide, by decide, rfl⟩
        · exact ⟨9, by decide, by decide, rfl⟩
        · exact ⟨3999, by decide, by decide, rfl⟩
        · exact ⟨4000, by decide, by decide, rfl⟩
      have hi5 : i < 5 := (List.getElem?_eq_some_iff.mp hv).1
      obtain ⟨_, x1, y1, w1, hd1⟩ := id s9.k
      walk_at "rd"
      walk_at "go"
      have hlog : n.natAbs.log2 < 9000 := Nat.lt_of_lt_of_le (log2_of (k := 20) (by omega) (by decide)) (by decide)
      refine ⟨d, x1, y1, w1, n, rfl, hd1, by omega, hlog, fun r x2 y2 w2 r0 r1 => ?_⟩
      replace s9 := s9.roll fd Td x2 y2 w2
      have hd2 : (upd H1 d (.lst [.int x2, .int y2, .int w2])) d = some (.lst [.int x2, .int y2, .int w2]) := upd_same
      clear hd1
      generalize upd H1 d (.lst [.int x2, .int y2, .int w2]) = H2 at s9 hd2 ⊢
      walk_at "rd"
      refine ⟨by decide, fun t ht => ?_⟩
      have td := s9.k.ne ht
      replace s9 := s9.new (o := .lst [.int 0, .int (n - 1), .int r]) ht
      have hd3 : (upd H2 t (.lst [.int 0, .int (n - 1), .int r])) d = some (.lst [.int x2, .int y2, .int w2]) := by rw [upd_ne td.symm]; exact hd2
      refine ⟨d, x2, y2, w2, .ref t, _, rfl, hd3, .inl ⟨t, rfl, td, upd_same⟩, by simp, by simp, fun v hv x3 y3 w3 => ?_⟩
      obtain ⟨at', a0, a1, rfl⟩ : ∃ a : Int, 0 ≤ a ∧ a < n ∧ v = .int a := by
        simp only [List.mem_cons, List.not_mem_nil, or_false] at hv
        rcases hv with h | h | h <;> subst h
        · exact ⟨0, by omega, by omega, rfl⟩
        · exact ⟨n - 1, by omega, by omega, rfl⟩
        · exact ⟨r, r0, r1, rfl⟩
      replace s9 := s9.roll fd Td x3 y3 w3
      have hd4 : (upd (upd H2 t (.lst [.int 0, .int (n - 1), .int r])) d (.lst [.int x3, .int y3, .int w3])) d = some (.lst [.int x3, .int y3, .int w3]) := upd_same
      clear hd2 hd3 ht
      generalize upd (upd H2 t (.lst [.int 0, .int (n - 1), .int r])) d (.lst [.int x3, .int y3, .int w3]) = H3 at s9 hd4 ⊢
      have hg3 := s9.k.1 _ _ gd g1'
      walk_at "rd"
      walk_at "go"
      refine ⟨d, x3, y3, w3, .ref g, _, rfl, hd4, .inl ⟨g, rfl, gd, hg3⟩, by simp, by simp, fun v hv x5 y5 w5 => ?_⟩
      obtain ⟨u, hu, rfl⟩ : ∃ u : Str, u.length ≤ 1 ∧ v = .str u := by
        obtain ⟨u, h1, h2⟩ := List.mem_map.mp (show v ∈ [z0, z1, z2, z3, z4].map V.str from hv)
        exact ⟨u, g2 u h1, h2.symm⟩
      replace s9 := s9.roll fd Td x5 y5 w5
      have hd5 : (upd H3 d (.lst [.int x5, .int y5, .int w5])) d = some (.lst [.int x5, .int y5, .int w5]) := upd_same
      clear hd4 hg3
      generalize upd H3 d (.lst [.int x5, .int y5, .int w5]) = H4 at s9 hd5 ⊢
      walk_at "rd"
      refine ⟨by decide, fun t2 ht2 => ?_⟩
      have td2 := s9.k.ne ht2
      replace s9 := s9.new (o := .lst [.str z1, .str z1, .str u]) ht2
      have hd6 : (upd H4 t2 (.lst [.str z1, .str z1, .str u])) d = some (.lst [.int x5, .int y5, .int w5]) := by rw [upd_ne td2.symm]; exact hd5
      refine ⟨d, x5, y5, w5, .ref t2, _, rfl, hd6, .inl ⟨t2, rfl, td2, upd_same⟩, by simp, by simp, fun v hv x7 y7 w7 => ?_⟩
      obtain ⟨u2, hu2, rfl⟩ : ∃ u : Str, u.length ≤ 1 ∧ v = .str u := by
        have gz : z1.length ≤ 1 := g2 z1 (by simp)
        simp only [List.mem_cons, List.not_mem_nil, or_false] at hv
        rcases hv with h | h | h <;> subst h
        · exact ⟨z1, gz, rfl⟩
        · exact ⟨z1, gz, rfl⟩
        · exact ⟨u, hu, rfl⟩
      replace s9 := s9.roll fd Td x7 y7 w7
      clear hd5 hd6 ht2
      generalize upd (upd H4 t2 (.lst [.str z1, .str z1, .str u])) d (.lst [.int x7, .int y7, .int w7]) = H5 at s9 ⊢
      have hg5 := s9.k.1 _ _ gd g1'
      have hf5 := s9.f
      have gz0 : z0.length ≤ 1 := g2 z0 (by simp)
      have m1 : z0.length * at'.toNat ≤ 4000 := Nat.le_trans (Nat.mul_le_mul gz0 (show at'.toNat ≤ 4000 by omega)) (by decide)
      have m2 : z0.length * (n - 1 - at').toNat ≤ 4000 := Nat.le_trans (Nat.mul_le_mul gz0 (show (n - 1 - at').toNat ≤ 4000 by omega)) (by decide)
      walk_at "rd"
      walk_at "go"
      have big : ∀ k : Nat, k ≤ 20000 → k ≤ sizeLine := fun k hk => Nat.le_trans hk (by decide)
      have e1 := len_rep z0 at'
      have e2 := len_rep z0 (n - 1 - at')
      have e3 := len_add (repS z0 at') u2
      have e4 := len_add (repS z0 at' ++ u2) (repS z0 (n - 1 - at'))
      refine ⟨by omega, by omega, big _ (by omega), big _ (by omega), by omega, by omega, big _ (by omega), big _ (by omega), ?_, ws ++ [repS z0 at' ++ u2 ++ repS z0 (n - 1 - at')], ⟨?_, ?_, ?_⟩, ?_, ?_⟩
      · rw [List.length_map]
        exact Nat.lt_of_le_of_lt (show ws.length ≤ 5 by omega) (by decide)
      · exact s9.k.mut hf fd
      · rw [upd_same, List.map_append]
        rfl
      · rw [upd_ne fT.symm]
        exact s9.t
      · intro x hx
        rcases List.mem_append.mp hx with h | h
        · exact hw x h
        · rw [List.mem_singleton.mp h]
          omega
      · rw [List.length_append]
        show ws.length + 1 ≤ i + 1
        omega
    · intro σ H1 h
      obtain ⟨ws, o3, o4, o5, rfl, s9, hw, lw⟩ := (hP _ _ _).mp h
      clear h
      walk_at "go"
      walk_at "go"
      exact q f H1 ws hf fd s9.k ⟨s9.f, hw⟩ lw

/-! ### the law -/
def repr3 (a b c : Bool) : Str := (PyData.list [.bool a, .bool b, .bool c]).shown
theorem repr_3 {K : PySem.W.Frag} {H : Hp} {p : Addr} {a b c : Bool} {Q : VK} (h : H p = some (.lst [.bl a, .bl b, .bl c])) (q : Q (.str (repr3 a b c)) H) : rReprD K [.ref p] H Q := by
  refine ⟨.ref p, .list [.bool a, .bool b, .bool c], rfl, .lst (SqL.of h) (.cons (.bl a) (.cons (.bl b) (.cons (.bl c) .nil))), ?_, ?_, ?_, ?_, q⟩
  · cases a <;> cases b <;> cases c <;> decide
  · cases a <;> cases b <;> cases c <;> decide
  · cases a <;> cases b <;> cases c <;> decide
  · cases a <;> cases b <;> cases c <;> decide +kernel
theorem spelt_rep (z : Str) (n : Int) (h : spelt (.str z) = true) : spelt (.str (repS z n)) = true := by
  show (TL.tl (repS z n)).all _ = true
  rw [tl_rep, List.all_flatten, List.all_eq_true]
  intro l hl
  rw [List.eq_of_mem_replicate hl]
  exact h
theorem spelt_add (x y : Str) (hx : spelt (.str x) = true) (hy : spelt (.str y) = true) : spelt (.str (x ++ y)) = true := by
  show (x.cps ++ y.cps).toList.all _ = true
  rw [Array.toList_append, List.all_append, Bool.and_eq_true]
  exact ⟨hx, hy⟩
theorem isText_of {v : V} (h : spelt v = true) {n : Nat} (e : lenV v = n) : isText v = decide (n ≤ 100000) := by
  unfold isText
  rw [h, e, Bool.true_and]
theorem text1 : isText (.str (repS (Str.ofString "ab") 50000)) = true :=
  (isText_of (spelt_rep _ _ (by decide +kernel)) (len_rep _ _)).trans (by decide +kernel)
theorem text2 : isText (.str (repS (Str.ofString "a") 99999 ++ Str.ofString "z")) = true :=
  (isText_of (spelt_add _ _ (spelt_rep _ _ (by decide +kernel)) (by decide +kernel)) ((len_add _ _).trans (congrArg (· + _) (len_rep _ _)))).trans (by decide +kernel)
theorem text3 : isText (.str (repS (Str.ofString "b") 100001)) = false :=
  (isText_of (spelt_rep _ _ (by decide +kernel)) (len_rep _ _)).trans (by decide +kernel)
theorem len2 : (repS (Str.ofString "a") 99999 ++ Str.ofString "z").length = (Str.ofString "a").length * Int.toNat 99999 + (Str.ofString "z").length := by
  rw [len_add, len_rep (Str.ofString "a") 99999]
theorem small2 : (repS (Str.ofString "a") 99999).length + (Str.ofString "z").length ≤ sizeLine := by
  rw [len_rep (Str.ofString "a") 99999]
  decide +kernel
theorem okS1 (K : PySem.W.Frag) (H : Hp) {x : Str} {n : Nat} (e : x.length = n) (h : n ≤ 1000000) : Ok1 K H (.str x) := ⟨⟨_, .str x⟩, by show x.length ≤ _; rw [e]; exact h⟩
theorem text4 : [V.bl (isName (.str (Str.ofString ""))), V.bl (isLetter (.str (Str.ofString ""))), V.bl (isText (.str (Str.ofString "")))] = [V.bl false, V.bl false, V.bl true] := by
  decide +kernel
def spLaw (K : PySem.W.Frag) : Sp := fun vs H Q _ => ∃ (a : Addr) (ns : List Int), vs = [.ref a] ∧ SqL K H a (ns.map V.int) ∧ ns.length ≤ 63 ∧ ∀ H', Q (.bl true) H'
theorem ok_law (D : Ds K mg Z) (B : Bt mg) (C0 : Cs mg) : FnG P w K mg base CX0 5 Z.a_law Z.d_law P_law (spLaw K) := by
  have G_is_text := ok_is_text (P := P) (w := w) (base := base) D B C0
  have G_told := ok_told (P := P) (w := w) (base := base) D B C0
  have G_due := ok_due (P := P) (w := w) (base := base) D B
  have G_dice := ok_dice (P := P) (w := w) (base := base) D B
  have G_signs := ok_signs (P := P) (w := w) (base := base) D B
  have G_texts := ok_texts (P := P) (w := w) (base := base) D B
  have G_long := ok_long (P := P) (w := w) (base := base) D B
  obtain ⟨⟨t_ALPHABET, c_ALPHABET⟩, ⟨t_MAX_LETTERS, c_MAX_LETTERS⟩, ⟨t_MAX_TEXT, c_MAX_TEXT⟩⟩ := C0
  refine okG D.law.F sc_law (fun vs H Q E h => ?_) (fun cdv A outer s H vs Q E gd hr h => ?_)
  · obtain ⟨a, ns, rfl, _⟩ := h
    rfl
  · obtain ⟨a, ns, rfl, hS, hlen, q⟩ := h
    refine ⟨_, (pss_cons (ps_for PassesOwn.never rfl (pi_range1 (by rfl) B.range (pa_cons (pe_callB (call_max2 rfl) (by rfl) B.max (by decide +kernel) (pa_cons pe_int (pa_cons (pe_callB (call_min2 rfl) (by rfl) B.min (by decide +kernel) (pa_cons pe_int (pa_cons (pe_callB call_len_seq (by rfl) B.len (by decide +kernel) (pa_cons (pv 0) pa_nil)) pa_nil))) pa_nil))) pa_nil)) (pg_name (i := 1) sc_law.nd rfl (Or.inl rfl))
      (pss_cons (ps_set (i := 2) sc_law.nd rfl (Or.inl rfl) (pe_df D.dice G_dice (hr.mono (by decide)) (by rfl) (pa_cons (pv 0) (pa_cons (pv 1) pa_nil))))
    (pss_cons (ps_set (i := 3) sc_law.nd rfl (Or.inl rfl) (pe_df D.signs G_signs (hr.mono (by decide)) (by rfl) (pa_cons (pv 2) pa_nil)))
    (pss_cons (ps_for PassesOwn.never rfl (pi_list (pe_op op_cat (pe_df D.texts G_texts (hr.mono (by decide)) (by rfl) (pa_cons (pe_callB (cr_sortT rfl) (by rfl) B.sorted (by decide +kernel) (pa_cons (pe_callTy (cr_setT rfl) (by rfl) B.set (by decide +kernel) (pa_cons (pv 3) pa_nil)) pa_nil)) (pa_cons pe_int pa_nil))) (pe_df D.long G_long (hr.mono (by decide)) (by rfl) (pa_cons (pv 2) (pa_cons (pv 3) pa_nil))))) (pg_name (i := 4) sc_law.nd rfl (Or.inl rfl))
      (pss_one (ps_if (pt_cmpR op_ne (pe_callB (call_reprK (K := K) rfl gd hr.units) (by rfl) B.repr (by decide +kernel) (pa_cons (pe_df D.told G_told (hr.mono (by decide)) (by rfl) (pa_cons (pv 4) pa_nil)) pa_nil)) (pe_callB (call_reprK (K := K) rfl gd hr.units) (by rfl) B.repr (by decide +kernel) (pa_cons (pe_df D.due G_due (hr.mono (by decide)) (by rfl) (pa_cons (pv 4) pa_nil)) pa_nil)) (nomark _)) (pss_one (ps_ret pe_bl)) pss_nil)))
    (pss_cons (ps_set (i := 5) sc_law.nd rfl (Or.inl rfl) (pe_lst (pa_cons pe_non (pa_cons pe_int (pa_cons pe_int (pa_cons pe_bl (pa_cons (pe_tup (pa_cons pe_str pa_nil)) (pa_cons (pe_lst (pa_cons pe_str pa_nil)) (pa_cons (pe_disp (pps_cons pe_str pe_str pps_nil) (by rfl) (by rfl) (fun z => by cases z) (by decide)) (pa_cons (pe_tup pa_nil) (pa_cons (pe_op op_pow pe_int pe_int) (pa_cons (pe_tup (pa_cons pe_str (pa_cons pe_str pa_nil))) pa_nil))))))))))))
    (pss_one (ps_if (pt_cmpR (op_neK (K := K) rfl hr.units) (pe_lc (own := [("_law_value", 6)]) (g := gName 6) rfl sc_law.nd (pi_list (pv 5)) (blkOk_by (N := N_law) (sc := defScope s_law) (by decide +kernel)) (fun _ _ _ _ _ => (pg_name (i := 6) sc_law.nd rfl (Or.inl rfl))) (fun _ _ _ _ _ => (pts_one (pt_cmpR (op_neK (K := K) rfl hr.units) (pe_df D.told G_told (hr.mono (by decide)) (by rfl) (pa_cons (pv 6) pa_nil)) (pe_lst (pa_cons pe_bl (pa_cons pe_bl (pa_cons pe_bl pa_nil)))) (nomark _)))) (fun _ _ _ _ _ => (pv 6))) (pe_lst pa_nil) (nomark _)) (pss_one (ps_ret pe_bl)) pss_nil)))))))
    (pss_cons (ps_if (pt_cmpR (op_neK (K := K) rfl hr.units) (pe_lst (pa_cons (pe_df D.is_text G_is_text (hr.mono (by decide)) (by rfl) (pa_cons (pe_op op_repS pe_str pe_int) pa_nil)) (pa_cons (pe_df D.is_text G_is_text (hr.mono (by decide)) (by rfl) (pa_cons (pe_op op_add_str (pe_op op_repS pe_str pe_int) pe_str) pa_nil)) (pa_cons (pe_df D.is_text G_is_text (hr.mono (by decide)) (by rfl) (pa_cons (pe_op op_repS pe_str pe_int) pa_nil)) pa_nil)))) (pe_lst (pa_cons pe_bl (pa_cons pe_bl (pa_cons pe_bl pa_nil)))) (nomark _)) (pss_one (ps_ret pe_bl)) pss_nil)
    (pss_one (ps_ret (pe_and (pe_cmpR (op_eqK (K := K) rfl hr.units) (pe_lst (pa_cons (pe_glob (v := .int _) (by rfl) c_MAX_LETTERS ⟨_, rfl⟩) (pa_cons (pe_glob (v := .int _) (by rfl) c_MAX_TEXT ⟨_, rfl⟩) pa_nil))) (pe_lst (pa_cons pe_int (pa_cons pe_int pa_nil))) (nomark _)) (pe_one (pe_cmpR (op_eqK (K := K) rfl hr.units) (pe_df D.told G_told (hr.mono (by decide)) (by rfl) (pa_cons pe_str pa_nil)) (pe_lst (pa_cons pe_bl (pa_cons pe_bl (pa_cons pe_bl pa_nil)))) (nomark _)))))))), ?_⟩
    walk_at "rd"
    refine ⟨_, .inl hS, ?_⟩
    have hm : ∀ k : Nat, (1 : Int) ≤ (if (if (k : Int) < 3 then (k : Int) else 3) > 1 then if (k : Int) < 3 then (k : Int) else 3 else 1) ∧ (if (if (k : Int) < 3 then (k : Int) else 3) > 1 then if (k : Int) < 3 then (k : Int) else 3 else 1) ≤ 3 := by
      intro k
      split <;> split <;> omega
    obtain ⟨m0, m1⟩ := hm (ns.map V.int).length
    generalize (if (if ((ns.map V.int).length : Int) < 3 then ((ns.map V.int).length : Int) else 3) > 1 then if ((ns.map V.int).length : Int) < 3 then ((ns.map V.int).length : Int) else 3 else 1) = m at m0 m1 ⊢
    refine ⟨by omega, by omega, ?_⟩
    obtain ⟨Pv, hP⟩ := inv_of (fun (i : Nat) (σ : St) (H' : Hp) => ∃ (o1 o2 o3 o4 o5 o6 : Option V), σ = [some (.ref a), o1, o2, o3, o4, o5, o6] ∧ Same H H')
    refine loop_range Pv ((hP _ _ _).mpr ⟨_, _, _, _, _, _, rfl, Same.refl H⟩) ?_ ?_
    · intro i σ H1 hi hp
      obtain ⟨o1, o2, o3, o4, o5, o6, rfl, e1⟩ := (hP _ _ _).mp hp
      clear hp
      walk_at "rd"
      walk_at "go"
      refine ⟨a, ns, i, rfl, e1.seq hS, fun d x y hd => ?_⟩
      walk_at "rd"
      walk_at "go"
      refine ⟨d, x, y, 0, rfl, upd_same, fun g H2 zs hg gd' k2 hz lz => ?_⟩
      have e2 : Same H H2 := fun b o e => k2.1 b o (ne_of_none (e1 b o e) hd) (Same.new hd b o (e1 b o e))
      obtain ⟨_, x2, y2, w2, hd2⟩ := id k2
      have hd0 : H d = none := e1.free hd
      clear k2
      walk_at "rd"
      walk_at "go"
      refine ⟨g, zs, rfl, hz.1, by rw [lz]; decide, fun p hp => ?_⟩
      walk_at "rd"
      refine ⟨p, zs, rfl, upd_same, fun ys p2 so hp2 => ?_⟩
      walk_at "rd"
      have s3 := (Same.new (o := TxS w p zs) hp).trans (Same.new (o := .lst (ys.map V.str)) hp2)
      refine ⟨p2, ys, rfl, ⟨upd_same, fun x hx => hz.2 x ((so.mem x).mp hx)⟩, by have := so.len; omega, fun p3 H3 xs hp3 e3 hx lx => ?_⟩
      have e4 := s3.trans e3
      walk_at "rd"
      have gd3 : g ≠ d := gd'
      refine ⟨d, g, x2, y2, w2, zs, rfl, e4 _ _ hd2, hz.same e4, lz, gd3, fun p4 H4 ws hp4 p4d k4 hw lw => ?_⟩
      have p3d : p3 ≠ d := fun e => by rw [e, s3 _ _ hd2] at hp3; cases hp3
      have hx4 := k4.1 _ _ p3d hx.1
      have e5 : Same H H4 := fun b o e => k4.1 b o (ne_of_none e hd0) (e4 _ _ (e2 _ _ e))
      have hw1 := hw.1
      clear k4 e4 e3 s3 hp2 hp hp3 hp4
      walk_at "rd"
      refine ⟨?_, fun pl hpl => ⟨⟨_, SqL.of upd_same⟩, ?_⟩⟩
      · rw [List.length_map, List.length_map]
        exact Nat.le_trans (show xs.length + ws.length ≤ 6000 by omega) (by decide)
      have hlen2 : ∀ x, x ∈ xs ++ ws → x.length ≤ 10000 := by
        intro x hx'
        rcases List.mem_append.mp hx' with h | h
        · exact Nat.le_trans (hx.2 x h) (by decide)
        · exact hw.2 x h
      rw [← List.map_append]
      have e6 : Same H (upd H4 pl (.lst ((xs ++ ws).map V.str))) := e5.trans (Same.new hpl)
      have hpl6 : (upd H4 pl (.lst ((xs ++ ws).map V.str))) pl = some (.lst ((xs ++ ws).map V.str)) := upd_same
      clear hw1 hx4 hw hx
      generalize xs ++ ws = us at *
      generalize upd H4 pl (.lst (us.map V.str)) = H5 at *
      obtain ⟨Pn, hN⟩ := inv_of (fun (j : Nat) (σ : St) (H' : Hp) => ∃ (o4 : Option V), σ = [some (.ref a), some (.int (i : Int)), some (.ref d), some (.ref g), o4, o5, o6] ∧ Same H5 H')
      refine loop_list Pn ((hN _ _ _).mpr ⟨_, rfl, Same.refl _⟩) (fun j σ H' _ h => SqL.of (by obtain ⟨_, _, z⟩ := (hN _ _ _).mp h; exact z _ _ hpl6)) ?_ ?_
      · intro j v σ H6 hv hp
        obtain ⟨o4', rfl, e7⟩ := (hN _ _ _).mp hp
        clear hp
        obtain ⟨u, hu, rfl⟩ := List.mem_map.mp (List.mem_of_getElem? hv)
        have ul : u.length ≤ 1000000 := Nat.le_trans (hlen2 u hu) (by decide)
        walk_at "rd"
        walk_at "go"
        refine ⟨.str u, rfl, ⟨⟨_, .str u⟩, ul⟩, fun p7 H7 hp7 e8 h7 => ?_⟩
        walk_at "rd"
        refine repr_3 h7 ?_
        refine ⟨u, rfl, ul, fun p8 H8 hp8 e9 h8 => ?_⟩
        walk_at "rd"
        refine repr_3 h8 ?_
        walk_at "rd"
        rw [if_neg (by simp)]
        walk_at "go"
        exact (e7.trans e8).trans e9
      · intro σ H6 hp
        obtain ⟨o4', rfl, e7⟩ := (hN _ _ _).mp hp
        have e8 := e6.trans e7
        clear hp hN e6 e7 hpl6 hlen2
        walk_at "go"
        walk_at "go"
        refine ⟨by decide, fun p1 h1 => ⟨by decide, fun p2 h2 p3 h3 => ⟨[(Sum.inr (Str.ofString "a"), V.str (Str.ofString "a"))], rfl, by decide, by decide, fun p4 h4 => ⟨cpow59, by decide, fun p5 h5 => ⟨by decide, fun p6 h6 => ?_⟩⟩⟩⟩⟩
        have s6 := Same.new (o := .lst [V.non, V.int 0, V.int 7, V.bl true, V.ref p1, V.ref p2, V.ref p3, V.ref p4, V.int (10 ^ Int.toNat 59), V.ref p5]) h6
        have k6 := upd_same (H := upd (upd (upd (upd (upd H6 p1 (.tup [V.str (Str.ofString "a")])) p2 (.lst [V.str (Str.ofString "a")])) p3 (.dK (mergeK [] [(Sum.inr (Str.ofString "a"), V.str (Str.ofString "a"))]))) p4 (.tup [])) p5 (.tup [V.str (Str.ofString "a"), V.str (Str.ofString "b")])) (a := p6) (o := .lst [V.non, V.int 0, V.int 7, V.bl true, V.ref p1, V.ref p2, V.ref p3, V.ref p4, V.int (10 ^ Int.toNat 59), V.ref p5])
        have s5 := Same.new (o := .tup [V.str (Str.ofString "a"), V.str (Str.ofString "b")]) h5
        have s4 := Same.new (o := .tup []) h4
        have s3 := Same.new (o := .dK (mergeK [] [(Sum.inr (Str.ofString "a"), V.str (Str.ofString "a"))])) h3
        have s2 := Same.new (o := .lst [V.str (Str.ofString "a")]) h2
        have s1 := Same.new (o := .tup [V.str (Str.ofString "a")]) h1
        have k5 := s6 _ _ (upd_same (H := upd (upd (upd (upd H6 p1 (.tup [V.str (Str.ofString "a")])) p2 (.lst [V.str (Str.ofString "a")])) p3 (.dK (mergeK [] [(Sum.inr (Str.ofString "a"), V.str (Str.ofString "a"))]))) p4 (.tup [])) (a := p5) (o := .tup [V.str (Str.ofString "a"), V.str (Str.ofString "b")]))
        have k4 := (s5.trans s6) _ _ (upd_same (H := upd (upd (upd H6 p1 (.tup [V.str (Str.ofString "a")])) p2 (.lst [V.str (Str.ofString "a")])) p3 (.dK (mergeK [] [(Sum.inr (Str.ofString "a"), V.str (Str.ofString "a"))]))) (a := p4) (o := .tup []))
        have k3 := ((s4.trans s5).trans s6) _ _ (upd_same (H := upd (upd H6 p1 (.tup [V.str (Str.ofString "a")])) p2 (.lst [V.str (Str.ofString "a")])) (a := p3) (o := .dK (mergeK [] [(Sum.inr (Str.ofString "a"), V.str (Str.ofString "a"))])))
        have k2 := (((s3.trans s4).trans s5).trans s6) _ _ (upd_same (H := upd H6 p1 (.tup [V.str (Str.ofString "a")])) (a := p2) (o := .lst [V.str (Str.ofString "a")]))
        have k1 := ((((s2.trans s3).trans s4).trans s5).trans s6) _ _ (upd_same (H := H6) (a := p1) (o := .tup [V.str (Str.ofString "a")]))
        have ss := e8.trans (((((s1.trans s2).trans s3).trans s4).trans s5).trans s6)
        clear s1 s2 s3 s4 s5 s6 h1 h2 h3 h4 h5 h6 e8
        generalize (upd (upd (upd (upd (upd (upd H6 p1 (.tup [V.str (Str.ofString "a")])) p2 (.lst [V.str (Str.ofString "a")])) p3 (.dK (mergeK [] [(Sum.inr (Str.ofString "a"), V.str (Str.ofString "a"))]))) p4 (.tup [])) p5 (.tup [V.str (Str.ofString "a"), V.str (Str.ofString "b")])) p6 (.lst [V.non, V.int 0, V.int 7, V.bl true, V.ref p1, V.ref p2, V.ref p3, V.ref p4, V.int (10 ^ Int.toNat 59), V.ref p5])) = H7 at *
        walk_at "go"
        refine ⟨⟨_, SqL.of k6⟩, ?_⟩
        refine lc_pureW (walk_list (K := K) (a := p6)) (fun H8 e8 => SqL.of (e8 _ _ k6)) (by simp) (fun _ => false) id (fun x => rfl) ?_ ?_ ?_
        · intro v hv H8 e8 R hR
          obtain ⟨ok, nv⟩ : Ok1 K H8 v ∧ spelt v = false := by
            simp only [List.mem_cons, List.not_mem_nil, or_false] at hv
            rcases hv with h | h | h | h | h | h | h | h | h | h <;> subst h
            · exact ⟨⟨⟨_, .non⟩, by decide⟩, rfl⟩
            · exact ⟨⟨⟨_, .int _⟩, by decide⟩, rfl⟩
            · exact ⟨⟨⟨_, .int _⟩, by decide⟩, rfl⟩
            · exact ⟨⟨⟨_, .bl _⟩, by decide⟩, rfl⟩
            · exact ⟨⟨⟨_, .tup (e8 _ _ k1)⟩, Nat.zero_le _⟩, rfl⟩
            · exact ⟨⟨⟨_, .lst (e8 _ _ k2)⟩, Nat.zero_le _⟩, rfl⟩
            · exact ⟨⟨⟨_, .dct (e8 _ _ k3)⟩, Nat.zero_le _⟩, rfl⟩
            · exact ⟨⟨⟨_, .tup (e8 _ _ k4)⟩, Nat.zero_le _⟩, rfl⟩
            · exact ⟨⟨⟨_, .int _⟩, Nat.zero_le _⟩, rfl⟩
            · exact ⟨⟨⟨_, .tup (e8 _ _ k5)⟩, Nat.zero_le _⟩, rfl⟩
          clear k1 k2 k3 k4 k5 k6
          walk_at "rd"
          refine ⟨v, rfl, ok, fun p9 H9 h9 e9 k9 => ?_⟩
          unfold isName isLetter isText at k9
          rw [nv] at k9
          simp only [Bool.false_and] at k9
          walk_at "rd"
          refine ⟨by decide, fun pa ha => ?_⟩
          refine ⟨.list [.bool false, .bool false, .bool false], .list [.bool false, .bool false, .bool false], .lst (SqL.of (Same.new ha _ _ k9)) (.cons (.bl _) (.cons (.bl _) (.cons (.bl _) .nil))), .lst (SqL.of upd_same) (.cons (.bl _) (.cons (.bl _) (.cons (.bl _) .nil))), rfl, rfl, ?_⟩
          exact ⟨false, rfl, hR _ (e9.trans (Same.new ha))⟩
        · intro v hv hf
          cases hf
        · intro pc H8 hpc e8 hc
          have hc0 : H8 pc = some (.lst []) := by
            rw [hc]
            have : (List.filter (fun _ => false) [V.non, V.int 0, V.int 7, V.bl true, V.ref p1, V.ref p2, V.ref p3, V.ref p4, V.int (10 ^ Int.toNat 59), V.ref p5]) = [] := rfl
            rw [this]
            rfl
          walk_at "rd"
          refine ⟨by decide, fun pn hpn => ?_⟩
          refine ⟨.list [], .list [], .lst (SqL.of (Same.new hpn _ _ hc0)) .nil, .lst (SqL.of upd_same) .nil, rfl, rfl, ?_⟩
          refine ⟨false, rfl, ?_⟩
          walk_at "rd"
          walk_at "go"
          exact (ss.trans e8).trans (Same.new hpn)
    · intro σ H1 hp
      obtain ⟨o1, o2, o3, o4, o5, o6, rfl, e1⟩ := (hP _ _ _).mp hp
      clear hp
      walk_at "go"
      walk_at "go"
      refine ⟨by decide, by decide, by decide +kernel, ?_⟩
      refine ⟨_, rfl, okS1 K H1 (len_rep _ _) (by decide +kernel), fun H2 e2 => ?_⟩
      refine ⟨by decide, by decide, by decide +kernel, small2, ?_⟩
      refine ⟨_, rfl, okS1 K H2 len2 (by decide +kernel), fun H3 e3 => ?_⟩
      refine ⟨by decide, by decide, by decide +kernel, ?_⟩
      refine ⟨_, rfl, okS1 K H3 (len_rep _ _) (by decide +kernel), fun H4 e4 => ?_⟩
      rw [text1, text2, text3]
      refine ⟨by decide, fun p1 h1 => ⟨by decide, fun p2 h2 => ?_⟩⟩
      refine ⟨.list [.bool true, .bool true, .bool false], .list [.bool true, .bool true, .bool false], .lst (SqL.of (Same.new h2 _ _ upd_same)) (.cons (.bl _) (.cons (.bl _) (.cons (.bl _) .nil))), .lst (SqL.of upd_same) (.cons (.bl _) (.cons (.bl _) (.cons (.bl _) .nil))), rfl, rfl, ?_⟩
      refine ⟨false, rfl, ?_⟩
      walk_at "rd"
      walk_at "go"
      walk_at "go"
      refine ⟨by decide, fun p3 h3 => ⟨by decide, fun p4 h4 => ?_⟩⟩
      refine ⟨.list [.int 8, .int 100000], .list [.int 8, .int 100000], .lst (SqL.of (Same.new h4 _ _ upd_same)) (.cons (.int _) (.cons (.int _) .nil)), .lst (SqL.of upd_same) (.cons (.int _) (.cons (.int _) .nil)), rfl, rfl, ?_⟩
      refine ⟨true, rfl, ?_⟩
      walk_at "rd"
      refine ⟨_, rfl, ⟨⟨_, .str _⟩, by decide +kernel⟩, fun p5 H5 h5 e5 k5 => ?_⟩
      rw [text4] at k5
      refine ⟨by decide, fun p6 h6 => ?_⟩
      refine ⟨.list [.bool false, .bool false, .bool true], .list [.bool false, .bool false, .bool true], .lst (SqL.of (Same.new h6 _ _ k5)) (.cons (.bl _) (.cons (.bl _) (.cons (.bl _) .nil))), .lst (SqL.of upd_same) (.cons (.bl _) (.cons (.bl _) (.cons (.bl _) .nil))), rfl, rfl, ?_⟩
      exact q _
end

/-! ### what the top has written -/
theorem all_mk {l : PySem.W.OpenLaw} {w : World} {K : PySem.W.Frag} {h : Heap} {mg : Str → Option Value} {fa : Addr} (X : K.In h) (G : h.Ns mainGlobals mg) (hfa : mg "law" = some (.ref fa))
    {f1 f2 f3 f4 f5 f6 f7 f8 f9 f10 f11 f12 f13 f14 : Addr} {od1 an1 od2 an2 od3 an3 od4 an4 od5 an5 od6 an6 od7 an7 od8 an8 od9 an9 od10 an10 od11 an11 od12 an12 od13 an13 od14 an14 : Option Addr} {sl1 sl2 sl3 sl4 sl5 sl6 sl7 sl8 sl9 sl10 sl11 sl12 sl13 sl14 : Array (Option Value)}
    {oc1 kV1 dc1 pm1 cd1 ct1 oc2 kV2 dc2 pm2 cd2 ct2 oc3 kV3 dc3 pm3 cd3 ct3 oc4 kV4 dc4 pm4 cd4 ct4 oc5 kV5 dc5 pm5 cd5 ct5 oc6 kV6 dc6 pm6 cd6 ct6 oc7 kV7 dc7 pm7 cd7 ct7 oc8 kV8 dc8 pm8 cd8 ct8 oc9 kV9 dc9 pm9 cd9 ct9 oc10 kV10 dc10 pm10 cd10 ct10 oc11 kV11 dc11 pm11 cd11 ct11 oc12 kV12 dc12 pm12 cd12 ct12 oc13 kV13 dc13 pm13 cd13 ct13 oc14 kV14 dc14 pm14 cd14 ct14 : Value} {t_ALPHABET t_MAX_LETTERS t_MAX_TEXT : Tok}
    (a1 : PySem.W.nsIn K mainGlobals "is_spelt" = some (some (.ref f1)))
    (l1 : K.lookup f1 = some ⟨oc1, od1, .func (PySem.W.fnOf "is_spelt" "is_spelt" (defArgs s_is_spelt) (defBody s_is_spelt) (defScope s_is_spelt) .none kV1 dc1 pm1 an1 cd1 ct1), sl1⟩)
    (c1 : PySem.W.codeIn K cd1 "is_spelt" = true) (k1 : PySem.W.keepIn K (.ref f1) = true)
    (a2 : PySem.W.nsIn K mainGlobals "is_name" = some (some (.ref f2)))
    (l2 : K.lookup f2 = some ⟨oc2, od2, .func (PySem.W.fnOf "is_name" "is_name" (defArgs s_is_name) (defBody s_is_name) (defScope s_is_name) .none kV2 dc2 pm2 an2 cd2 ct2), sl2⟩)
    (c2 : PySem.W.codeIn K cd2 "is_name" = true) (k2 : PySem.W.keepIn K (.ref f2) = true)
    (a3 : PySem.W.nsIn K mainGlobals "is_letter" = some (some (.ref f3)))
    (l3 : K.lookup f3 = some ⟨oc3, od3, .func (PySem.W.fnOf "is_letter" "is_letter" (defArgs s_is_letter) (defBody s_is_letter) (defScope s_is_letter) .none kV3 dc3 pm3 an3 cd3 ct3), sl3⟩)
    (c3 : PySem.W.codeIn K cd3 "is_letter" = true) (k3 : PySem.W.keepIn K (.ref f3) = true)
    (a4 : PySem.W.nsIn K mainGlobals "is_text" = some (some (.ref f4)))
    (l4 : K.lookup f4 = some ⟨oc4, od4, .func (PySem.W.fnOf "is_text" "is_text" (defArgs s_is_text) (defBody s_is_text) (defScope s_is_text) .none kV4 dc4 pm4 an4 cd4 ct4), sl4⟩)
    (c4 : PySem.W.codeIn K cd4 "is_text" = true) (k4 : PySem.W.keepIn K (.ref f4) = true)
    (a5 : PySem.W.nsIn K mainGlobals "_law_dice" = some (some (.ref f5)))
    (l5 : K.lookup f5 = some ⟨oc5, od5, .func (PySem.W.fnOf "_law_dice" "_law_dice" (defArgs s_dice) (defBody s_dice) (defScope s_dice) .none kV5 dc5 pm5 an5 cd5 ct5), sl5⟩)
    (c5 : PySem.W.codeIn K cd5 "_law_dice" = true) (k5 : PySem.W.keepIn K (.ref f5) = true)
    (a6 : PySem.W.nsIn K mainGlobals "_law_roll" = some (some (.ref f6)))
    (l6 : K.lookup f6 = some ⟨oc6, od6, .func (PySem.W.fnOf "_law_roll" "_law_roll" (defArgs s_roll) (defBody s_roll) (defScope s_roll) .none kV6 dc6 pm6 an6 cd6 ct6), sl6⟩)
    (c6 : PySem.W.codeIn K cd6 "_law_roll" = true) (k6 : PySem.W.keepIn K (.ref f6) = true)
    (a7 : PySem.W.nsIn K mainGlobals "_law_pick" = some (some (.ref f7)))
    (l7 : K.lookup f7 = some ⟨oc7, od7, .func (PySem.W.fnOf "_law_pick" "_law_pick" (defArgs s_pick) (defBody s_pick) (defScope s_pick) .none kV7 dc7 pm7 an7 cd7 ct7), sl7⟩)
    (c7 : PySem.W.codeIn K cd7 "_law_pick" = true) (k7 : PySem.W.keepIn K (.ref f7) = true)
    (a8 : PySem.W.nsIn K mainGlobals "_law_texts" = some (some (.ref f8)))
    (l8 : K.lookup f8 = some ⟨oc8, od8, .func (PySem.W.fnOf "_law_texts" "_law_texts" (defArgs s_texts) (defBody s_texts) (defScope s_texts) .none kV8 dc8 pm8 an8 cd8 ct8), sl8⟩)
    (c8 : PySem.W.codeIn K cd8 "_law_texts" = true) (k8 : PySem.W.keepIn K (.ref f8) = true)
    (a9 : PySem.W.nsIn K mainGlobals "_law_longer" = some (some (.ref f9)))
    (l9 : K.lookup f9 = some ⟨oc9, od9, .func (PySem.W.fnOf "_law_longer" "_law_longer" (defArgs s_longer) (defBody s_longer) (defScope s_longer) .none kV9 dc9 pm9 an9 cd9 ct9), sl9⟩)
    (c9 : PySem.W.codeIn K cd9 "_law_longer" = true) (k9 : PySem.W.keepIn K (.ref f9) = true)
    (a10 : PySem.W.nsIn K mainGlobals "_law_signs" = some (some (.ref f10)))
    (l10 : K.lookup f10 = some ⟨oc10, od10, .func (PySem.W.fnOf "_law_signs" "_law_signs" (defArgs s_signs) (defBody s_signs) (defScope s_signs) .none kV10 dc10 pm10 an10 cd10 ct10), sl10⟩)
    (c10 : PySem.W.codeIn K cd10 "_law_signs" = true) (k10 : PySem.W.keepIn K (.ref f10) = true)
    (a11 : PySem.W.nsIn K mainGlobals "_law_told" = some (some (.ref f11)))
    (l11 : K.lookup f11 = some ⟨oc11, od11, .func (PySem.W.fnOf "_law_told" "_law_told" (defArgs s_told) (defBody s_told) (defScope s_told) .none kV11 dc11 pm11 an11 cd11 ct11), sl11⟩)
    (c11 : PySem.W.codeIn K cd11 "_law_told" = true) (k11 : PySem.W.keepIn K (.ref f11) = true)
    (a12 : PySem.W.nsIn K mainGlobals "_law_due" = some (some (.ref f12)))
    (l12 : K.lookup f12 = some ⟨oc12, od12, .func (PySem.W.fnOf "_law_due" "_law_due" (defArgs s_due) (defBody s_due) (defScope s_due) .none kV12 dc12 pm12 an12 cd12 ct12), sl12⟩)
    (c12 : PySem.W.codeIn K cd12 "_law_due" = true) (k12 : PySem.W.keepIn K (.ref f12) = true)
    (a13 : PySem.W.nsIn K mainGlobals "_law_long" = some (some (.ref f13)))
    (l13 : K.lookup f13 = some ⟨oc13, od13, .func (PySem.W.fnOf "_law_long" "_law_long" (defArgs s_long) (defBody s_long) (defScope s_long) .none kV13 dc13 pm13 an13 cd13 ct13), sl13⟩)
    (c13 : PySem.W.codeIn K cd13 "_law_long" = true) (k13 : PySem.W.keepIn K (.ref f13) = true)
    (a14 : PySem.W.nsIn K mainGlobals "law" = some (some (.ref f14)))
    (l14 : K.lookup f14 = some ⟨oc14, od14, .func (PySem.W.fnOf "law" "law" (defArgs s_law) (defBody s_law) (defScope s_law) .none kV14 dc14 pm14 an14 cd14 ct14), sl14⟩)
    (c14 : PySem.W.codeIn K cd14 "law" = true) (k14 : PySem.W.keepIn K (.ref f14) = true)
    (n_ALPHABET : PySem.W.nsIn K mainGlobals "ALPHABET" = some (some (.str "abcdefghijklmnopqrstuvwxyz" t_ALPHABET)))
    (n_MAX_LETTERS : PySem.W.nsIn K mainGlobals "MAX_LETTERS" = some (some (.int 8 t_MAX_LETTERS)))
    (n_MAX_TEXT : PySem.W.nsIn K mainGlobals "MAX_TEXT" = some (some (.int 100000 t_MAX_TEXT)))
    (z_abs : PySem.W.nsIn K mainGlobals "abs" = some none)
    (z_all : PySem.W.nsIn K mainGlobals "all" = some none)
    (z_int : PySem.W.nsIn K mainGlobals "int" = some none)
    (z_isinstance : PySem.W.nsIn K mainGlobals "isinstance" = some none)
    (z_len : PySem.W.nsIn K mainGlobals "len" = some none)
    (z_max : PySem.W.nsIn K mainGlobals "max" = some none)
    (z_min : PySem.W.nsIn K mainGlobals "min" = some none)
    (z_range : PySem.W.nsIn K mainGlobals "range" = some none)
    (z_repr : PySem.W.nsIn K mainGlobals "repr" = some none)
    (z_set : PySem.W.nsIn K mainGlobals "set" = some none)
    (z_sorted : PySem.W.nsIn K mainGlobals "sorted" = some none)
    (z_str : PySem.W.nsIn K mainGlobals "str" = some none) :
    ∃ fd : FuncData, (∀ (s : Shared) (v : Value), BindsTo s fd ⟨[v], []⟩ [("_law_script", v)]) ∧ ∀ base : Heap, K.In base → base.Ns mainGlobals mg →
      FnG l.prog w K mg base CX0 5 fa fd ["_law_script"] (spLaw K) := by
  have e := hfa.symm.trans (PySem.W.mg_of X G a14)
  cases e
  have F1 := fun_mk (st := s_is_spelt) l1 c1 k1
  have b1 := F1.binds (ps := P_is_spelt) fun _ _ _ _ _ _ us hl => match us, hl with | [_], _ => rfl
  have F2 := fun_mk (st := s_is_name) l2 c2 k2
  have b2 := F2.binds (ps := P_is_name) fun _ _ _ _ _ _ us hl => match us, hl with | [_], _ => rfl
  have F3 := fun_mk (st := s_is_letter) l3 c3 k3
  have b3 := F3.binds (ps := P_is_letter) fun _ _ _ _ _ _ us hl => match us, hl with | [_], _ => rfl
  have F4 := fun_mk (st := s_is_text) l4 c4 k4
  have b4 := F4.binds (ps := P_is_text) fun _ _ _ _ _ _ us hl => match us, hl with | [_], _ => rfl
  have F5 := fun_mk (st := s_dice) l5 c5 k5
  have b5 := F5.binds (ps := P_dice) fun _ _ _ _ _ _ us hl => match us, hl with | [_, _], _ => rfl
  have F6 := fun_mk (st := s_roll) l6 c6 k6
  have b6 := F6.binds (ps := P_roll) fun _ _ _ _ _ _ us hl => match us, hl with | [_, _], _ => rfl
  have F7 := fun_mk (st := s_pick) l7 c7 k7
  have b7 := F7.binds (ps := P_pick) fun _ _ _ _ _ _ us hl => match us, hl with | [_, _], _ => rfl
  have F8 := fun_mk (st := s_texts) l8 c8 k8
  have b8 := F8.binds (ps := P_texts) fun _ _ _ _ _ _ us hl => match us, hl with | [_, _], _ => rfl
  have F9 := fun_mk (st := s_longer) l9 c9 k9
  have b9 := F9.binds (ps := P_longer) fun _ _ _ _ _ _ us hl => match us, hl with | [_, _], _ => rfl
  have F10 := fun_mk (st := s_signs) l10 c10 k10
  have b10 := F10.binds (ps := P_signs) fun _ _ _ _ _ _ us hl => match us, hl with | [_], _ => rfl
  have F11 := fun_mk (st := s_told) l11 c11 k11
  have b11 := F11.binds (ps := P_told) fun _ _ _ _ _ _ us hl => match us, hl with | [_], _ => rfl
  have F12 := fun_mk (st := s_due) l12 c12 k12
  have b12 := F12.binds (ps := P_due) fun _ _ _ _ _ _ us hl => match us, hl with | [_], _ => rfl
  have F13 := fun_mk (st := s_long) l13 c13 k13
  have b13 := F13.binds (ps := P_long) fun _ _ _ _ _ _ us hl => match us, hl with | [_, _], _ => rfl
  have F14 := fun_mk (st := s_law) l14 c14 k14
  have b14 := F14.binds (ps := P_law) fun _ _ _ _ _ _ us hl => match us, hl with | [_], _ => rfl
  let Z : Ad := ⟨f1, PySem.W.fnOf "is_spelt" "is_spelt" (defArgs s_is_spelt) (defBody s_is_spelt) (defScope s_is_spelt) .none kV1 dc1 pm1 an1 cd1 ct1,
    f2, PySem.W.fnOf "is_name" "is_name" (defArgs s_is_name) (defBody s_is_name) (defScope s_is_name) .none kV2 dc2 pm2 an2 cd2 ct2,
    f3, PySem.W.fnOf "is_letter" "is_letter" (defArgs s_is_letter) (defBody s_is_letter) (defScope s_is_letter) .none kV3 dc3 pm3 an3 cd3 ct3,
    f4, PySem.W.fnOf "is_text" "is_text" (defArgs s_is_text) (defBody s_is_text) (defScope s_is_text) .none kV4 dc4 pm4 an4 cd4 ct4,
    f5, PySem.W.fnOf "_law_dice" "_law_dice" (defArgs s_dice) (defBody s_dice) (defScope s_dice) .none kV5 dc5 pm5 an5 cd5 ct5,
    f6, PySem.W.fnOf "_law_roll" "_law_roll" (defArgs s_roll) (defBody s_roll) (defScope s_roll) .none kV6 dc6 pm6 an6 cd6 ct6,
    f7, PySem.W.fnOf "_law_pick" "_law_pick" (defArgs s_pick) (defBody s_pick) (defScope s_pick) .none kV7 dc7 pm7 an7 cd7 ct7,
    f8, PySem.W.fnOf "_law_texts" "_law_texts" (defArgs s_texts) (defBody s_texts) (defScope s_texts) .none kV8 dc8 pm8 an8 cd8 ct8,
    f9, PySem.W.fnOf "_law_longer" "_law_longer" (defArgs s_longer) (defBody s_longer) (defScope s_longer) .none kV9 dc9 pm9 an9 cd9 ct9,
    f10, PySem.W.fnOf "_law_signs" "_law_signs" (defArgs s_signs) (defBody s_signs) (defScope s_signs) .none kV10 dc10 pm10 an10 cd10 ct10,
    f11, PySem.W.fnOf "_law_told" "_law_told" (defArgs s_told) (defBody s_told) (defScope s_told) .none kV11 dc11 pm11 an11 cd11 ct11,
    f12, PySem.W.fnOf "_law_due" "_law_due" (defArgs s_due) (defBody s_due) (defScope s_due) .none kV12 dc12 pm12 an12 cd12 ct12,
    f13, PySem.W.fnOf "_law_long" "_law_long" (defArgs s_long) (defBody s_long) (defScope s_long) .none kV13 dc13 pm13 an13 cd13 ct13,
    fa, PySem.W.fnOf "law" "law" (defArgs s_law) (defBody s_law) (defScope s_law) .none kV14 dc14 pm14 an14 cd14 ct14⟩
  have B : Bt mg := ⟨PySem.W.mg_none_of X G z_abs, PySem.W.mg_none_of X G z_all, PySem.W.mg_none_of X G z_int, PySem.W.mg_none_of X G z_isinstance, PySem.W.mg_none_of X G z_len, PySem.W.mg_none_of X G z_max, PySem.W.mg_none_of X G z_min, PySem.W.mg_none_of X G z_range, PySem.W.mg_none_of X G z_repr, PySem.W.mg_none_of X G z_set, PySem.W.mg_none_of X G z_sorted, PySem.W.mg_none_of X G z_str⟩
  have C0 : Cs mg := ⟨⟨_, PySem.W.mg_of X G n_ALPHABET⟩, ⟨_, PySem.W.mg_of X G n_MAX_LETTERS⟩, ⟨_, PySem.W.mg_of X G n_MAX_TEXT⟩⟩
  have D : Ds K mg Z := ⟨⟨F1, PySem.W.mg_of X G a1, b1⟩, ⟨F2, PySem.W.mg_of X G a2, b2⟩, ⟨F3, PySem.W.mg_of X G a3, b3⟩, ⟨F4, PySem.W.mg_of X G a4, b4⟩, ⟨F5, PySem.W.mg_of X G a5, b5⟩, ⟨F6, PySem.W.mg_of X G a6, b6⟩, ⟨F7, PySem.W.mg_of X G a7, b7⟩, ⟨F8, PySem.W.mg_of X G a8, b8⟩, ⟨F9, PySem.W.mg_of X G a9, b9⟩, ⟨F10, PySem.W.mg_of X G a10, b10⟩, ⟨F11, PySem.W.mg_of X G a11, b11⟩, ⟨F12, PySem.W.mg_of X G a12, b12⟩, ⟨F13, PySem.W.mg_of X G a13, b13⟩, ⟨F14, PySem.W.mg_of X G a14, b14⟩⟩
  exact ⟨_, fun s v => .of_eq rfl, fun base _ _ => ok_law (Z := Z) D B C0⟩
end K00
open PySem PySem.W PyProof.Rows in
set_option maxRecDepth 100000 in
set_option maxHeartbeats 0 in
theorem PySem.Challenge.cw_lastprices_k00_whole_words_of_few_signs_holds : PySem.Challenge.rw_lastprices_k00_whole_words_of_few_signs.Holds := by
  w_on; o_law; k_head; (case hw => w_witness2)
  k_fill
  refine LP.walk_ofG (l := PySem.Challenge.rw_lastprices_k00_whole_words_of_few_signs) (n := 63) (k := 5) (x := "_law_script") (sp := K00.spLaw) rfl (by decide) rfl ⟨rfl, by decide, by decide⟩ (fun w h Y => PySem.W.kIn_of Y) ?F (fun _ _ a ns hl _ hS => ⟨a, ns, rfl, hS, hl, fun _ => rfl⟩)
  case F =>
    intro w mg fa h KX G hmg
    refine' K00.all_mk KX G hmg ?a1 ?l1 ?c1 ?k1 ?a2 ?l2 ?c2 ?k2 ?a3 ?l3 ?c3 ?k3 ?a4 ?l4 ?c4 ?k4 ?a5 ?l5 ?c5 ?k5 ?a6 ?l6 ?c6 ?k6 ?a7 ?l7 ?c7 ?k7 ?a8 ?l8 ?c8 ?k8 ?a9 ?l9 ?c9 ?k9 ?a10 ?l10 ?c10 ?k10 ?a11 ?l11 ?c11 ?k11 ?a12 ?l12 ?c12 ?k12 ?a13 ?l13 ?c13 ?k13 ?a14 ?l14 ?c14 ?k14 ?n_ALPHABET ?n_MAX_LETTERS ?n_MAX_TEXT ?z_abs ?z_all ?z_int ?z_isinstance ?z_len ?z_max ?z_min ?z_range ?z_repr ?z_set ?z_sorted ?z_str
    (case a1 => k_is)
    (case l1 => k_is)
    (case c1 => k_is)
    (case k1 => k_is)
    (case a2 => k_is)
    (case l2 => k_is)
    (case c2 => k_is)
    (case k2 => k_is)
    (case a3 => k_is)
    (case l3 => k_is)
    (case c3 => k_is)
    (case k3 => k_is)
    (case a4 => k_is)
    (case l4 => k_is)
    (case c4 => k_is)
    (case k4 => k_is)
    (case a5 => k_is)
    (case l5 => k_is)
    (case c5 => k_is)
    (case k5 => k_is)
    (case a6 => k_is)
    (case l6 => k_is)
    (case c6 => k_is)
    (case k6 => k_is)
    (case a7 => k_is)
    (case l7 => k_is)
    (case c7 => k_is)
    (case k7 => k_is)
    (case a8 => k_is)
    (case l8 => k_is)
    (case c8 => k_is)
    (case k8 => k_is)
    (case a9 => k_is)
    (case l9 => k_is)
    (case c9 => k_is)
    (case k9 => k_is)
    (case a10 => k_is)
    (case l10 => k_is)
    (case c10 => k_is)
    (case k10 => k_is)
    (case a11 => k_is)
    (case l11 => k_is)
    (case c11 => k_is)
    (case k11 => k_is)
    (case a12 => k_is)
    (case l12 => k_is)
    (case c12 => k_is)
    (case k12 => k_is)
    (case a13 => k_is)
    (case l13 => k_is)
    (case c13 => k_is)
    (case k13 => k_is)
    (case a14 => k_is)
    (case l14 => k_is)
    (case c14 => k_is)
    (case k14 => k_is)
    (case n_ALPHABET => k_is)
    (case n_MAX_LETTERS => k_is)
    (case n_MAX_TEXT => k_is)
    (case z_abs => k_is)
    (case z_all => k_is)
    (case z_int => k_is)
    (case z_isinstance => k_is)
    (case z_len => k_is)
    (case z_max => k_is)
    (case z_min => k_is)
    (case z_range => k_is)
    (case z_repr => k_is)
    (case z_set => k_is)
    (case z_sorted => k_is)
    (case z_str => k_is)
#print axioms PySem.Challenge.cw_lastprices_k00_whole_words_of_few_signs_holds
