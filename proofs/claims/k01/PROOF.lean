import PyProof.Rows.All
import Wide.All
import OpenK.AllK
import Wide.FinOn
import HandS.ForMost
import HandS.IsInst
import HandS.Style
import HandS.StrMore
import HandS.Wide
import HandS.Zip
import HandS.Flow
import PySem.Challenge.RW_lastprices_k01_whole_integers_by_their_f
set_option Elab.async false
set_option linter.all false
set_option maxRecDepth 100000
set_option maxHeartbeats 4000000
/-! LPG: defs that run where no repr is under way (guards known empty), so that repr of data can be told. -/
namespace LP
open PySem PySem.Spec L2
open PyProof.Rows hiding St

/-- a def's promise, kept wherever no guarded call is under way -/
structure FnG (P : Program) (w : World) (K : PySem.W.Frag) (mg : Str → Option Value) (base : Heap) (CX : CXT)
    (k : Nat) (f : Addr) (fd : FuncData) (ps : List Str) (sp : Sp) : Prop where
  len : ∀ vs H Q E, sp vs H Q E → vs.length = ps.length
  go : ∀ (A : Around) (outer : List Env) (s : Shared) (H : Hp) (args : Args) (us : List Value) (vs : List V)
    (Q : VK) (E : XK), A.guards = some [] → Room k A → Env0 P w K mg base A outer s H →
    BindsTo s fd args (ps.zip us) → Vals vs us → sp vs H Q E →
    codeAny (model P w) A (.call (.ref f) args) (CR CX outer P w H s Q E) s

section
variable {P : Program} {w : World} {K : PySem.W.Frag} {mg : Str → Option Value} {base : Heap} {CX : CXT}
  {k : Nat} {f : Addr} {fd : FuncData} {ps : List Str} {sp : Sp}

theorem FnG.of (F : FnOk P w K mg base CX k f fd ps sp) : FnG P w K mg base CX k f fd ps sp :=
  ⟨F.len, fun A outer s H args us vs Q E _ hr e0 hb r h => F.run A outer s H args us vs Q E hr e0 hb r h⟩

theorem FnG.mono {j : Nat} (F : FnG P w K mg base CX j f fd ps sp) (h : j ≤ k) : FnG P w K mg base CX k f fd ps sp :=
  ⟨F.len, fun A outer s H args us vs Q E g hr e0 hb r h' => F.go A outer s H args us vs Q E g (hr.mono h) e0 hb r h'⟩
end

/-- a def's body, where no guarded call is under way -/
theorem fnG_of {CX : CXT} {P : Program} {w : World} {K : PySem.W.Frag} {mg : Str → Option Value} {base : Heap} {k : Nat}
    {f : Addr} {name qual : Str} {params : Arguments} {body : List Stmt} {scope : Scope} {dV kV doc pm cdv ct oc : Value}
    {an od : Option Addr} {osl : Array (Option Value)} {N ps : List Str} {sp : Sp}
    (lk : K.lookup f = some ⟨oc, od, .func (PySem.W.fnOf name qual params body scope dV kV doc pm an cdv ct), osl⟩)
    (hcd : PySem.W.codeIn K cdv qual = true) (S : FnScope N ps scope)
    (len : ∀ vs H Q E, sp vs H Q E → vs.length = ps.length)
    (hbody : ∀ (A : Around) (outer : List Env) (s : Shared) (H : Hp) (vs : List V) (Q : VK) (E : XK),
      A.guards = some [] → Room k (A.deeper (envOfC qual scope s.heap.objs.size f cdv)) → sp vs H Q E →
      ∃ t, PSs (cxOf CX P w K mg base N qual scope f cdv A outer s H E) body t ∧
        t { nx := fun _ H' => Q .non H', rt := Q } (start N vs) H) :
    FnG P w K mg base CX (k + 1) f (PySem.W.fnOf name qual params body scope dV kV doc pm an cdv ct) ps sp := by
  constructor
  · exact len
  intro A outer s H args us vs Q E gd hr e0 hb r hsp
  have hl := len _ _ _ _ hsp
  have KX : K.In s.heap := e0.mod.kin.keeps fun b o e => (e0.bs b o e).1
  have lim : s.heap.NoLimit := e0.mod.nolimit.keeps fun b o e => (e0.bs b o e).1
  have hk : ∀ y ∈ ps.zip us, scope.names.lookup y.1 = some .local ∨
      (scope.names.lookup y.1 = some .cell ∧
        ((cellsFrom (s.heap.objs.size + 1) scope.names []).lookup y.1).isSome = true) := by
    rintro ⟨n, v⟩ hy
    rcases S.par n (List.of_mem_zip hy).1 with q | q
    · exact .inl q
    · exact .inr ⟨q, PySem.W.cellsFrom_some _ _ _ (.inl q)⟩
  refine codeAny_call_function hr.depth (KX _ _ lk) rfl S.co S.gen rfl (PySem.W.codeRec_of KX hcd) ?_
  refine hb _ _ _ _ (wpAny_newFunctionEnv_cells S.kind hk ?_)
  intro env he s1 x
  subst he
  refine ⟨lim.keeps x.toInCall.keep, ?_⟩
  refine codeAny_func ?_
  obtain ⟨t, ht, hq⟩ := hbody A outer s H vs Q E gd (hr.deeper _) hsp
  have I := inv_start (CX := CX) (N := N) (E := E) S hr.hd e0 hl r x
  refine wpAny_mono (ht.run [] s1 (start N vs) H _ I hq) ?_ (fun e s' hs => hs)
  intro fl s' hs
  cases fl with
  | ret u =>
    obtain ⟨v, σ', H', J, rv, q⟩ := hs
    exact ⟨v, H', J.os, J.bare, J.base, J.hok, rv, q⟩
  | next =>
    obtain ⟨σ', H', J, q⟩ := hs
    exact ⟨V.non, H', J.os, J.bare, J.base, J.hok, rfl, q⟩
  | brk =>
    obtain ⟨_, _, _, q⟩ := hs
    exact q.elim
  | cont =>
    obtain ⟨_, _, _, q⟩ := hs
    exact q.elim

section
variable {P : Program} {w : World} {K : PySem.W.Frag} {mg : Str → Option Value} {base : Heap}
/-- the same for a def of the text that lets no exception out -/
theorem okG {x qual : Str} {st : Stmt} {f : Addr} {fd : FuncData} {N ps : List Str} {k : Nat} {sp : Sp}
    (F : Fun K x qual st f fd) (S : FnScope N ps (defScope st)) (len : ∀ vs H Q E, sp vs H Q E → vs.length = ps.length)
    (hbody : ∀ (cdv : Value) (A : Around) (outer : List Env) (s : Shared) (H : Hp) (vs : List V) (Q : VK) (E : XK),
      A.guards = some [] → Room k (A.deeper (envOfC qual (defScope st) s.heap.objs.size f cdv)) → sp vs H Q E →
      ∃ t, PSs (cxOf CX0 P w K mg base N qual (defScope st) f cdv A outer s H E).nox (defBody st) t ∧
        t { nx := fun _ H' => Q .non H', rt := Q } (start N vs) H) :
    FnG P w K mg base CX0 (k + 1) f fd ps sp := by
  obtain ⟨oc, od, kV, doc, pm, an, cdv, ct, osl, rfl, lk, hcd⟩ := F.ex
  refine fnG_of lk hcd S len ?_
  intro A outer s H vs Q E g hr hsp
  obtain ⟨t, h, q⟩ := hbody cdv A outer s H vs Q E g hr hsp
  exact ⟨t, h.nox, q⟩
end

section
variable {X : Cx} {CX : CXT} {k : Nat} {f C : Addr} {fd : FuncData} {ps : List Str} {sp : Sp} {dvs : List V}
  {ds : List Value} {E : XK} {x m : Str} {p pos apos : Pos} {e o : Expr} {es : List Expr} {ta : TE} {t : TA}

/-- such a callee runs -/
theorem run_fnG {pins : List (Addr × Obj)} {σ : St} {H : Hp} {s : Shared} {Q : VK} {us : List Value} {vs : List V}
    (F : FnG X.prog X.w X.K X.mg X.base CX k f fd ps sp) (gd : X.A.guards = some []) (hr : Room k X.A)
    (hb : Binds X.K fd ps ds) (hd : Vals dvs ds) (hx : Passes CX X E)
    (I : Inv X pins σ H s) (r : Vals vs us) (h : sp (vs ++ dvs) H Q E) :
    wpAny (model X.prog X.w) X.A (call (.ref f) us) (EP X pins σ Q) X.xe s := by
  have r2 : Vals (vs ++ dvs) (us ++ ds) := r.append hd
  have hl : (us ++ ds).length = ps.length := r2.length.symm.trans (F.len _ _ _ _ h)
  have run := F.go X.A X.stack s H ⟨us, []⟩ (us ++ ds) (vs ++ dvs) Q E gd hr I.env0 (hb s us I.kIn hl) r2 h
  refine wpAny_call (codeAny_mono run ?_)
  intro r s' hq
  cases r with
  | error e => exact hx pins σ H s e s' I hq
  | ok fl =>
    cases fl with
    | ret u => exact I.after hq
    | next => exact hq.elim
    | brk => exact hq.elim
    | cont => exact hq.elim

theorem pe_callG (F : FnG X.prog X.w X.K X.mg X.base CX k f fd ps sp) (gd : X.A.guards = some []) (hr : Room k X.A)
    (hg : Gl X x) (hm : X.mg x = some (.ref f)) (hk : PySem.W.keepIn X.K (.ref f) = true) (hb : Binds X.K fd ps ds)
    (hd : Vals dvs ds) (hx : Passes CX X E) (ha : PA X (e :: es) t)
    (hdb : (x == ("__debug__" : Str)) = false := by decide)
    (he : starEach (e :: es) X.env = (false, eval e X.env) :: starEach es X.env := by rfl)
    (hpl : (backTo pos (starEach es X.env)).any (·.1) = false := by rfl) :
    PE X (.Call (.Name x p) (e :: es) [] pos) (tCall sp dvs E t) := by
  constructor
  intro pins s σ H Q I h
  refine wpAny_Call_Name_kw (ld_glob I hg hm ?_ hdb)
  refine PySem.W.callWith_K (h₀ := X.base) I.ok.mod.kin hk (thn (ha.run pos pins s σ H _ I h) ?_) he hpl
  rintro us s1 ⟨vs, H1, I1, r, q⟩
  exact ⟨I1.kIn, run_fnG F gd hr hb hd hx I1 r q⟩

theorem pe_callG0 (F : FnG X.prog X.w X.K X.mg X.base CX k f fd ps sp) (gd : X.A.guards = some []) (hr : Room k X.A)
    (hg : Gl X x) (hm : X.mg x = some (.ref f)) (hk : PySem.W.keepIn X.K (.ref f) = true) (hb : Binds X.K fd ps ds)
    (hd : Vals dvs ds) (hx : Passes CX X E) (hdb : (x == ("__debug__" : Str)) = false := by decide) :
    PE X (.Call (.Name x p) [] [] pos) (tCall sp dvs E tNil) := by
  constructor
  intro pins s σ H Q I h
  refine wpAny_Call_Name_kw (ld_glob I hg hm ?_ hdb)
  exact PySem.W.callWith_K0 I.kIn hk (run_fnG (us := []) F gd hr hb hd hx I .nil h)

/-- what repr asks: data that is read, and its text -/
def rReprD (K : PySem.W.Frag) : List V → Hp → VK → Prop := fun xs H Q =>
  ∃ x d, xs = [x] ∧ Dp K H x d ∧ d.showable = true ∧ d.hasDict = false ∧ d.depth ≤ 60 ∧ d.shown.length ≤ sizeLine ∧
    Q (.str d.shown) H

theorem call_reprD (gd : X.A.guards = some []) (hu : X.A.units + 64 < cLine) : CallR X (.builtin "repr") (rReprD X.K) := by
  intro pins s σ H xs us Q I r h
  obtain ⟨x, d, rfl, hd, hs, hn, hz, hl, q⟩ := h
  obtain ⟨u, rfl, r1⟩ := vals1 r
  cases hd with
  | non =>
    cases (show u = Value.none from r1)
    exact PySem.P.repr_of_none ⟨.str _, H, I.tok _, ⟨_, rfl⟩, q⟩
  | bl b =>
    cases (show u = Value.bool b from r1)
    exact PySem.P.repr_of_bool ⟨.str _, H, I.tok _, ⟨_, rfl⟩, q⟩
  | int i =>
    obtain ⟨t, rfl⟩ := (show ∃ t, u = Value.int i t from r1)
    have hi : i.natAbs.log2 < 1920 := by simpa [PyData.showable] using hs
    exact PySem.P.repr_of_int hi ⟨.str _, H, I.tok _, ⟨_, rfl⟩, q⟩
  | str y =>
    obtain ⟨t, rfl⟩ := (show ∃ t, u = Value.str y t from r1)
    exact PySem.P.repr_of_str ⟨.str _, H, I.tok _, ⟨_, rfl⟩, q⟩ hl
  | @lst a ys ds h1 h2 =>
    have e0 : Dp X.K H (.ref a) (.list ds) := .lst h1 h2
    cases (show u = Value.ref a from r1)
    obtain ⟨as, rd⟩ := Dp.reads I _ _ _ e0 rfl
    refine repr_of_reads' rd hs (fun z => ?_) gd (by omega) (fun _ _ e => e) (fun h' v tk hk => ?_) hl
    · rw [hn] at z
      cases z
    · exact ⟨.str _, H, I.kept hk, ⟨_, rfl⟩, q⟩
  | @tup a ys ds h1 h2 =>
    have e0 : Dp X.K H (.ref a) (.tuple ds) := .tup h1 h2
    cases (show u = Value.ref a from r1)
    obtain ⟨as, rd⟩ := Dp.reads I _ _ _ e0 rfl
    refine repr_of_reads' rd hs (fun z => ?_) gd (by omega) (fun _ _ e => e) (fun h' v tk hk => ?_) hl
    · rw [hn] at z
      cases z
    · exact ⟨.str _, H, I.kept hk, ⟨_, rfl⟩, q⟩
end

/-- the law's call, of such a def -/
theorem law_callG {P : Program} {w : World} {K : PySem.W.Frag} {mg mb : Str → Option Value} {k : Nat} {fa a : Addr}
    {fd : FuncData} {x : Str} {sp : Sp} {s₁ : Shared} {vs : List Value} {ns : List Int}
    (KX : K.In s₁.heap) (hns : s₁.heap.Ns mainGlobals mg) (hb : s₁.heap.Ns builtinsNs mb)
    (hbb : ∀ x : Str, x ≠ "__name__" → mb x = bootBuiltins x) (hlim : s₁.heap.NoLimit) (hg : s₁.gens = #[])
    (ha : s₁.heap.get? a = some { cls := .type "list", data := .seq vs.toArray }) (hi : IntsAre vs ns)
    (hl : ns.length ≤ sizeLine) (hr : Room k callerA)
    (F : ∀ base : Heap, K.In base → base.Ns mainGlobals mg → FnG P w K mg base CX0 k fa fd [x] sp)
    (hbind : ∀ (s : Shared) (u : Value), BindsTo s fd ⟨[u], []⟩ [(x, u)])
    (hsp : ∀ H : Hp, Only H → SqL K H a (ns.map V.int) → sp [.ref a] H (fun v _ => v = .bl true) fun _ _ _ => False) :
    codeAny (model P w) callerA (.call (.ref fa) ⟨[.ref a], []⟩) (fun r s' => r = .ok (.ret (.bool true)) ∧
      OldK s₁.heap s'.heap ∧ s'.os = s₁.os ∧ AllBare s'.gens) s₁ := by
  have rv := vals_ints hi
  have lenV := hi.length
  have core : ∀ H : Hp, Only H → SqL K H a (ns.map V.int) → HOk P w H s₁.heap → (∀ b, H b ≠ none → b = a) →
      (H a ≠ none → K.lookup a = none) →
      codeAny (model P w) callerA (.call (.ref fa) ⟨[.ref a], []⟩) (fun r s' => r = .ok (.ret (.bool true)) ∧
        OldK s₁.heap s'.heap ∧ s'.os = s₁.os ∧ AllBare s'.gens) s₁ := by
    intro H hO hS hok hA hK
    have noA : ∀ {b : Addr} {o : Obj} {es : Array DictEntry} {ep : Nat}, s₁.heap.get? b = some o →
        o.data = .dict es ep → H b = none := by
      intro b o es ep e d
      by_cases q : H b = none
      · exact q
      · have e' := hA b q
        subst e'
        rw [ha] at e
        cases e
        cases (show Data.seq vs.toArray _ = Data.dict es ep from d)
    have nsK : ∀ {b : Addr} {m : Str → Option Value}, s₁.heap.Ns b m → (hidT s₁.heap H).Ns b m := by
      rintro b m ⟨o, es, ep, e, d, r⟩
      exact ⟨o, es, ep, hidT_get e (noA e d), d, r⟩
    have hKb : K.In (hidT s₁.heap H) := by
      intro b o e
      refine hidT_get (KX b o e) ?_
      by_cases q : H b = none
      · exact q
      · have e' := hA b q
        subst e'
        rw [hK q] at e
        cases e
    obtain ⟨mc, hc1, hc2⟩ := hlim
    have hM : Mod K mg (hidT s₁.heap H) := ⟨hKb, nsK hns, ⟨mb, nsK hb, hbb⟩, ⟨mc, nsK hc1, hc2⟩⟩
    have e0 : Env0 P w K mg (hidT s₁.heap H) callerA [] s₁ H :=
      ⟨rfl, hM, fun b o e => of_hidT e, Nat.le_of_eq (hidT_size _ _), trivial,
        fun b hb => absurd (show b ∈ ([] : List Addr) from hb) (by simp), hok, .of_eq hg⟩
    have G := F _ hKb (nsK hns)
    refine codeAny_mono (G.go callerA [] s₁ H ⟨[.ref a], []⟩ [.ref a] [.ref a] _ _ rfl hr e0 (hbind s₁ (.ref a))
      (.cons rfl .nil) (hsp H hO hS)) ?_
    intro r s' h
    cases r with
    | error e => exact h.elim
    | ok fl =>
      cases fl with
      | next => exact h.elim
      | brk => exact h.elim
      | cont => exact h.elim
      | ret u =>
        obtain ⟨v, H', os, bare, un, hok', r', q⟩ := h
        have q' : v = .bl true := q
        subst q'
        obtain rfl : u = Value.bool true := r'
        refine ⟨rfl, OldK.of_keep ?_, os, bare⟩
        intro b o e
        rcases hO b with z | ⟨ob, xs, z⟩
        · exact un.keep b o e z (fun y => absurd (show b ∈ ([] : List Addr) from y) (by simp)) (by simp)
        · obtain ⟨e1, _⟩ := hok b _ z
          obtain ⟨e2, _⟩ := hok' b _ (un.frzs b ob _ z)
          rw [e] at e1
          cases e1
          exact e2
  by_cases hk : K.lookup a = none
  · let O : Obj := { cls := .type "list", data := .seq vs.toArray }
    let HH : Hp := fun b => if b = a then some (.frz O (.lst (ns.map V.int))) else none
    have h1 : HH a = some (.frz O (.lst (ns.map V.int))) := if_pos rfl
    have h2 : ∀ b, b ≠ a → HH b = none := fun b hb => if_neg hb
    refine core HH ?_ (.inl (.inr ⟨O, h1⟩)) ?_ ?_ (fun _ => hk)
    · intro b
      by_cases hb : b = a
      · subst hb
        exact .inr ⟨_, _, h1⟩
      · exact .inl (h2 b hb)
    · intro b u z
      by_cases hb : b = a
      · subst hb
        rw [h1] at z
        cases z
        exact ⟨ha, by rw [List.length_map]; exact hl, vs, _, rv, ha⟩
      · rw [h2 b hb] at z
        cases z
    · intro b z
      by_cases hb : b = a
      · exact hb
      · exact absurd (h2 b hb) z
  · obtain ⟨o, ho⟩ := Option.ne_none_iff_exists'.mp hk
    have e := KX a o ho
    rw [ha] at e
    cases e
    refine core (fun _ => none) (fun _ => .inl rfl) (.inr ⟨_, vs.toArray, _, ho, rfl, rfl, rfl, ?_, ?_⟩) ?_ ?_ ?_
    · rw [List.size_toArray, lenV]
      exact hl
    · simpa using rv
    · intro b u z
      cases (show (none : Option HO) = some u from z)
    · intro b z
      exact absurd rfl z
    · intro z
      exact absurd rfl z

/-- the goal that the head leaves, from the law's promise -/
theorem walk_ofG {l : PySem.W.OpenLaw} {n k : Nat} {q : Program} {loose : List Str} {XP : (Str → Option Value) → Heap → Prop}
    {YP : World → Heap → Prop} {d : DefRec} {K : Params → PySem.W.Frag} {sp : PySem.W.Frag → Sp} {x : Str}
    (hn : l.most = some n) (hn2 : n ≤ sizeLine) (hdf : d.params.defaults = []) (hr : Room k callerA)
    (hY : ∀ (w : World) (h : Heap), YP w h → (K w.params).In h)
    (F : ∀ (w : World) (mg : Str → Option Value) (fa : Addr) (h : Heap), (K w.params).In h → h.Ns mainGlobals mg →
      mg d.name = some (.ref fa) → ∃ fd : FuncData, (∀ (s : Shared) (u : Value), BindsTo s fd ⟨[u], []⟩ [(x, u)]) ∧
        ∀ base : Heap, (K w.params).In base → base.Ns mainGlobals mg →
          FnG l.prog w (K w.params) mg base CX0 k fa fd [x] (sp (K w.params)))
    (hsp : ∀ (K : PySem.W.Frag) (H : Hp) (a : Addr) (ns : List Int), ns.length ≤ n → Only H → SqL K H a (ns.map V.int) →
      sp K [.ref a] H (fun v _ => v = .bl true) fun _ _ _ => False) :
    PySem.W.WalkO q loose XP YP l.row.toRowW d [] (fun f vs => PySem.call f vs) := by
  refine Att.attach_call hn hdf ?_
  intro w s₀ s₁ mg mb fa o pm cd doc a vs ns G Y ho hd hcd hmg hobj hints hlen hg
  have KX := hY w _ Y
  obtain ⟨fd, hb, hF⟩ := F w mg fa _ KX G.T.g hmg
  exact law_callG KX G.T.g G.T.b G.T.builtins G.T.nolimit hg hobj hints (Nat.le_trans hlen hn2) hr hF hb
    (fun H hO hS => hsp (K w.params) H a ns hlen hO hS)
end LP

set_option Elab.async false
set_option linter.all false
set_option maxRecDepth 100000
set_option maxHeartbeats 4000000
/-! LPC: defs of a linked text, calls of them, heaps. -/
namespace LP
open PySem PySem.Spec L2
open PyProof.Rows hiding St

/-- a def of the text: where it stands, its name, how its arguments bind -/
structure Df (K : PySem.W.Frag) (mg : Str → Option Value) (x : Str) (st : Stmt) (ps : List Str) (f : Addr) (fd : FuncData) : Prop where
  F : Fun K x x st f fd
  g : mg x = some (.ref f)
  b : Binds K fd ps []

section
variable {X : Cx} {k : Nat} {f : Addr} {fd : FuncData} {ps : List Str} {sp : Sp} {x : Str} {st : Stmt} {p pos : Pos}
  {e : Expr} {es : List Expr} {t : TA}
theorem pe_df (D : Df X.K X.mg x st ps f fd) (G : FnOk X.prog X.w X.K X.mg X.base CX0 k f fd ps sp) (hr : Room k X.A)
    (hg : Gl X x) (ha : PA X (e :: es) t) (hdb : (x == ("__debug__" : Str)) = false := by decide)
    (he : starEach (e :: es) X.env = (false, eval e X.env) :: starEach es X.env := by rfl)
    (hpl : (backTo pos (starEach es X.env)).any (·.1) = false := by rfl) :
    PE X (.Call (.Name x p) (e :: es) [] pos) (tCall sp [] E0 t) := pe_call G hr hg D.g D.F.kp D.b .nil pass0 ha hdb he hpl
theorem pe_df0 (D : Df X.K X.mg x st ps f fd) (G : FnOk X.prog X.w X.K X.mg X.base CX0 k f fd ps sp) (hr : Room k X.A)
    (hg : Gl X x) (hdb : (x == ("__debug__" : Str)) = false := by decide) :
    PE X (.Call (.Name x p) [] [] pos) (tCall sp [] E0 tNil) := pe_call0 G hr hg D.g D.F.kp D.b .nil pass0 hdb
theorem pe_dfG (D : Df X.K X.mg x st ps f fd) (G : FnG X.prog X.w X.K X.mg X.base CX0 k f fd ps sp)
    (gd : X.A.guards = some []) (hr : Room k X.A)
    (hg : Gl X x) (ha : PA X (e :: es) t) (hdb : (x == ("__debug__" : Str)) = false := by decide)
    (he : starEach (e :: es) X.env = (false, eval e X.env) :: starEach es X.env := by rfl)
    (hpl : (backTo pos (starEach es X.env)).any (·.1) = false := by rfl) :
    PE X (.Call (.Name x p) (e :: es) [] pos) (tCall sp [] E0 t) := pe_callG G gd hr hg D.g D.F.kp D.b .nil pass0 ha hdb he hpl
end

/-! ### heaps -/
theorem upd_none {H : Hp} {a b : Addr} {o : HO} : upd H a o b = none ↔ b ≠ a ∧ H b = none := by
  unfold upd
  by_cases h : b = a <;> simp [h]
theorem upd_at {H : Hp} {a b : Addr} {o : HO} : upd H a o b = if b = a then some o else H b := rfl
theorem Same.new {H : Hp} {p : Addr} {o : HO} (h : H p = none) : Same H (upd H p o) := fun b u e => by
  rw [upd_ne (ne_of_none e h)]
  exact e
theorem Same.tup {K : PySem.W.Frag} {H H' : Hp} {a : Addr} {xs : List V} (e : Same H H') (h : SqT K H a xs) : SqT K H' a xs := by
  rcases h with (h | ⟨o, h⟩) | h
  · exact .inl (.inl (e _ _ h))
  · exact .inl (.inr ⟨o, e _ _ h⟩)
  · exact .inr h

/-! ### values that can be asked for their class -/
/-- the built-in class of a plain value -/
inductive Pl (K : PySem.W.Frag) (H : Hp) : V → String → Prop
  | non : Pl K H .non "NoneType"
  | bl (b : Bool) : Pl K H (.bl b) "bool"
  | int (i : Int) : Pl K H (.int i) "int"
  | str (x : Str) : Pl K H (.str x) "str"
  | lst {a : Addr} {xs : List V} (h : H a = some (.lst xs)) : Pl K H (.ref a) "list"
  | tup {a : Addr} {xs : List V} (h : H a = some (.tup xs)) : Pl K H (.ref a) "tuple"
  | dct {a : Addr} {xs : List (Key × V)} (h : H a = some (.dK xs)) : Pl K H (.ref a) "dict"
theorem Pl.ty {K : PySem.W.Frag} {H : Hp} {v : V} {t : String} (h : Pl K H v t) : TyX K H v (.type t) := by
  cases h with
  | non => exact .base .non
  | bl b => exact .base (.bl b)
  | int i => exact .base (.int i)
  | str x => exact .base (.str x)
  | lst h => exact .base (.lst h)
  | tup h => exact .base (.tup h)
  | dct h => exact .base (.dK h)
theorem Pl.same {K : PySem.W.Frag} {H H' : Hp} {v : V} {t : String} (e : Same H H') (h : Pl K H v t) : Pl K H' v t := by
  cases h with
  | non => exact .non
  | bl b => exact .bl b
  | int i => exact .int i
  | str x => exact .str x
  | lst h => exact .lst (e _ _ h)
  | tup h => exact .tup (e _ _ h)
  | dct h => exact .dct (e _ _ h)
/-- isinstance of a plain value, told -/
def isiB (t c : String) : Bool := (t == c) || (t == "bool" && c == "int")
theorem isi_int {K : PySem.W.Frag} {H : Hp} {v : V} {t : String} (h : Pl K H v t) : PySem.W.kitOne K (.type t) (.type "int") = some (isiB t "int") := by
  refine kit_ty ?_
  cases h <;> decide +kernel
theorem isi_bool {K : PySem.W.Frag} {H : Hp} {v : V} {t : String} (h : Pl K H v t) : PySem.W.kitOne K (.type t) (.type "bool") = some (isiB t "bool") := by
  refine kit_ty ?_
  cases h <;> decide +kernel
theorem isi_str {K : PySem.W.Frag} {H : Hp} {v : V} {t : String} (h : Pl K H v t) : PySem.W.kitOne K (.type t) (.type "str") = some (isiB t "str") := by
  refine kit_ty ?_
  cases h <;> decide +kernel
theorem isi_tuple {K : PySem.W.Frag} {H : Hp} {v : V} {t : String} (h : Pl K H v t) : PySem.W.kitOne K (.type t) (.type "tuple") = some (isiB t "tuple") := by
  refine kit_ty ?_
  cases h <;> decide +kernel
theorem isi_dict {K : PySem.W.Frag} {H : Hp} {v : V} {t : String} (h : Pl K H v t) : PySem.W.kitOne K (.type t) (.type "dict") = some (isiB t "dict") := by
  refine kit_ty ?_
  cases h <;> decide +kernel
theorem rd_isi {K : PySem.W.Frag} {H : Hp} {v : V} {t c : String} {Q : VK} (h : Pl K H v t) (k : PySem.W.kitOne K (.type t) (.type c) = some (isiB t c))
    (q : Q (.bl (isiB t c)) H) : rIsi K [v, .ty c] H Q := ⟨v, .ty c, .type t, .type c, _, rfl, .ty c, h.ty, k, q⟩

/-! ### readings that are told by what is tracked -/
section
variable {X : Cx}
theorem call_imp {f : Value} {r r' : List V → Hp → VK → Prop} (F : CallR X f r) (h : ∀ xs H Q, r' xs H Q → r xs H Q) : CallR X f r' :=
  fun pins s σ H xs us Q I rv q => F pins s σ H xs us Q I rv (h xs H Q q)
theorem op_imp {f : Value → Value → Sem Value} {r r' : R2} (F : OpR X f r) (h : ∀ x y H Q, r' x y H Q → r x y H Q) : OpR X f r' :=
  fun pins s σ H x y v u Q I rx ry q => F pins s σ H x y v u Q I rx ry (h x y H Q q)
theorem ix_imp {r r' : R2} (F : IxR X r) (h : ∀ x y H Q, r' x y H Q → r x y H Q) : IxR X r' :=
  fun va sl pins s σ H x y v u Q I rx ry q hs => F va sl pins s σ H x y v u Q I rx ry (h x y H Q q) hs
def rIxM : R2 := fun x y H Q => ∃ p xs i v, x = .ref p ∧ y = .int i ∧ H p = some (.lst xs) ∧ atI xs i = some v ∧ Q v H
theorem ix_M : IxR X rIxM := ix_imp ix_list fun x y H Q ⟨p, xs, i, v, h1, h2, h3, h4, q⟩ => ⟨p, xs, i, v, h1, h2, SqL.of h3, h4, q⟩
def rLenM : List V → Hp → VK → Prop := fun xs H Q => ∃ p ys, xs = [.ref p] ∧ H p = some (.lst ys) ∧ Q (.int (ys.length : Int)) H
theorem call_lenM : CallR X (.builtin "len") rLenM := call_imp call_len_seq fun xs H Q ⟨p, ys, h1, h2, q⟩ => ⟨p, ys, h1, .inl (SqL.of h2), q⟩
def rInt : List V → Hp → VK → Prop := fun xs H Q => ∃ i, xs = [.int i] ∧ Q (.int i) H
theorem call_intI : CallR X (.type "int") rInt := call_imp call_int1 fun xs H Q h => .inl h
def rIntB : List V → Hp → VK → Prop := fun xs H Q => ∃ k, xs = [.bl k] ∧ Q (.int (if k then 1 else 0)) H
theorem call_intB : CallR X (.type "int") rIntB := call_imp call_int1 fun xs H Q h => .inr h
end

theorem pe_imp {X : Cx} {e : Expr} {t t' : TE} (h : PE X e t) (i : ∀ σ H Q, t' σ H Q → t σ H Q) : PE X e t' :=
  ⟨fun pins s σ H Q I q => h.run pins s σ H Q I (i σ H Q q)⟩
/-- a method of a text, of a tracked list, of a tracked dict -/
def tSM (r : V → List V → Hp → VK → Prop) (to : TE) (t : TA) : TE := fun σ H Q => to σ H fun x H1 => ∃ a, x = .str a ∧ t σ H1 fun xs H2 => r x xs H2 Q
def tLM (r : V → List V → Hp → VK → Prop) (to : TE) (t : TA) : TE := fun σ H Q => to σ H fun x H1 => ∃ p ys, x = .ref p ∧ H1 p = some (.lst ys) ∧ t σ H1 fun xs H2 => r x xs H2 Q
section
variable {X : Cx} {o e : Expr} {es : List Expr} {to : TE} {t : TA} {name : Str} {apos cpos : Pos} {id : String} {r : V → List V → Hp → VK → Prop}
/-- a reading closed under what follows from what is wanted -/
def tUp (to : TE) : TE := fun σ H Q => ∃ Q1 : VK, to σ H Q1 ∧ ∀ v H1, Q1 v H1 → Q v H1
theorem pe_up (h : PE X o to) : PE X o (tUp to) := by
  constructor
  rintro pins s σ H Q I ⟨Q1, q1, i⟩
  refine thn (h.run pins s σ H Q1 I q1) ?_
  rintro v s1 ⟨x, H1, I1, r1, q⟩
  exact ⟨x, H1, I1, r1, i x H1 q⟩
theorem pe_sm (pa : PlainAttrs "str") (slot : Slot "str" name id) (hty : typeOf (.builtin id) = pure (.type "method_descriptor")) (hm : MtR X id r) (ho : PE X o to) (ha : PA X (e :: es) t)
    (hbase : attributeBase o name X.env (eval o X.env) = eval o X.env := by rfl)
    (hfew : ((backTo cpos (starEach (e :: es) X.env)).all (fun x => !x.1) && (backToKw cpos (keywordEach [] X.env)).all (fun x => x.1.isSome) &&
      decide ((e :: es).length + ([] : List Keyword).length + (if ([] : List Keyword).isEmpty then 0 else 1) < 30)) = true := by rfl)
    (hline : (apos.endLine == cpos.line) = true := by rfl) (hs : starEach (e :: es) X.env = (false, eval e X.env) :: starEach es X.env := by rfl)
    (hplain : (backTo cpos (starEach es X.env)).any (·.1) = false := by rfl) : PE X (.Call (.Attribute o name apos) (e :: es) [] cpos) (tSM r to t) := by
  refine pe_imp (pe_bm pa slot hty hm (pe_up ho) ha hbase hfew hline hs hplain) ?_
  intro σ H Q h
  refine ⟨_, h, ?_⟩
  rintro v H1 ⟨a, rfl, q⟩
  exact ⟨rfl, q⟩
theorem pe_lm (pa : PlainAttrs "list") (slot : Slot "list" name id) (hty : typeOf (.builtin id) = pure (.type "method_descriptor")) (hm : MtR X id r) (ho : PE X o to) (ha : PA X (e :: es) t)
    (hbase : attributeBase o name X.env (eval o X.env) = eval o X.env := by rfl)
    (hfew : ((backTo cpos (starEach (e :: es) X.env)).all (fun x => !x.1) && (backToKw cpos (keywordEach [] X.env)).all (fun x => x.1.isSome) &&
      decide ((e :: es).length + ([] : List Keyword).length + (if ([] : List Keyword).isEmpty then 0 else 1) < 30)) = true := by rfl)
    (hline : (apos.endLine == cpos.line) = true := by rfl) (hs : starEach (e :: es) X.env = (false, eval e X.env) :: starEach es X.env := by rfl)
    (hplain : (backTo cpos (starEach es X.env)).any (·.1) = false := by rfl) : PE X (.Call (.Attribute o name apos) (e :: es) [] cpos) (tLM r to t) := by
  refine pe_imp (pe_bm pa slot hty hm (pe_up ho) ha hbase hfew hline hs hplain) ?_
  intro σ H Q h
  refine ⟨_, h, ?_⟩
  rintro v H1 ⟨p, ys, rfl, hp, q⟩
  exact ⟨.inl ⟨rfl, ys, SqL.of hp⟩, q⟩
end
/-! ### the rest of a block, folded -/
def Later (u : TS) (D : Ends) (σ : St) (H : Hp) : Prop := u D σ H
theorem later {u : TS} {D : Ends} {σ : St} {H : Hp} (h : u D σ H) : Later u D σ H := h
theorem tSeq_eq (t u : TS) (D : Ends) (σ : St) (H : Hp) : tSeq t u D σ H = t { D with nx := Later u D } σ H := rfl
theorem tIfS_eq (c : TT) (t u : TS) (D : Ends) (σ : St) (H : Hp) :
  tIfS c t u D σ H = c σ H fun b H1 => if b = true then Later t D σ H1 else Later u D σ H1 := rfl
/-! ### loops -/
def Loop (J : It) (g : TG) (tb : TS) (D : Ends) (σ : St) (H1 : Hp) : Prop := ∃ W : Nat → Nat → St → Hp → Prop, (∃ m, W 0 m σ H1) ∧ ∀ i m σ H, W i m σ H →
  (J.stop i H ∧ D.nx σ H) ∨ (J.go i H ∧ ∃ N : St → Hp → Prop, (∀ σ' H', N σ' H' → ∃ m', m' < m ∧ W (i + 1) m' σ' H') ∧
    ∀ x H', J.yld i H x H' → g x σ H' fun σ2 H2 => tb { D with nx := N, ct := N, bk := D.nx } σ2 H2)
theorem tFor_eq (wi : TI) (g : TG) (tb : TS) (D : Ends) (σ : St) (H : Hp) : tFor wi g tb D σ H = wi σ H fun J H1 => Loop J g tb D σ H1 := rfl
theorem loop_range {n : Nat} {g : TG} {tb : TS} {D : Ends} {σ : St} {H : Hp} (Pv : Nat → St → Hp → Prop) (h0 : Pv 0 σ H)
    (hs : ∀ (i : Nat) (σ : St) (H : Hp), i < n → Pv i σ H → g (.int (i : Int)) σ H fun σ2 H2 => Later tb { D with nx := Pv (i + 1), ct := Pv (i + 1), bk := D.nx } σ2 H2)
    (hd : ∀ σ H, Pv n σ H → D.nx σ H) : Loop (Itr 0 n) g tb D σ H :=
  for_range (lo := 0) (n := n) Pv h0 (fun i σ H hi p => by rw [Int.zero_add]; exact hs i σ H hi p) hd
theorem loop_list {K : PySem.W.Frag} {a : Addr} {xs : List V} {g : TG} {tb : TS} {D : Ends} {σ : St} {H : Hp} (Pv : Nat → St → Hp → Prop) (h0 : Pv 0 σ H)
    (hl : ∀ i σ H, i ≤ xs.length → Pv i σ H → SqL K H a xs)
    (hs : ∀ (i : Nat) (x : V) (σ : St) (H : Hp), xs[i]? = some x → Pv i σ H → g x σ H fun σ2 H2 => Later tb { D with nx := Pv (i + 1), ct := Pv (i + 1), bk := D.nx } σ2 H2)
    (hd : ∀ σ H, Pv xs.length σ H → D.nx σ H) : Loop (Itl K a) g tb D σ H :=
  for_list (K := K) (a := a) (xs := xs) Pv h0 hl hs hd
/-- an invariant, folded -/
theorem inv_of {α : Type} (P : α → St → Hp → Prop) : ∃ Pv : α → St → Hp → Prop, ∀ i σ H, Pv i σ H ↔ P i σ H := ⟨P, fun _ _ _ => Iff.rfl⟩
def LcLoop (J : It) (g : TG) (tt : TT) (te : TE) (vs : List Nat) (σ : St) (H1 : Hp) (Q : VK) : Prop := ∀ D, H1 D = none → ∃ W : Nat → Nat → Hp → Prop, (∃ m, W 0 m (upd H1 D (.lst []))) ∧ ∀ i m H, W i m H →
  (J.stop i H ∧ Q (.ref D) H) ∨ (J.go i H ∧ ∃ Nx : Hp → Prop, (∀ H', Nx H' → ∃ m', m' < m ∧ W (i + 1) m' H') ∧ ∀ x H', J.yld i H x H' → g x (wipe σ vs) H' fun σ2 H2 => wipe σ2 vs = wipe σ vs ∧
    tt σ2 H2 fun b H3 => if b = true then te σ2 H3 fun y H4 => ∃ acc, H4 D = some (.lst acc) ∧ acc.length < sizeLine ∧ Nx (upd H4 D (.lst (acc ++ [y]))) else Nx H3)
theorem tLc_eq (wi : TI) (g : TG) (tt : TT) (te : TE) (vs : List Nat) (σ : St) (H : Hp) (Q : VK) : tLc wi g tt te vs σ H Q = wi σ H fun J H1 => LcLoop J g tt te vs σ H1 Q := rfl

theorem loop_zip {K : PySem.W.Frag} {a b : Addr} {xs ys : List V} {g : TG} {tb : TS} {D : Ends} {σ : St} {H : Hp} (hl : xs.length = ys.length) (Pv : Nat → St → Hp → Prop) (h0 : Pv 0 σ H)
    (hq : ∀ i σ H, Pv i σ H → SqL K H a xs ∧ SqL K H b ys)
    (hs : ∀ (i : Nat) (x y : V) (T : Addr) (σ : St) (H : Hp), xs[i]? = some x → ys[i]? = some y → Pv i σ H → H T = none →
      g (.ref T) σ (upd H T (.tup [x, y])) fun σ2 H2 => Later tb { D with nx := Pv (i + 1), ct := Pv (i + 1), bk := D.nx } σ2 H2)
    (hd : ∀ σ H, Pv xs.length σ H → D.nx σ H) : Loop (Itz K a b) g tb D σ H :=
  RZ.for_zipL (K := K) (a := a) (b := b) hl Pv h0 hq hs hd
/-- a comprehension whose test and element leave what is known -/
theorem lc_pure {K : PySem.W.Frag} {a : Addr} {xs : List V} {j : Nat} {tt : TT} {te : TE} {vs : List Nat} {σ : St} {H : Hp} {Q : VK} (hx : SqL K H a xs) (hz : xs.length ≤ 1000000) (f : V → Bool) (v : V → V)
    (hw : ∀ x, wipe ((wipe σ vs).set j (some x)) vs = wipe σ vs)
    (ht : ∀ x, x ∈ xs → ∀ H1, Same H H1 → ∀ R : Bool → Hp → Prop, (∀ H2, Same H1 H2 → R (f x) H2) → tt ((wipe σ vs).set j (some x)) H1 R)
    (he : ∀ x, x ∈ xs → f x = true → ∀ H1, Same H H1 → ∀ R : VK, (∀ H2, Same H1 H2 → R (v x) H2) → te ((wipe σ vs).set j (some x)) H1 R)
    (q : ∀ p H2, H p = none → Same H H2 → H2 p = some (.lst ((xs.filter f).map v)) → Q (.ref p) H2) : LcLoop (Itl K a) (gName j) tt te vs σ H Q := by
  intro D hD
  refine lc_list (K := K) (a := a) (xs := xs) (fun i H' => Same H H' ∧ H' D = some (.lst (((xs.take i).filter f).map v))) ⟨Same.new hD, upd_same⟩ (fun i H' _ p => p.1.seq hx) ?_ ?_
  · rintro i x H1 hi ⟨e1, d1⟩
    have hm : x ∈ xs := List.mem_of_getElem? hi
    have htk : xs.take (i + 1) = xs.take i ++ [x] := by rw [List.take_add_one, hi]; rfl
    refine ⟨hw x, ht x hm H1 e1 _ fun H2 e2 => ?_⟩
    cases hf : f x with
    | true =>
      show te _ H2 _
      refine he x hm hf H2 (e1.trans e2) _ fun H3 e3 => ?_
      refine ⟨_, e3 _ _ (e2 _ _ d1), ?_, ?_, ?_⟩
      · have h1 : (((xs.take i).filter f).map v).length ≤ xs.length := by
          rw [List.length_map]
          exact Nat.le_trans (List.length_filter_le _ _) (by rw [List.length_take]; omega)
        exact Nat.lt_of_le_of_lt (Nat.le_trans h1 hz) (by decide)
      · intro b o e
        rw [upd_ne (ne_of_none e hD)]
        exact e3 _ _ (e2 _ _ (e1 _ _ e))
      · rw [htk, upd_same, List.filter_append, List.map_append, List.filter_cons, if_pos hf]
        rfl
    | false =>
      show Same H H2 ∧ _
      refine ⟨e1.trans e2, ?_⟩
      rw [htk, List.filter_append, List.filter_cons, if_neg (by rw [hf]; decide), List.map_append]
      show H2 D = some (.lst (_ ++ []))
      rw [List.append_nil]
      exact e2 _ _ d1
  · rintro H1 ⟨e1, d1⟩
    rw [List.take_length] at d1
    exact q D H1 hD e1 d1

/-! ### repr of truths -/
def reprBB (a b : Bool) : Str := (PyData.list [.bool a, .bool b]).shown
theorem repr_bb {K : PySem.W.Frag} {H : Hp} {p : Addr} {a b : Bool} {Q : VK} (h : H p = some (.lst [.bl a, .bl b])) (q : Q (.str (reprBB a b)) H) : rReprD K [.ref p] H Q := by
  refine ⟨.ref p, .list [.bool a, .bool b], rfl, .lst (SqL.of h) (.cons (.bl a) (.cons (.bl b) .nil)), ?_, ?_, ?_, ?_, q⟩
  · cases a <;> cases b <;> decide
  · cases a <;> cases b <;> decide
  · cases a <;> cases b <;> decide
  · cases a <;> cases b <;> decide +kernel
theorem repr_b {K : PySem.W.Frag} {H : Hp} {a : Bool} {Q : VK} (q : Q (.str (PyData.bool a).shown) H) : rReprD K [.bl a] H Q := by
  refine ⟨.bl a, .bool a, rfl, .bl a, ?_, ?_, ?_, ?_, q⟩
  · cases a <;> decide
  · cases a <;> decide
  · cases a <;> decide
  · cases a <;> decide +kernel
theorem scal_str (x y : Str) : scal (.str x) (.str y) = true := rfl

theorem cx_K {CX : CXT} {P : Program} {w : World} {K : PySem.W.Frag} {mg : Str → Option Value} {base : Heap} {N : List Str} {qual : Str}
    {scope : Scope} {f : Addr} {cd : Value} {A : Around} {outer : List Env} {s : Shared} {H : Hp} {E : XK} :
    (cxOf CX P w K mg base N qual scope f cd A outer s H E).K = K := rfl
theorem atI0 {α : Type} (x : α) (r : List α) : atI (x :: r) 0 = some x := atI_nat (j := 0) rfl
theorem atI1 {α : Type} (x y : α) (r : List α) : atI (x :: y :: r) 1 = some y := atI_nat (j := 1) rfl
theorem atI2 {α : Type} (x y z : α) (r : List α) : atI (x :: y :: z :: r) 2 = some z := atI_nat (j := 2) rfl
theorem atI_of {α : Type} {xs : List α} {r : Int} (h0 : 0 ≤ r) (h : r.toNat < xs.length) : atI xs r = some xs[r.toNat] := by
  have e : atI xs ((r.toNat : Nat) : Int) = some xs[r.toNat] := atI_nat (List.getElem?_eq_getElem h)
  rw [Int.toNat_of_nonneg h0] at e
  exact e
theorem ixN30 : ixN 3 0 = some 0 := by decide
theorem ixN32 : ixN 3 2 = some 2 := by decide
end LP

set_option Elab.async false
set_option linter.all false
set_option maxRecDepth 100000
set_option maxHeartbeats 4000000
/-! LPT: texts of numbers, stripped texts (mathematics). -/
namespace LP
open PySem PySem.Spec L2
open PyProof.Rows hiding St
open PySem.Builtin.Str TL

theorem tl_ofString (s : String) : tl (Str.ofString s) = s.toList.map Char.toNat := by
  show (Str.ofString s).cps.toList = _
  rw [Str.ofString_eq_toList]
theorem tl_neg (m : Nat) : tl (Str.ofString (toString (Int.negSucc m))) = 45 :: numL (m + 1) := by
  rw [tl_ofString]
  have e : toString (Int.negSucc m) = "-" ++ Nat.repr (m + 1) := rfl
  rw [e, String.toList_append, List.map_append]
  have e2 : (Nat.repr (m + 1)).toList = Nat.toDigits 10 (m + 1) := Nat.toList_repr
  rw [e2]
  rfl
theorem tl_int (i : Int) : tl (Str.ofString (toString i)) = if i < 0 then 45 :: numL i.natAbs else numL i.natAbs := by
  cases i with
  | ofNat m =>
    rw [if_neg (by show ¬ (Int.ofNat m) < 0; simp)]
    exact tl_num m
  | negSucc m =>
    rw [if_pos (Int.negSucc_lt_zero m)]
    exact tl_neg m
theorem numL_le {n k : Nat} (hk : 0 < k) : (numL n).length ≤ k ↔ n < 10 ^ k := by
  unfold numL
  rw [List.length_map]
  exact Nat.length_toDigits_le_iff (by decide) hk
theorem len_tl' (x : Str) : x.length = (tl x).length := by
  show x.cps.size = x.cps.toList.length
  rw [Array.length_toList]
theorem getD_tl (x : Str) (k : Nat) : x.cps.getD k 0 = (tl x).getD k 0 := (getD_list x k).symm
theorem strSub_len (x : Str) (i j : Nat) (h1 : i ≤ j) (h2 : j ≤ x.length) : (strSub x i j).length = j - i := by
  show (x.cps.extract i j).size = j - i
  rw [Array.size_extract]
  have : j ≤ x.cps.size := h2
  omega
/-- what is stripped is empty just if all signs go -/
theorem strip_nil (x y : Str) : (Txt.stripChars x y).length = 0 ↔ ∀ c ∈ tl x, y.cps.contains c = true := by
  unfold Txt.stripChars
  rw [stripBy_eq]
  obtain ⟨a0, a1, a2⟩ := lo_facts y.cps.contains x
  obtain ⟨b0, b1, b2, b3⟩ := hi_facts y.cps.contains x _ a0
  rw [strSub_len _ _ _ b0 b1]
  have key : ∀ k, k < x.length → x.cps.getD k 0 ∈ tl x := by
    intro k hk
    rw [getD_tl]
    have hk' : k < (tl x).length := by rw [← len_tl']; exact hk
    rw [List.getD_eq_getElem?_getD, List.getElem?_eq_getElem hk']
    exact List.getElem_mem hk'
  constructor
  · intro h c hc
    obtain ⟨k, hk, e⟩ := List.mem_iff_getElem.mp hc
    have hkx : k < x.length := by rw [len_tl']; exact hk
    have e' : x.cps.getD k 0 = c := by
      rw [getD_tl, List.getD_eq_getElem?_getD, List.getElem?_eq_getElem hk]
      exact e
    rw [← e']
    by_cases hl : k < stripLo y.cps.contains true x
    · exact a1 k hl
    · exact b2 k (by omega) hkx
  · intro h
    rcases a2 with e | e
    · omega
    · by_cases hl : stripLo y.cps.contains true x < x.length
      · rw [h _ (key _ hl)] at e
        cases e
      · omega
/-- the figures of a number, its sign stripped -/
theorem len_let (i : Int) : (Txt.stripChars (Str.ofString (toString i)) "-").length = (numL i.natAbs).length := by
  have e := tl_int i
  generalize Str.ofString (toString i) = x at e
  unfold Txt.stripChars
  rw [stripBy_eq]
  obtain ⟨a0, a1, a2⟩ := lo_facts ((Str.ofString "-").cps.contains) x
  obtain ⟨b0, b1, b2, b3⟩ := hi_facts ((Str.ofString "-").cps.contains) x _ a0
  rw [strSub_len _ _ _ b0 b1]
  have hgo : ∀ c : Nat, (Str.ofString "-").cps.contains c = decide (c = 45) := by
    intro c
    have : (Str.ofString "-").cps = #[45] := by decide +kernel
    rw [this]
    by_cases h : c = 45
    · subst h; simp
    · simp [h]
  have hne := numL_ne i.natAbs
  have hpos : 0 < (numL i.natAbs).length := List.length_pos_iff.mpr hne
  have hdig : ∀ k, k < (numL i.natAbs).length → (numL i.natAbs).getD k 0 ≠ 45 := by
    intro k hk h
    rw [List.getD_eq_getElem?_getD, List.getElem?_eq_getElem hk] at h
    have hm : (numL i.natAbs)[k] ∈ numL i.natAbs := List.getElem_mem hk
    have h' : (numL i.natAbs)[k] = 45 := h
    rw [h'] at hm
    exact numL_free (.inl (by decide)) hm
  have hlen := len_tl' x
  by_cases hi : i < 0
  · rw [if_pos hi] at e
    rw [e, List.length_cons] at hlen
    have x0 : x.cps.getD 0 0 = 45 := by rw [getD_tl, e]; rfl
    have xs : ∀ k, x.cps.getD (k + 1) 0 = (numL i.natAbs).getD k 0 := by intro k; rw [getD_tl, e]; rfl
    have lo1 : stripLo ((Str.ofString "-").cps.contains) true x = 1 := by
      by_cases h0 : stripLo ((Str.ofString "-").cps.contains) true x = 0
      · rcases a2 with z | z
        · omega
        · rw [h0, x0, hgo] at z
          simp at z
      · by_cases h2 : 1 < stripLo ((Str.ofString "-").cps.contains) true x
        · have z := a1 1 h2
          rw [xs 0, hgo] at z
          exact absurd (of_decide_eq_true z) (hdig 0 hpos)
        · omega
    have hi1 : stripHi ((Str.ofString "-").cps.contains) true x (stripLo ((Str.ofString "-").cps.contains) true x) = x.length := by
      by_cases h0 : stripHi ((Str.ofString "-").cps.contains) true x (stripLo ((Str.ofString "-").cps.contains) true x) < x.length
      · have z := b2 (x.length - 1) (by omega) (by omega)
        have e3 : x.length - 1 = (numL i.natAbs).length - 1 + 1 := by omega
        rw [e3, xs, hgo] at z
        exact absurd (of_decide_eq_true z) (hdig _ (by omega))
      · omega
    rw [hi1, lo1]
    omega
  · rw [if_neg hi] at e
    rw [e] at hlen
    have xs : ∀ k, x.cps.getD k 0 = (numL i.natAbs).getD k 0 := by intro k; rw [getD_tl, e]
    have lo1 : stripLo ((Str.ofString "-").cps.contains) true x = 0 := by
      by_cases h0 : stripLo ((Str.ofString "-").cps.contains) true x = 0
      · exact h0
      · have z := a1 0 (by omega)
        rw [xs 0, hgo] at z
        exact absurd (of_decide_eq_true z) (hdig 0 hpos)
    have hi1 : stripHi ((Str.ofString "-").cps.contains) true x (stripLo ((Str.ofString "-").cps.contains) true x) = x.length := by
      by_cases h0 : stripHi ((Str.ofString "-").cps.contains) true x (stripLo ((Str.ofString "-").cps.contains) true x) < x.length
      · have z := b2 (x.length - 1) (by omega) (by omega)
        rw [xs, hgo] at z
        exact absurd (of_decide_eq_true z) (hdig _ (by omega))
      · omega
    rw [hi1, lo1]
    omega
/-- the first sign of a number -/
theorem head_int (i : Int) : ∃ c, atI (tl (Str.ofString (toString i))) 0 = some c ∧ (c = 45 ↔ i < 0) := by
  rw [tl_int i]
  by_cases hi : i < 0
  · rw [if_pos hi]
    exact ⟨45, atI0 _ _, by simp [hi]⟩
  · rw [if_neg hi]
    cases h : numL i.natAbs with
    | nil => exact absurd h (numL_ne _)
    | cons c r =>
      refine ⟨c, atI0 _ _, ?_⟩
      have : c ≠ 45 := by
        intro z
        have hm : c ∈ numL i.natAbs := by rw [h]; exact List.mem_cons_self
        rw [z] at hm
        exact numL_free (.inl (by decide)) hm
      simp [this, hi]
theorem log2_of {n : Nat} {k : Nat} (h : n < 2 ^ k) (hk : 0 < k) : n.log2 < k := PySem.Flt.log2_lt_of hk h
end LP

set_option Elab.async false
set_option linter.all false
set_option maxRecDepth 100000
set_option maxHeartbeats 4000000
namespace K01
open PySem PySem.Spec L2 LP
open PyProof.Rows hiding St
def top (i : Nat) : Stmt := PySem.Challenge.pw_lastprices_k01_whole_integers_by_their_f.main.body.getD i (.Pass ⟨0, 0, 0, 0⟩)
abbrev s_is_integer : Stmt := top 3
abbrev N_is_integer : List Str := ["value"]
abbrev P_is_integer : List Str := ["value"]
theorem sc_is_integer : FnScope N_is_integer P_is_integer (defScope s_is_integer) :=
  ⟨rfl, rfl, rfl, by decide +kernel, rfl, by decide +kernel, by decide +kernel⟩
abbrev s_is_count : Stmt := top 4
abbrev N_is_count : List Str := ["value"]
abbrev P_is_count : List Str := ["value"]
theorem sc_is_count : FnScope N_is_count P_is_count (defScope s_is_count) :=
  ⟨rfl, rfl, rfl, by decide +kernel, rfl, by decide +kernel, by decide +kernel⟩
abbrev s_dice : Stmt := top 6
abbrev N_dice : List Str := ["_law_script", "_law_spot", "_law_cell", "_law_great", "_law_left"]
abbrev P_dice : List Str := ["_law_script", "_law_spot"]
theorem sc_dice : FnScope N_dice P_dice (defScope s_dice) :=
  ⟨rfl, rfl, rfl, by decide +kernel, rfl, by decide +kernel, by decide +kernel⟩
abbrev s_roll : Stmt := top 7
abbrev N_roll : List Str := ["_law_dice_here", "_law_total", "_law_found", "_law_one", "_law_two"]
abbrev P_roll : List Str := ["_law_dice_here", "_law_total"]
theorem sc_roll : FnScope N_roll P_roll (defScope s_roll) :=
  ⟨rfl, rfl, rfl, by decide +kernel, rfl, by decide +kernel, by decide +kernel⟩
abbrev s_pick : Stmt := top 8
abbrev N_pick : List Str := ["_law_dice_here", "_law_items"]
abbrev P_pick : List Str := ["_law_dice_here", "_law_items"]
theorem sc_pick : FnScope N_pick P_pick (defScope s_pick) :=
  ⟨rfl, rfl, rfl, by decide +kernel, rfl, by decide +kernel, by decide +kernel⟩
abbrev s_numbers : Stmt := top 9
abbrev N_numbers : List Str := ["_law_dice_here", "_law_found", "_law_turn", "_law_size", "_law_step", "_law_number"]
abbrev P_numbers : List Str := ["_law_dice_here"]
theorem sc_numbers : FnScope N_numbers P_numbers (defScope s_numbers) :=
  ⟨rfl, rfl, rfl, by decide +kernel, rfl, by decide +kernel, by decide +kernel⟩
abbrev s_is_let : Stmt := top 10
abbrev N_is_let : List Str := ["_law_number"]
abbrev P_is_let : List Str := ["_law_number"]
theorem sc_is_let : FnScope N_is_let P_is_let (defScope s_is_let) :=
  ⟨rfl, rfl, rfl, by decide +kernel, rfl, by decide +kernel, by decide +kernel⟩
abbrev s_law : Stmt := top 11
abbrev N_law : List Str := ["_law_script", "_law_spot", "_law_numbers_here", "_law_number", "_law_due", "_law_counts", "_law_one", "_law_other", "_law_odd", "_law_value"]
abbrev P_law : List Str := ["_law_script"]
theorem sc_law : FnScope N_law P_law (defScope s_law) :=
  ⟨rfl, rfl, rfl, by decide +kernel, rfl, by decide +kernel, by decide +kernel⟩

structure Bt (mg : Str → Option Value) : Prop where
  abs : mg "abs" = none
  bool : mg "bool" = none
  int : mg "int" = none
  isinstance : mg "isinstance" = none
  len : mg "len" = none
  max : mg "max" = none
  min : mg "min" = none
  range : mg "range" = none
  repr : mg "repr" = none
  str : mg "str" = none
  zip : mg "zip" = none
structure Cs (mg : Str → Option Value) : Prop where
  LIMIT : ∃ t, mg "LIMIT" = some (.int (10 ^ 60) t)
  MAX_FIGURES : ∃ t, mg "MAX_FIGURES" = some (.int 60 t)
structure Ad where
  (a1 a2 a3 a4 a5 a6 a7 a8 : Addr)
  (d1 d2 d3 d4 d5 d6 d7 d8 : FuncData)
structure Ds (K : PySem.W.Frag) (mg : Str → Option Value) (Z : Ad) : Prop where
  is_integer : Df K mg "is_integer" s_is_integer P_is_integer Z.a1 Z.d1
  is_count : Df K mg "is_count" s_is_count P_is_count Z.a2 Z.d2
  dice : Df K mg "_law_dice" s_dice P_dice Z.a3 Z.d3
  roll : Df K mg "_law_roll" s_roll P_roll Z.a4 Z.d4
  pick : Df K mg "_law_pick" s_pick P_pick Z.a5 Z.d5
  numbers : Df K mg "_law_numbers" s_numbers P_numbers Z.a6 Z.d6
  is_let : Df K mg "_law_is_let" s_is_let P_is_let Z.a7 Z.d7

local macro_rules | `(tactic| walk_at "rd") => `(tactic| try simp only [cx_K, tRet, tSeq_eq, tAsg, tDrop, tIfS_eq, tNext, gName, gSub, tAndV, tOrV, tNotV, tB, tTest, tAnd, tOr, tNot, tIf, tCB, tCons, tNil, tVar, tC, tOp, tUn, tChain, rI0, rI, rU, tLst, tTup, tCall,
  tFor_eq, tLc_eq, iRng1, iList, iZip, tRevL, tDisp, tPairs, tYes, wipe, id, rNe, rEq, scal_str, rIxS, tSM, tLM, rIxM, rLenM, rCat, rInt, rIntB, rSetL, atI0, atI1, atI2, ixN30, ixN32, upd_same, upd_upd,
  L2.start, List.map_cons, List.map_nil, List.length_cons, List.length_nil, List.reduceReplicate, List.replicate_succ, List.replicate_zero, Nat.reduceAdd, Nat.reduceSub, List.nil_append, List.cons_append, List.append_nil,
  List.getElem?_cons_zero, List.getElem?_cons_succ, List.set_cons_zero, List.set_cons_succ, Int.zero_add,
  Option.some.injEq, HO.lst.injEq, V.int.injEq, V.bl.injEq, V.str.injEq, V.ref.injEq, reduceCtorEq, exists_eq_left, exists_eq_left', exists_eq_right, exists_eq', exists_eq, exists_and_left, true_and, and_true, false_and, and_assoc, exists_false, List.cons.injEq, *])
local macro_rules | `(tactic| walk_at "go") => `(tactic| (refine later ?_; walk_at "rd"))
theorem str_small {i : Int} (h : i.natAbs < 2 ^ 1000) : (Str.ofString (toString i)).length ≤ sizeLine := by
  have e := len_tl' (Str.ofString (toString i))
  rw [tl_int] at e
  have h1 : (TL.numL i.natAbs).length ≤ 1000 := (numL_le (by decide)).mpr (Nat.lt_of_lt_of_le h (Nat.pow_le_pow_left (by decide) 1000))
  have h2 : (Str.ofString (toString i)).length ≤ 1001 := by
    rw [e]
    split
    · rw [List.length_cons]; omega
    · omega
  exact Nat.le_trans h2 (by decide)
theorem cpow59 : CPow 10 59 := ⟨by decide, by decide, by decide⟩
theorem cpow17 : CPow 10 17 := ⟨by decide, by decide, by decide⟩
theorem cpow60 : CPow 10 60 := ⟨by decide, by decide, by decide⟩
theorem mul60 : CMulW (10 ^ Int.toNat 60) (10 ^ Int.toNat 60) := wide_mul (a := 200) (b := 200) (by decide) (by decide) (by decide) (by decide) (by decide)

local macro_rules | `(tactic| walk_at "cj") => `(tactic| repeat (refine And.intro (by first | assumption | exact cpow60 | exact cpow59 | exact cpow17 | exact mul60 | decide | exact .inl ⟨by decide, by decide⟩ | exact .inr ⟨by decide, by decide⟩ | omega | exact ⟨by decide, by decide⟩) ?_))
def isInt : V → Bool
  | .int i => decide (-10 ^ 60 < i) && decide (i < 10 ^ 60)
  | _ => false
def isCnt : V → Bool
  | .int i => (decide (-10 ^ 60 < i) && decide (i < 10 ^ 60)) && decide (0 ≤ i)
  | _ => false
def spIsInt (K : PySem.W.Frag) : Sp := fun vs H Q _ => ∃ v t, vs = [v] ∧ Pl K H v t ∧ Q (.bl (isInt v)) H
def spIsCnt (K : PySem.W.Frag) : Sp := fun vs H Q _ => ∃ v t, vs = [v] ∧ Pl K H v t ∧ Q (.bl (isCnt v)) H

section
variable {P : Program} {w : World} {K : PySem.W.Frag} {mg : Str → Option Value} {base : Heap} {Z : Ad}
theorem ok_is_integer (D : Ds K mg Z) (B : Bt mg) (C0 : Cs mg) : FnOk P w K mg base CX0 1 Z.a1 Z.d1 P_is_integer (spIsInt K) := by
  obtain ⟨⟨t1, c_LIMIT⟩, ⟨t2, c_MAX_FIGURES⟩⟩ := C0
  refine D.is_integer.F.ok sc_is_integer (fun vs H Q E h => ?_) (fun cdv A outer s H vs Q E hr h => ?_)
  · obtain ⟨v, t, rfl, _⟩ := h
    rfl
  · obtain ⟨v, t, rfl, pl, q⟩ := h
    
    refine ⟨_, (pss_one (ps_ret (pe_and (pe_callB call_isi (by rfl) B.isinstance (by decide +kernel) (pa_cons (pv 0) (pa_cons (pe_bltn (v := .ty "int") (by rfl) B.int (by decide +kernel) rfl) pa_nil))) (pe_and (pe_not (pe_callB call_isi (by rfl) B.isinstance (by decide +kernel) (pa_cons (pv 0) (pa_cons (pe_bltn (v := .ty "bool") (by rfl) B.bool (by decide +kernel) rfl) pa_nil)))) (pe_one (pe_chain op_lt op_lt (pe_un un_neg (pe_glob (v := .int _) (by rfl) c_LIMIT ⟨_, rfl⟩)) (pv 0) (pe_glob (v := .int _) (by rfl) c_LIMIT ⟨_, rfl⟩))))))), ?_⟩
    walk_at "rd"
    refine rd_isi pl (isi_int pl) ?_
    walk_at "rd"
    cases pl with
    | int i =>
      rw [if_pos (by decide)]
      refine rd_isi (K := K) (.int i) (isi_bool (K := K) (H := H) (.int i)) ?_
      walk_at "rd"
      rw [if_pos (by decide)]
      have e : isInt (.int i) = (decide (-10 ^ 60 < i) && decide (i < 10 ^ 60)) := rfl
      rw [e] at q
      refine ite2 (fun h => ?_) (fun h => ?_)
      · rw [h, Bool.true_and] at q
        exact q
      · rw [Bool.eq_false_iff.mpr h, Bool.false_and] at q
        exact q
    | bl b =>
      rw [if_pos (by decide)]
      refine rd_isi (K := K) (.bl b) (isi_bool (K := K) (H := H) (.bl b)) ?_
      walk_at "rd"
      rw [if_neg (by decide)]
      exact q
    | _ =>
      rw [if_neg (by decide)]
      exact q

theorem ok_is_count (D : Ds K mg Z) (B : Bt mg) (C0 : Cs mg) : FnOk P w K mg base CX0 2 Z.a2 Z.d2 P_is_count (spIsCnt K) := by
  have G_is_integer := ok_is_integer (P := P) (w := w) (base := base) D B C0
  refine D.is_count.F.ok sc_is_count (fun vs H Q E h => ?_) (fun cdv A outer s H vs Q E hr h => ?_)
  · obtain ⟨v, t, rfl, _⟩ := h
    rfl
  · obtain ⟨v, t, rfl, pl, q⟩ := h
    refine ⟨_, (pss_one (ps_ret (pe_and (pe_df D.is_integer G_is_integer (hr.mono (by decide)) (by rfl) (pa_cons (pv 0) pa_nil)) (pe_one (pe_cmpR op_ge (pv 0) pe_int (nomark _)))))), ?_⟩
    walk_at "rd"
    refine ⟨v, t, rfl, pl, ?_⟩
    walk_at "rd"
    cases v with
    | int i =>
      have e : isCnt (.int i) = (isInt (.int i) && decide (0 ≤ i)) := rfl
      rw [e] at q
      refine ite2 (fun h => ?_) (fun h => ?_)
      · rw [h, Bool.true_and] at q
        walk_at "rd"
      · rw [Bool.eq_false_iff.mpr h, Bool.false_and] at q
        exact q
    | _ => exact q

/-! ### dice -/
def spRoll : Sp := fun vs H Q _ => ∃ (d : Addr) (x y z n : Int), vs = [.ref d, .int n] ∧ H d = some (.lst [.int x, .int y, .int z]) ∧ 0 < n ∧ n.natAbs.log2 < 9000 ∧
  ∀ r x' y' z' : Int, 0 ≤ r → r < n → Q (.int r) (upd H d (.lst [.int x', .int y', .int z']))
theorem ok_roll (D : Ds K mg Z) (B : Bt mg) : FnOk P w K mg base CX0 1 Z.a4 Z.d4 P_roll spRoll := by
  refine D.roll.F.ok sc_roll (fun vs H Q E h => ?_) (fun cdv A outer s H vs Q E hr h => ?_)
  · obtain ⟨d, x, y, z, n, rfl, _⟩ := h
    rfl
  · obtain ⟨d, x, y, z, n, rfl, hd, hn, hlog, q⟩ := h
    refine ⟨_, (pss_cons (ps_if (pt_cmpR op_gt (pe_ix ix_M (pv 0) pe_int (fun _ _ => rfl)) pe_int (nomark _)) (pss_cons (ps_set (i := 2) sc_roll.nd rfl (Or.inl rfl) (pe_op op_mod (pe_callTy call_intI (by rfl) B.int (by decide +kernel) (pa_cons (pe_ix ix_M (pv 0) pe_int (fun _ _ => rfl)) pa_nil)) (pv 1)))
    (pss_cons (ps_asg (pe_op op_fdivW (pe_ix ix_M (pv 0) pe_int (fun _ _ => rfl)) (pv 1)) (pg_sub (pv 0) pe_int set_list))
    (pss_one (ps_ret (pv 2))))) pss_nil)
    (pss_cons (ps_asg (pe_op op_add (pe_ix ix_M (pv 0) pe_int (fun _ _ => rfl)) pe_int) (pg_sub (pv 0) pe_int set_list))
    (pss_cons (ps_set (i := 3) sc_roll.nd rfl (Or.inl rfl) (pe_op op_mod (pe_callTy call_intI (by rfl) B.int (by decide +kernel) (pa_cons (pe_op op_add (pe_ix ix_M (pv 0) pe_int (fun _ _ => rfl)) (pe_op op_mul pe_int (pe_ix ix_M (pv 0) pe_int (fun _ _ => rfl)))) pa_nil)) pe_int))
    (pss_cons (ps_set (i := 4) sc_roll.nd rfl (Or.inl rfl) (pe_op op_add (pe_op op_mul (pe_op op_mod (pe_callTy call_intI (by rfl) B.int (by decide +kernel) (pa_cons (pe_op op_add (pe_op op_mul (pv 3) (pv 3)) (pe_op op_mul pe_int (pe_ix ix_M (pv 0) pe_int (fun _ _ => rfl)))) pa_nil)) pe_int) pe_int) (pv 3)))
    (pss_one (ps_ret (pe_op op_mod (pe_callTy call_intI (by rfl) B.int (by decide +kernel) (pa_cons (pe_op op_fdivW (pv 4) pe_int) pa_nil)) (pv 1)))))))), ?_⟩
    walk_at "rd"
    have hdv : ∀ i : Int, CDivW i n := fun i => ⟨hn, hlog⟩
    have hm : ∀ i : Int, 0 ≤ i % n ∧ i % n < n := fun i => ⟨Int.emod_nonneg _ (by omega), Int.emod_lt_of_pos _ hn⟩
    refine ite2 (fun h => ?_) (fun h => ?_)
    · walk_at "go"
      walk_at "go"
      walk_at "go"
    · walk_at "go"
      walk_at "go"
      walk_at "go"
      refine ⟨.inl ⟨by decide, by decide⟩, by decide, ?_⟩
      have h1 := Int.emod_nonneg (y + 7907 * (z + 1)) (show (2305843009213693907 : Int) ≠ 0 by decide)
      have h2 := Int.emod_lt_of_pos (y + 7907 * (z + 1)) (show (0 : Int) < 2305843009213693907 by decide)
      generalize (y + 7907 * (z + 1)) % 2305843009213693907 = o at h1 h2 ⊢
      walk_at "go"
      have h3 := Int.emod_nonneg (o * o + 67 * (z + 1)) (show (2305843009213693921 : Int) ≠ 0 by decide)
      have h4 := Int.emod_lt_of_pos (o * o + 67 * (z + 1)) (show (0 : Int) < 2305843009213693921 by decide)
      refine ⟨.inl ⟨by omega, by omega⟩, .inl ⟨by decide, by decide⟩, by decide, .inr ⟨by decide, by decide⟩, ?_⟩
      walk_at "go"
      exact ⟨by decide, by decide⟩

def Items (H : Hp) (d : Addr) (it : V) (xs : List V) : Prop := (∃ l, it = .ref l ∧ l ≠ d ∧ H l = some (.lst xs)) ∨
  (∃ z : Str, it = .str z ∧ xs = z.cps.toList.map fun c => V.str ⟨#[c]⟩)
def spPick : Sp := fun vs H Q _ => ∃ (d : Addr) (x y z : Int) (it : V) (xs : List V), vs = [.ref d, it] ∧ H d = some (.lst [.int x, .int y, .int z]) ∧
  Items H d it xs ∧ 0 < xs.length ∧ xs.length ≤ 1000 ∧ ∀ v, v ∈ xs → ∀ x' y' z' : Int, Q v (upd H d (.lst [.int x', .int y', .int z']))
theorem ok_pick (D : Ds K mg Z) (B : Bt mg) : FnOk P w K mg base CX0 2 Z.a5 Z.d5 P_pick spPick := by
  have G_roll := ok_roll (P := P) (w := w) (base := base) D B
  refine D.pick.F.ok sc_pick (fun vs H Q E h => ?_) (fun cdv A outer s H vs Q E hr h => ?_)
  · obtain ⟨d, x, y, z, it, xs, rfl, _⟩ := h
    rfl
  · obtain ⟨d, x, y, z, it, xs, rfl, hd, hit, h0, h1, q⟩ := h
    refine ⟨_, (pss_one (ps_ret (pe_ix ix_seq (pv 1) (pe_df D.roll G_roll (hr.mono (by decide)) (by rfl) (pa_cons (pv 0) (pa_cons (pe_callB call_len (by rfl) B.len (by decide +kernel) (pa_cons (pv 1) pa_nil)) pa_nil))) (fun _ _ => rfl)))), ?_⟩
    have hlog : ((xs.length : Int)).natAbs.log2 < 9000 := Nat.lt_of_lt_of_le (log2_of (k := 10) (by omega) (by decide)) (by decide)
    have hat : ∀ r : Int, 0 ≤ r → r < (xs.length : Int) → ∃ v, v ∈ xs ∧ atI xs r = some v := by
      intro r r0 r1
      have hr' : r.toNat < xs.length := by omega
      refine ⟨xs[r.toNat], List.getElem_mem hr', ?_⟩
      exact L2.at_of (j := r.toNat) (by omega) (List.getElem?_eq_getElem hr')
    walk_at "rd"
    rcases hit with ⟨l, rfl, nl, hl⟩ | ⟨z', rfl, rfl⟩
    · refine ⟨xs.length, .inl ⟨xs, SqL.of hl, rfl⟩, ?_⟩
      refine ⟨d, x, y, z, _, rfl, hd, by omega, hlog, fun r x' y' z' r0 r1 => ?_⟩
      obtain ⟨v, hv, ha⟩ := hat r r0 r1
      exact .inl ⟨l, xs, r, v, rfl, rfl, SqL.of (by rw [upd_ne nl]; exact hl), ha, q v hv _ _ _⟩
    · rw [List.length_map] at h0 h1
      have ez : z'.length = z'.cps.toList.length := len_tl' z'
      have hz : z'.length ≤ sizeLine := Nat.le_trans (show z'.length ≤ 1000 by omega) (by decide)
      rw [List.length_map, ← ez] at hat hlog
      refine ⟨z'.length, ⟨hz, rfl⟩, ?_⟩
      refine ⟨d, x, y, z, _, rfl, hd, by omega, hlog, fun r x' y' w' r0 r1 => ?_⟩
      have hr' : r.toNat < z'.cps.toList.length := by omega
      have ha : atI z'.cps.toList r = some z'.cps.toList[r.toNat] := atI_of r0 hr'
      refine .inr (.inr ⟨z', r, z'.cps.toList[r.toNat], rfl, rfl, hz, ha, ?_⟩)
      exact q _ (List.mem_map.mpr ⟨_, List.getElem_mem hr', rfl⟩) _ _ _

def spDice (K : PySem.W.Frag) : Sp := fun vs H Q _ => ∃ (a : Addr) (ns : List Int) (i : Nat), vs = [.ref a, .int (i : Int)] ∧ SqL K H a (ns.map V.int) ∧
  ∀ (p : Addr) (x y : Int), H p = none → Q (.ref p) (upd H p (.lst [.int x, .int y, .int 0]))
theorem ok_dice (D : Ds K mg Z) (B : Bt mg) : FnOk P w K mg base CX0 1 Z.a3 Z.d3 P_dice (spDice K) := by
  refine D.dice.F.ok sc_dice (fun vs H Q E h => ?_) (fun cdv A outer s H vs Q E hr h => ?_)
  · obtain ⟨a, ns, i, rfl, _⟩ := h
    rfl
  · obtain ⟨a, ns, i, rfl, hS, q⟩ := h
    refine ⟨_, (pss_cons (ps_set (i := 2) sc_dice.nd rfl (Or.inl rfl) (pe_ifExp (pt_cmpR op_lt (pv 1) (pe_callB call_len_seq (by rfl) B.len (by decide +kernel) (pa_cons (pv 0) pa_nil)) (nomark _)) (pe_callTy call_intI (by rfl) B.int (by decide +kernel) (pa_cons (pe_ix ix_list (pv 0) (pv 1) (fun _ _ => rfl)) pa_nil)) (pe_op op_add (pe_op op_mul pe_int (pv 1)) pe_int)))
    (pss_cons (ps_set (i := 3) sc_dice.nd rfl (Or.inl rfl) (pe_op op_mod (pe_callB call_abs (by rfl) B.abs (by decide +kernel) (pa_cons (pv 2) pa_nil)) (pe_op op_pow pe_int pe_int)))
    (pss_cons (ps_set (i := 4) sc_dice.nd rfl (Or.inl rfl) (pe_callB (call_max2 rfl) (by rfl) B.max (by decide +kernel) (pa_cons pe_int (pa_cons (pe_op op_sub (pe_callB call_abs (by rfl) B.abs (by decide +kernel) (pa_cons (pv 2) pa_nil)) (pe_op op_pow pe_int pe_int)) pa_nil))))
    (pss_one (ps_ret (pe_lst (pa_cons (pe_op op_mod (pv 4) (pe_op op_mulW (pe_op op_pow pe_int pe_int) (pe_op op_pow pe_int pe_int))) (pa_cons (pe_op op_add (pe_op op_add (pe_op op_add (pe_op op_mul (pe_op op_mod (pv 3) pe_int) pe_int) (pe_op op_mul pe_int (pv 1))) (pe_op op_mul pe_int (pe_callTy call_intB (by rfl) B.int (by decide +kernel) (pa_cons (pe_cmpR op_lt (pv 2) pe_int (nomark _)) pa_nil)))) pe_int) (pa_cons pe_int pa_nil))))))))), ?_⟩
    walk_at "rd"
    refine ⟨_, .inl hS, ?_⟩
    rw [List.length_map]
    have cut : ∀ (A B : Prop) (c : Bool), (c = true → A) → (c = false → B) → if c = true then A else B := by
      intro A B c h1 h2
      cases c
      · exact h2 rfl
      · exact h1 rfl
    refine cut _ _ _ (fun h => ?_) (fun h => ?_)
    · have hi : i < ns.length := by have := of_decide_eq_true h; omega
      refine ⟨a, _, _, .int ns[i], rfl, rfl, hS, L2.at_of rfl (by rw [List.getElem?_map, List.getElem?_eq_getElem hi]; rfl), ?_⟩
      walk_at "rd"
      generalize ns[i] = c
      walk_at "go"
      refine ⟨cpow59, by decide, ?_⟩
      walk_at "go"
      refine ⟨cpow17, ?_⟩
      walk_at "go"
      walk_at "cj"
      exact fun p hp => q p _ _ hp
    · refine ⟨.inl ⟨by decide, by decide⟩, ?_⟩
      generalize 43 * (i : Int) + 7 = c
      walk_at "go"
      refine ⟨cpow59, by decide, ?_⟩
      walk_at "go"
      refine ⟨cpow17, ?_⟩
      walk_at "go"
      walk_at "cj"
      exact fun p hp => q p _ _ hp

/-! ### is_let -/
def isLet (i : Int) : Bool := decide (-10 ^ 60 < i) && decide (i < 10 ^ 60)
theorem let_eq (i : Int) : decide ((((Txt.stripChars (Str.ofString (toString i)) "-").length : Nat) : Int) < 61) = isLet i := by
  rw [len_let]
  have h := numL_le (n := i.natAbs) (k := 60) (by decide)
  unfold isLet
  rw [← Bool.decide_and]
  refine decide_eq_decide.mpr ?_
  have e : (10 : Int) ^ 60 = ((10 ^ 60 : Nat) : Int) := by decide
  rw [e]
  generalize (10 ^ 60 : Nat) = m at h
  omega
def spLet : Sp := fun vs H Q _ => ∃ i : Int, vs = [.int i] ∧ i.natAbs < 2 ^ 1000 ∧ Q (.bl (isLet i)) H
theorem ok_is_let (D : Ds K mg Z) (B : Bt mg) : FnOk P w K mg base CX0 1 Z.a7 Z.d7 P_is_let spLet := by
  refine D.is_let.F.ok sc_is_let (fun vs H Q E h => ?_) (fun cdv A outer s H vs Q E hr h => ?_)
  · obtain ⟨i, rfl, _⟩ := h
    rfl
  · obtain ⟨i, rfl, hi, q⟩ := h
    refine ⟨_, (pss_one (ps_ret (pe_cmpR op_lt (pe_callB call_len_str (by rfl) B.len (by decide +kernel) (pa_cons (pe_sm PySem.F.plainAttrs_str PySem.F.slot_str_strip PySem.F.type_str_strip mt_stripChars (pe_callTy call_str_int (by rfl) B.str (by decide +kernel) (pa_cons (pv 0) pa_nil)) (pa_cons pe_str pa_nil)) pa_nil)) pe_int (nomark _)))), ?_⟩
    have hlog : i.natAbs.log2 < 1920 := Nat.lt_of_lt_of_le (log2_of hi (by decide)) (by decide)
    walk_at "rd"
    refine ⟨str_small hi, Nat.le_trans (len_stripChars _ _) (str_small hi), ?_⟩
    rw [let_eq]
    exact q

/-! ### numbers -/
def Sm (n : Int) : Prop := n.natAbs < 10 ^ 100
theorem sm_of {n : Int} (h1 : -10 ^ 99 < n) (h2 : n < 10 ^ 99) : Sm n := by
  unfold Sm
  have e : ((10 : Int) ^ 99) = ((10 ^ 99 : Nat) : Int) := by decide
  rw [e] at h1 h2
  have e2 : (10 ^ 99 : Nat) < 10 ^ 100 := by decide
  generalize (10 ^ 99 : Nat) = a at *
  generalize (10 ^ 100 : Nat) = b at *
  omega
theorem pow_le {j : Nat} (h : j ≤ 89) : (10 : Int) ^ j ≤ 10 ^ 89 ∧ (1 : Int) ≤ 10 ^ j := by
  have h1 : (10 : Nat) ^ j ≤ 10 ^ 89 := Nat.pow_le_pow_right (by decide) h
  have h2 : 1 ≤ (10 : Nat) ^ j := Nat.one_le_pow _ _ (by decide)
  have e : ∀ k : Nat, ((10 : Int) ^ k) = ((10 ^ k : Nat) : Int) := fun k => by simp
  rw [e j, e 89]
  omega
/-- all but the dice is as it was -/
def DK (d : Addr) (H H' : Hp) : Prop := (∀ b o, b ≠ d → H b = some o → H' b = some o) ∧ ∃ x y z : Int, H' d = some (.lst [.int x, .int y, .int z])
def spNumbers : Sp := fun vs H Q _ => ∃ (d : Addr) (x y z : Int), vs = [.ref d] ∧ H d = some (.lst [.int x, .int y, .int z]) ∧
  ∀ (p : Addr) (ns : List Int) (H' : Hp), H p = none → H' p = some (.lst (ns.map V.int)) → DK d H H' → ns.length ≤ 25 → (∀ n, n ∈ ns → Sm n) → Q (.ref p) H'
theorem ok_numbers (D : Ds K mg Z) (B : Bt mg) : FnOk P w K mg base CX0 3 Z.a6 Z.d6 P_numbers spNumbers := by
  have G_roll := ok_roll (P := P) (w := w) (base := base) D B
  have G_pick := ok_pick (P := P) (w := w) (base := base) D B
  refine D.numbers.F.ok sc_numbers (fun vs H Q E h => ?_) (fun cdv A outer s H vs Q E hr h => ?_)
  · obtain ⟨d, x, y, z, rfl, _⟩ := h
    rfl
  · obtain ⟨d, x, y, z, rfl, hd, q⟩ := h
    refine ⟨_, (pss_cons (ps_set (i := 1) sc_numbers.nd rfl (Or.inl rfl) (pe_lst (pa_cons pe_int pa_nil)))
    (pss_cons (ps_for PassesOwn.never rfl (pi_range1 (by rfl) B.range (pa_cons pe_int pa_nil)) (pg_name (i := 2) sc_numbers.nd rfl (Or.inl rfl))
      (pss_cons (ps_set (i := 3) sc_numbers.nd rfl (Or.inl rfl) pe_int)
    (pss_cons (ps_for PassesOwn.never rfl (pi_range1 (by rfl) B.range (pa_cons (pe_df D.pick G_pick (hr.mono (by decide)) (by rfl) (pa_cons (pv 0) (pa_cons (pe_lst (pa_cons pe_int (pa_cons pe_int (pa_cons pe_int (pa_cons pe_int (pa_cons pe_int (pa_cons pe_int (pa_cons pe_int (pa_cons pe_int (pa_cons pe_int pa_nil)))))))))) pa_nil))) pa_nil)) (pg_name (i := 4) sc_numbers.nd rfl (Or.inl rfl))
      (pss_one (ps_set (i := 3) sc_numbers.nd rfl (Or.inl rfl) (pe_op op_mul (pv 3) pe_int))))
    (pss_cons (ps_set (i := 5) sc_numbers.nd rfl (Or.inl rfl) (pe_op op_sub (pe_op op_add (pv 3) (pe_df D.roll G_roll (hr.mono (by decide)) (by rfl) (pa_cons (pv 0) (pa_cons pe_int pa_nil)))) pe_int))
    (pss_one (ps_set (i := 1) sc_numbers.nd rfl (Or.inl rfl) (pe_op op_cat (pv 1) (pe_lst (pa_cons (pv 5) (pa_cons (pe_un un_neg (pv 5)) (pa_cons (pe_df D.roll G_roll (hr.mono (by decide)) (by rfl) (pa_cons (pv 0) (pa_cons (pv 3) pa_nil))) (pa_cons (pe_un un_neg (pe_df D.roll G_roll (hr.mono (by decide)) (by rfl) (pa_cons (pv 0) (pa_cons (pv 3) pa_nil)))) pa_nil))))))))))))
    (pss_one (ps_ret (pv 1))))), ?_⟩
    walk_at "rd"
    refine ⟨by decide, fun p hp => ?_⟩
    walk_at "go"
    refine ⟨by decide, by decide, ?_⟩
    obtain ⟨Pv, hP⟩ := inv_of (fun (i : Nat) (σ : St) (H' : Hp) => ∃ (p : Addr) (ns : List Int) (o2 o3 o4 o5 : Option V), σ = [some (.ref d), some (.ref p), o2, o3, o4, o5] ∧
      H p = none ∧ H' p = some (.lst (ns.map V.int)) ∧ DK d H H' ∧ ns.length = 1 + 4 * i ∧ ∀ n, n ∈ ns → Sm n)
    refine loop_range Pv ?_ ?_ ?_
    · refine (hP _ _ _).mpr ⟨p, [0], _, _, _, _, rfl, hp, upd_same, ⟨fun b o hb e => ?_, x, y, z, ?_⟩, rfl, ?_⟩
      · rw [upd_ne (ne_of_none e hp)]
        exact e
      · rw [upd_ne (ne_of_none hd hp)]
        exact hd
      · intro n hn
        rw [List.mem_singleton.mp hn]
        exact sm_of (by decide) (by decide)
    · intro i σ H1 hi hp1
      obtain ⟨p1, ns, o2, o3, o4, o5, rfl, hp0, hL, hK, hlen, hb⟩ := (hP _ _ _).mp hp1
      clear hp1
      obtain ⟨kk, x1, y1, z1, hd1⟩ := id hK
      have np1 : p1 ≠ d := fun e => by rw [e, hd] at hp0; cases hp0
      walk_at "rd"
      walk_at "go"
      walk_at "go"
      refine ⟨by decide, fun t ht => ?_⟩
      have ntd : t ≠ d := fun e => by rw [e, hd1] at ht; cases ht
      have ntp : p1 ≠ t := ne_of_none hL ht
      refine ⟨d, x1, y1, z1, .ref t, _, rfl, by rw [upd_ne ntd.symm]; exact hd1, .inl ⟨t, rfl, ntd, upd_same⟩, by decide, by decide, fun v hv x2 y2 z2 => ?_⟩
      obtain ⟨j, hj, rfl⟩ : ∃ j : Nat, j ≤ 89 ∧ v = .int (j : Int) := by
        simp only [List.mem_cons, List.not_mem_nil, or_false] at hv
        rcases hv with h | h | h | h | h | h | h | h | h <;> subst h
        · exact ⟨0, by decide, rfl⟩
        · exact ⟨1, by decide, rfl⟩
        · exact ⟨17, by decide, rfl⟩
        · exact ⟨58, by decide, rfl⟩
        · exact ⟨59, by decide, rfl⟩
        · exact ⟨60, by decide, rfl⟩
        · exact ⟨60, by decide, rfl⟩
        · exact ⟨61, by decide, rfl⟩
        · exact ⟨89, by decide, rfl⟩
      walk_at "rd"
      refine ⟨by omega, by omega, ?_⟩
      -- the heap behind the draw
      have hd2 : (upd (upd H1 t (.lst [V.int 0, V.int 1, V.int 17, V.int 58, V.int 59, V.int 60, V.int 60, V.int 61, V.int 89])) d (.lst [.int x2, .int y2, .int z2])) d = some (.lst [.int x2, .int y2, .int z2]) := upd_same
      have hL2 : (upd (upd H1 t (.lst [V.int 0, V.int 1, V.int 17, V.int 58, V.int 59, V.int 60, V.int 60, V.int 61, V.int 89])) d (.lst [.int x2, .int y2, .int z2])) p1 = some (.lst (ns.map V.int)) := by
        rw [upd_ne np1, upd_ne ntp]
        exact hL
      have kk2 : ∀ b o, b ≠ d → H b = some o → (upd (upd H1 t (.lst [V.int 0, V.int 1, V.int 17, V.int 58, V.int 59, V.int 60, V.int 60, V.int 61, V.int 89])) d (.lst [.int x2, .int y2, .int z2])) b = some o := by
        intro b o hbd e
        rw [upd_ne hbd, upd_ne (ne_of_none (kk b o hbd e) ht)]
        exact kk b o hbd e
      generalize upd (upd H1 t (.lst [V.int 0, V.int 1, V.int 17, V.int 58, V.int 59, V.int 60, V.int 60, V.int 61, V.int 89])) d (.lst [.int x2, .int y2, .int z2]) = H2 at hd2 hL2 kk2 ⊢
      obtain ⟨Pw, hW⟩ := inv_of (fun (m : Nat) (σ : St) (H' : Hp) => ∃ o4, σ = [some (.ref d), some (.ref p1), some (.int (i : Int)), some (.int (10 ^ m)), o4, o5] ∧ H' = H2)
      refine loop_range Pw ((hW _ _ _).mpr ⟨_, rfl, rfl⟩) ?_ ?_
      · intro m σ H3 hm hp1
        obtain ⟨o4', rfl, rfl⟩ := (hW _ _ _).mp hp1
        clear hp1
        walk_at "rd"
        walk_at "go"
        exact ⟨.inr ⟨by decide, by decide⟩, (Int.pow_succ _ _).symm⟩
      · intro σ H3 hp1
        obtain ⟨o4', rfl, rfl⟩ := (hW _ _ _).mp hp1
        clear hp1
        have hj2 : ((j : Int)).toNat = j := by omega
        rw [hj2]
        obtain ⟨u1, u2⟩ := pow_le hj
        have hlog : ((10 : Int) ^ j).natAbs.log2 < 9000 := by
          refine Nat.lt_of_lt_of_le (log2_of (k := 400) ?_ (by decide)) (by decide)
          have e : ((10 : Int) ^ 89) < 2 ^ 400 := by decide
          have e2 : ((2 : Int) ^ 400) = ((2 ^ 400 : Nat) : Int) := by decide
          rw [e2] at e
          generalize (2 ^ 400 : Nat) = b at *
          omega
        generalize (10 : Int) ^ j = s at *
        walk_at "go"
        walk_at "go"
        refine ⟨d, x2, y2, z2, 3, rfl, hd2, by decide, by decide, fun r x3 y3 z3 r0 r1 => ?_⟩
        walk_at "rd"
        walk_at "go"
        refine ⟨d, x3, y3, z3, s, rfl, upd_same, by omega, hlog, fun r2 x4 y4 z4 r20 r21 => ?_⟩
        walk_at "rd"
        refine ⟨d, x4, y4, z4, s, rfl, upd_same, by omega, hlog, fun r3 x5 y5 z5 r30 r31 => ?_⟩
        walk_at "rd"
        refine ⟨by decide, fun t1 ht1 => ⟨ns.map V.int, ?_, ?_, fun t2 ht2 => ?_⟩⟩
        · obtain ⟨n1, n2⟩ := upd_none.mp ht1
          rw [upd_ne (ne_of_none (by rw [upd_ne np1]; exact hL2) ht1), upd_ne np1]
          exact hL2
        · rw [List.length_map, hlen]
          exact Nat.le_trans (show 1 + 4 * i + 4 ≤ 100 by omega) (by decide)
        · obtain ⟨n1, n2⟩ := upd_none.mp ht1
          obtain ⟨m1, m2⟩ := upd_none.mp ht2
          obtain ⟨m3, m4⟩ := upd_none.mp m2
          have back : ∀ b o, b ≠ d → H b = some o → b ≠ t1 ∧ b ≠ t2 := fun b o hbd e =>
            ⟨ne_of_none (kk2 b o hbd e) n2, ne_of_none (kk2 b o hbd e) m4⟩
          refine ⟨?_, ns ++ [s + r - 1, -(s + r - 1), r2, -r3], ?_, ⟨fun b o hbd e => ?_, x5, y5, z5, ?_⟩, ?_, ?_⟩
          · cases e : H t2 with
            | none => rfl
            | some o => exact absurd rfl (back t2 o m3 e).2
          · rw [List.map_append]
            rfl
          · obtain ⟨k1, k2⟩ := back b o hbd e
            rw [upd_ne k2, upd_ne k1, upd_ne hbd]
            exact kk2 b o hbd e
          · rw [upd_ne m3.symm, upd_ne n1.symm, upd_same]
          · rw [List.length_append, hlen]
            show 1 + 4 * i + 4 = _
            omega
          · intro n hn
            have e89 : (10 : Int) ^ 89 + 2 < 10 ^ 99 := by decide
            generalize (10 : Int) ^ 89 = a at *
            have smx : ∀ n : Int, -(a + 2) ≤ n → n ≤ a + 2 → Sm n := fun n h1 h2 => sm_of (by omega) (by omega)
            rcases List.mem_append.mp hn with h | h
            · exact hb n h
            · simp only [List.mem_cons, List.not_mem_nil, or_false] at h
              rcases h with h | h | h | h <;> subst h
              · exact smx _ (by omega) (by omega)
              · exact smx _ (by omega) (by omega)
              · exact smx _ (by omega) (by omega)
              · exact smx _ (by omega) (by omega)
    · intro σ H1 hp1
      obtain ⟨p1, ns, o2, o3, o4, o5, rfl, hp0, hL, hK, hlen, hb⟩ := (hP _ _ _).mp hp1
      walk_at "go"
      walk_at "go"
      exact q _ ns _ hp0 hL hK (by rw [hlen]; decide) hb

/-! ### the law -/
def spLaw (K : PySem.W.Frag) : Sp := fun vs H Q _ => ∃ (a : Addr) (ns : List Int), vs = [.ref a] ∧ SqL K H a (ns.map V.int) ∧ ns.length ≤ 63 ∧ ∀ H', Q (.bl true) H'
theorem cnt_let (n : Int) : isCnt (.int n) = (isLet n && decide (0 ≤ n)) := rfl
theorem int_let (n : Int) : isInt (.int n) = isLet n := rfl
theorem Sm.k {n : Int} (h : Sm n) : n.natAbs < 2 ^ 1000 := Nat.lt_of_lt_of_le h (by decide)
theorem ok_law (D : Ds K mg Z) (B : Bt mg) (C0 : Cs mg) (L : Df K mg "law" s_law P_law Z.a8 Z.d8) : FnG P w K mg base CX0 4 Z.a8 Z.d8 P_law (spLaw K) := by
  have G_is_integer := ok_is_integer (P := P) (w := w) (base := base) D B C0
  have G_is_count := ok_is_count (P := P) (w := w) (base := base) D B C0
  have G_dice := ok_dice (P := P) (w := w) (base := base) D B
  have G_numbers := ok_numbers (P := P) (w := w) (base := base) D B
  have G_is_let := ok_is_let (P := P) (w := w) (base := base) D B
  obtain ⟨⟨t1, c_LIMIT⟩, ⟨t2, c_MAX_FIGURES⟩⟩ := C0
  refine okG L.F sc_law (fun vs H Q E h => ?_) (fun cdv A outer s H vs Q E gd hr h => ?_)
  · obtain ⟨a, ns, rfl, _⟩ := h
    rfl
  · obtain ⟨a, ns, rfl, hS, hlen, q⟩ := h
    refine ⟨_, (pss_cons (ps_for PassesOwn.never rfl (pi_range1 (by rfl) B.range (pa_cons (pe_callB (call_max2 rfl) (by rfl) B.max (by decide +kernel) (pa_cons pe_int (pa_cons (pe_callB (call_min2 rfl) (by rfl) B.min (by decide +kernel) (pa_cons pe_int (pa_cons (pe_callB call_len_seq (by rfl) B.len (by decide +kernel) (pa_cons (pv 0) pa_nil)) pa_nil))) pa_nil))) pa_nil)) (pg_name (i := 1) sc_law.nd rfl (Or.inl rfl))
      (pss_cons (ps_set (i := 2) sc_law.nd rfl (Or.inl rfl) (pe_df D.numbers G_numbers (hr.mono (by decide)) (by rfl) (pa_cons (pe_df D.dice G_dice (hr.mono (by decide)) (by rfl) (pa_cons (pv 0) (pa_cons (pv 1) pa_nil))) pa_nil)))
    (pss_cons (ps_for PassesOwn.never rfl (pi_list (pv 2)) (pg_name (i := 3) sc_law.nd rfl (Or.inl rfl))
      (pss_cons (ps_set (i := 4) sc_law.nd rfl (Or.inl rfl) (pe_lst (pa_cons (pe_df D.is_let G_is_let (hr.mono (by decide)) (by rfl) (pa_cons (pv 3) pa_nil)) (pa_cons (pe_and (pe_df D.is_let G_is_let (hr.mono (by decide)) (by rfl) (pa_cons (pv 3) pa_nil)) (pe_one (pe_cmpR op_ne (pe_ix ix_str (pe_callTy call_str_int (by rfl) B.str (by decide +kernel) (pa_cons (pv 3) pa_nil)) pe_int (fun _ _ => rfl)) pe_str (nomark _)))) pa_nil))))
    (pss_one (ps_if (pt_cmpR op_ne (pe_callB (call_reprD gd hr.units) (by rfl) B.repr (by decide +kernel) (pa_cons (pe_lst (pa_cons (pe_df D.is_integer G_is_integer (hr.mono (by decide)) (by rfl) (pa_cons (pv 3) pa_nil)) (pa_cons (pe_df D.is_count G_is_count (hr.mono (by decide)) (by rfl) (pa_cons (pv 3) pa_nil)) pa_nil))) pa_nil)) (pe_callB (call_reprD gd hr.units) (by rfl) B.repr (by decide +kernel) (pa_cons (pv 4) pa_nil)) (nomark _)) (pss_one (ps_ret pe_bl)) pss_nil))))
    (pss_cons (ps_setLc (i := 5) (own := [("_law_number", 3)]) (g := gName 3) rfl sc_law.nd rfl rfl (sw_true rfl rfl rfl (by decide +kernel)) (pi_list (pv 2)) (blkOk_by (N := N_law) (sc := defScope s_law) (by decide +kernel)) (fun _ _ _ _ _ => (pg_name (i := 3) sc_law.nd rfl (Or.inl rfl))) (fun _ _ _ _ _ => (pts_one (pt_val (pe_df D.is_count G_is_count (hr.mono (by decide)) (by rfl) (pa_cons (pv 3) pa_nil))))) (fun _ _ _ _ _ => (pv 3)))
    (pss_one (ps_for PassesOwn.never rfl (pi_zip (by rfl) B.zip (pa_cons (pv 5) (pa_cons (pe_revL (pv 5)) pa_nil))) (pg_tup rfl (pgs_cons (pg_name (i := 6) sc_law.nd rfl (Or.inl rfl)) (pgs_cons (pg_name (i := 7) sc_law.nd rfl (Or.inl rfl)) pgs_nil)))
      (pss_one (ps_if (pt_cmpR op_ne (pe_callB (call_reprD gd hr.units) (by rfl) B.repr (by decide +kernel) (pa_cons (pe_df D.is_count G_is_count (hr.mono (by decide)) (by rfl) (pa_cons (pe_op op_add (pv 6) (pv 7)) pa_nil)) pa_nil)) (pe_callB (call_reprD gd hr.units) (by rfl) B.repr (by decide +kernel) (pa_cons (pe_df D.is_let G_is_let (hr.mono (by decide)) (by rfl) (pa_cons (pe_op op_add (pv 6) (pv 7)) pa_nil)) pa_nil)) (nomark _)) (pss_one (ps_ret pe_bl)) pss_nil))))))))
    (pss_cons (ps_set (i := 8) sc_law.nd rfl (Or.inl rfl) (pe_lst (pa_cons pe_non (pa_cons pe_bl (pa_cons pe_bl (pa_cons pe_str (pa_cons pe_str (pa_cons pe_str (pa_cons (pe_tup (pa_cons pe_int pa_nil)) (pa_cons (pe_lst (pa_cons pe_int pa_nil)) (pa_cons (pe_disp (pps_cons pe_int pe_int pps_nil) (by rfl) (by rfl) (fun z => by cases z) (by decide)) (pa_cons (pe_tup (pa_cons (pe_tup pa_nil) pa_nil)) pa_nil))))))))))))
    (pss_one (ps_ret (pe_and (pe_cmpR op_eq (pe_glob (v := .int _) (by rfl) c_MAX_FIGURES ⟨_, rfl⟩) pe_int (nomark _)) (pe_one (pe_cmpR (op_eqD hr.units) (pe_lc (own := [("_law_value", 9)]) (g := gName 9) rfl sc_law.nd (pi_list (pv 8)) (blkOk_by (N := N_law) (sc := defScope s_law) (by decide +kernel)) (fun _ _ _ _ _ => (pg_name (i := 9) sc_law.nd rfl (Or.inl rfl))) (fun _ _ _ _ _ => (pts_one (PW.pt (pw_or (pt_val (pe_df D.is_integer G_is_integer (hr.mono (by decide)) (by rfl) (pa_cons (pv 9) pa_nil))) (pw_or1 (pt_val (pe_df D.is_count G_is_count (hr.mono (by decide)) (by rfl) (pa_cons (pv 9) pa_nil)))))))) (fun _ _ _ _ _ => (pv 9))) (pe_lst pa_nil) (nomark _)))))))), ?_⟩
    walk_at "rd"
    refine ⟨_, .inl hS, ?_⟩
    have hm : ∀ k : Nat, (1 : Int) ≤ (if (if (k : Int) < 4 then (k : Int) else 4) > 1 then if (k : Int) < 4 then (k : Int) else 4 else 1) ∧ (if (if (k : Int) < 4 then (k : Int) else 4) > 1 then if (k : Int) < 4 then (k : Int) else 4 else 1) ≤ 4 := by
      intro k
      split <;> split <;> omega
    obtain ⟨m0, m1⟩ := hm (ns.map V.int).length
    generalize (if (if ((ns.map V.int).length : Int) < 4 then ((ns.map V.int).length : Int) else 4) > 1 then if ((ns.map V.int).length : Int) < 4 then ((ns.map V.int).length : Int) else 4 else 1) = m at m0 m1 ⊢
    refine ⟨by omega, by omega, ?_⟩
    obtain ⟨Pv, hP⟩ := inv_of (fun (i : Nat) (σ : St) (H' : Hp) => ∃ (o1 o2 o3 o4 o5 o6 o7 o8 o9 : Option V), σ = [some (.ref a), o1, o2, o3, o4, o5, o6, o7, o8, o9] ∧ Same H H')
    refine loop_range Pv ((hP _ _ _).mpr ⟨_, _, _, _, _, _, _, _, _, rfl, Same.refl H⟩) ?_ ?_
    · intro i σ H1 hi hp
      obtain ⟨o1, o2, o3, o4, o5, o6, o7, o8, o9, rfl, e1⟩ := (hP _ _ _).mp hp
      clear hp
      walk_at "rd"
      walk_at "go"
      refine ⟨a, ns, i, rfl, e1.seq hS, fun d x y hd => ?_⟩
      walk_at "rd"
      refine ⟨d, x, y, 0, rfl, upd_same, fun p xs H2 hp hx hk hxl hb => ?_⟩
      walk_at "rd"
      obtain ⟨hk1, _⟩ := hk
      have e2 : Same H H2 := fun b o e => hk1 b o (ne_of_none (e1 b o e) hd) (Same.new hd b o (e1 b o e))
      clear hk1
      walk_at "go"
      refine ⟨⟨_, SqL.of hx⟩, ?_⟩
      obtain ⟨Pn, hN⟩ := inv_of (fun (j : Nat) (σ : St) (H' : Hp) => ∃ (o3 o4 : Option V), σ = [some (.ref a), some (.int (i : Int)), some (.ref p), o3, o4, o5, o6, o7, o8, o9] ∧ Same H H' ∧ H' p = some (.lst (xs.map V.int)))
      refine loop_list Pn ((hN _ _ _).mpr ⟨_, _, rfl, e2, hx⟩) (fun j σ H' _ h => SqL.of (by obtain ⟨_, _, _, _, z⟩ := (hN _ _ _).mp h; exact z)) ?_ ?_
      · intro j v σ H3 hv hp
        obtain ⟨o3, o4, rfl, e3, hx3⟩ := (hN _ _ _).mp hp
        clear hp
        obtain ⟨n, hn, rfl⟩ : ∃ n, n ∈ xs ∧ v = V.int n := by
          have hm := List.mem_of_getElem? hv
          obtain ⟨n, h1, h2⟩ := List.mem_map.mp hm
          exact ⟨n, h1, h2.symm⟩
        have sm := hb n hn
        have hlog : n.natAbs.log2 < 1920 := Nat.lt_of_lt_of_le (log2_of sm.k (by decide)) (by decide)
        obtain ⟨c, hc, hc2⟩ := head_int n
        have hc3 : (!decide (({ cps := #[c] } : Str) = Str.ofString "-")) = decide (0 ≤ n) := by
          have e : (({ cps := #[c] } : Str) = Str.ofString "-") ↔ n < 0 := by
            rw [← hc2]
            have e : Str.ofString "-" = ⟨#[45]⟩ := by decide +kernel
            rw [e]
            simp
          rw [decide_eq_decide.mpr e, ← decide_not]
          exact decide_eq_decide.mpr (by omega)
        have fin : ∀ (p1 p2 : Addr) (b c : Bool), H3 p1 = none → (upd H3 p1 (.lst [.bl b, .bl c])) p2 = none → Same H (upd (upd H3 p1 (.lst [.bl b, .bl c])) p2 (.lst [.bl b, .bl c])) ∧ (upd (upd H3 p1 (.lst [.bl b, .bl c])) p2 (.lst [.bl b, .bl c])) p = some (.lst (xs.map V.int)) := by
          intro p1 p2 b c h1 h2
          have s1 : Same H3 (upd (upd H3 p1 (.lst [.bl b, .bl c])) p2 (.lst [.bl b, .bl c])) := (Same.new h1).trans (Same.new h2)
          exact ⟨e3.trans s1, s1 _ _ hx3⟩
        walk_at "rd"
        walk_at "go"
        refine ⟨n, rfl, sm.k, ?_⟩
        walk_at "rd"
        refine ⟨n, rfl, sm.k, ?_⟩
        cases hl : isLet n with
        | true =>
          walk_at "rd"
          refine ⟨str_small sm.k, by decide, fun p1 hp1 => ?_⟩
          walk_at "go"
          refine ⟨_, _, rfl, .int n, ?_⟩
          rw [int_let, hl]
          walk_at "rd"
          refine ⟨_, _, rfl, .int n, ?_⟩
          rw [cnt_let, hl, Bool.true_and]
          walk_at "rd"
          refine ⟨by decide, fun p2 hp2 => repr_bb upd_same ?_⟩
          walk_at "rd"
          refine repr_bb (p := p1) (by rw [upd_ne (ne_of_none upd_same hp2), upd_same]) ?_
          walk_at "rd"
          rw [if_neg (by simp)]
          walk_at "go"
        | false =>
          walk_at "rd"
          refine ⟨by decide, fun p1 hp1 => ?_⟩
          walk_at "go"
          refine ⟨_, _, rfl, .int n, ?_⟩
          rw [int_let, hl]
          walk_at "rd"
          refine ⟨_, _, rfl, .int n, ?_⟩
          rw [cnt_let, hl, Bool.false_and]
          walk_at "rd"
          refine ⟨by decide, fun p2 hp2 => repr_bb upd_same ?_⟩
          walk_at "rd"
          refine repr_bb (p := p1) (by rw [upd_ne (ne_of_none upd_same hp2), upd_same]) ?_
          walk_at "rd"
          rw [if_neg (by simp)]
          walk_at "go"
      · intro σ H3 hp
        obtain ⟨o3, o4, rfl, e3, hx3⟩ := (hN _ _ _).mp hp
        clear hp
        walk_at "go"
        walk_at "go"
        refine ⟨⟨_, SqL.of hx3⟩, ?_⟩
        refine lc_pure (SqL.of hx3) (by rw [List.length_map]; omega) isCnt id (fun x => rfl) ?_ ?_ ?_
        · intro v hv H4 e4 R hR
          obtain ⟨n, h1, rfl⟩ := List.mem_map.mp hv
          walk_at "rd"
          refine ⟨_, _, rfl, .int n, ?_⟩
          walk_at "rd"
          exact hR _ (Same.refl _)
        · intro v hv _ H4 e4 R hR
          walk_at "rd"
          exact hR _ (Same.refl _)
        · intro pc H4 hpc e4 hc
          have hcnt : ((xs.map V.int).filter isCnt).map id = (xs.filter fun n => isCnt (.int n)).map V.int := by
            rw [List.map_id, List.filter_map]
            rfl
          rw [hcnt] at hc
          have hb2 : ∀ n, n ∈ xs.filter (fun n => isCnt (.int n)) → isCnt (.int n) = true ∧ Sm n := fun n hn => ⟨(List.mem_filter.mp hn).2, hb n (List.mem_filter.mp hn).1⟩
          generalize xs.filter (fun n => isCnt (.int n)) = ys at hc hb2
          have e5 := e3.trans e4
          clear hx3 hp e3 e4 hpc hN hxl hb
          walk_at "rd"
          walk_at "go"
          refine ⟨_, SqL.of hc, fun pr hpr => ⟨_, SqL.of (Same.new hpr _ _ hc), _, SqL.of upd_same, ?_⟩⟩
          obtain ⟨Pz, hZ⟩ := inv_of (fun (j : Nat) (σ : St) (H' : Hp) => ∃ (o6 o7 : Option V), σ = [some (.ref a), some (.int (i : Int)), some (.ref p), o3, o4, some (.ref pc), o6, o7, o8, o9] ∧ Same (upd H4 pr (.lst (ys.map V.int).reverse)) H')
          refine loop_zip (xs := ys.map V.int) (ys := (ys.map V.int).reverse) (by rw [List.length_reverse]) Pz ((hZ _ _ _).mpr ⟨_, _, rfl, Same.refl _⟩) ?_ ?_ ?_
          · intro j σ H5 h
            obtain ⟨_, _, _, e6⟩ := (hZ _ _ _).mp h
            exact ⟨e6.seq (SqL.of (Same.new hpr _ _ hc)), e6.seq (SqL.of upd_same)⟩
          · intro j v1 v2 T σ H5 hv1 hv2 h hT
            obtain ⟨o6, o7, rfl, e6⟩ := (hZ _ _ _).mp h
            clear h
            obtain ⟨n1, hn1, rfl⟩ : ∃ n, n ∈ ys ∧ v1 = V.int n := by
              obtain ⟨n, h1, h2⟩ := List.mem_map.mp (List.mem_of_getElem? hv1)
              exact ⟨n, h1, h2.symm⟩
            obtain ⟨n2, hn2, rfl⟩ : ∃ n, n ∈ ys ∧ v2 = V.int n := by
              obtain ⟨n, h1, h2⟩ := List.mem_map.mp (List.mem_reverse.mp (List.mem_of_getElem? hv2))
              exact ⟨n, h1, h2.symm⟩
            obtain ⟨c1, s1⟩ := hb2 n1 hn1
            obtain ⟨c2, s2⟩ := hb2 n2 hn2
            have p1 : 0 ≤ n1 := by
              rw [cnt_let, Bool.and_eq_true] at c1
              exact of_decide_eq_true c1.2
            have p2 : 0 ≤ n2 := by
              rw [cnt_let, Bool.and_eq_true] at c2
              exact of_decide_eq_true c2.2
            have sk : (n1 + n2).natAbs < 2 ^ 1000 := by
              unfold Sm at s1 s2
              have e : 10 ^ 100 + 10 ^ 100 ≤ 2 ^ 1000 := by decide
              generalize (10 ^ 100 : Nat) = u at *
              generalize (2 ^ 1000 : Nat) = v at *
              omega
            have ec : isCnt (.int (n1 + n2)) = isLet (n1 + n2) := by
              rw [cnt_let, decide_eq_true (by omega : 0 ≤ n1 + n2), Bool.and_true]
            refine ⟨T, [.int n1, .int n2], rfl, .inl (.inl upd_same), rfl, .int n1, [.int n2], rfl, .int n2, [], rfl, rfl, ?_⟩
            walk_at "rd"
            walk_at "go"
            refine ⟨_, _, rfl, .int _, ?_⟩
            walk_at "rd"
            refine repr_b ?_
            walk_at "rd"
            refine ⟨_, rfl, sk, ?_⟩
            walk_at "rd"
            refine repr_b ?_
            walk_at "rd"
            rw [if_neg (by simp)]
            walk_at "go"
            exact e6.trans (Same.new hT)
          · intro σ H5 h
            obtain ⟨o6, o7, rfl, e6⟩ := (hZ _ _ _).mp h
            clear h
            refine (hP _ _ _).mpr ⟨_, _, _, _, _, _, _, _, _, rfl, e5.trans ((Same.new hpr).trans e6)⟩
    · intro σ H1 hp
      obtain ⟨o1, o2, o3, o4, o5, o6, o7, o8, o9, rfl, e1⟩ := (hP _ _ _).mp hp
      clear hp
      walk_at "go"
      walk_at "go"
      refine ⟨by decide, fun p1 h1 => ⟨by decide, fun p2 h2 p3 h3 => ?_⟩⟩
      refine ⟨[(Sum.inl 7, V.int 7)], rfl, by decide, ?_⟩
      walk_at "rd"
      refine ⟨by decide, fun p4 h4 => ⟨by decide, fun p5 h5 => ⟨by decide, fun p6 h6 => ?_⟩⟩⟩
      have s6 := Same.new (o := .lst [V.non, V.bl true, V.bl false, V.str (Str.ofString "7"), V.str (Str.ofString ""), V.str (Str.ofString "seven"), V.ref p1, V.ref p2, V.ref p3, V.ref p5]) h6
      have s5 := Same.new (o := .tup [V.ref p4]) h5
      have s4 := Same.new (o := .tup []) h4
      have k3 : (upd (upd (upd H1 p1 (.tup [V.int 7])) p2 (.lst [V.int 7])) p3 (.dK (mergeK [] [(Sum.inl 7, V.int 7)]))) p3 = some (.dK (mergeK [] [(Sum.inl 7, V.int 7)])) := upd_same
      have k2 : (upd (upd (upd H1 p1 (.tup [V.int 7])) p2 (.lst [V.int 7])) p3 (.dK (mergeK [] [(Sum.inl 7, V.int 7)]))) p2 = some (.lst [V.int 7]) := by
        exact Same.new h3 _ _ upd_same
      have k1 : (upd (upd (upd H1 p1 (.tup [V.int 7])) p2 (.lst [V.int 7])) p3 (.dK (mergeK [] [(Sum.inl 7, V.int 7)]))) p1 = some (.tup [V.int 7]) := by
        exact Same.new h3 _ _ (Same.new h2 _ _ upd_same)
      have ss := (s4.trans s5).trans s6
      have k6 : (upd (upd (upd (upd (upd (upd H1 p1 (.tup [V.int 7])) p2 (.lst [V.int 7])) p3 (.dK (mergeK [] [(Sum.inl 7, V.int 7)]))) p4 (.tup [])) p5 (.tup [V.ref p4])) p6 (.lst [V.non, V.bl true, V.bl false, V.str (Str.ofString "7"), V.str (Str.ofString ""), V.str (Str.ofString "seven"), V.ref p1, V.ref p2, V.ref p3, V.ref p5])) p6 = some (.lst [V.non, V.bl true, V.bl false, V.str (Str.ofString "7"), V.str (Str.ofString ""), V.str (Str.ofString "seven"), V.ref p1, V.ref p2, V.ref p3, V.ref p5]) := upd_same
      have k5 := s6 _ _ (upd_same (H := upd (upd (upd (upd H1 p1 (.tup [V.int 7])) p2 (.lst [V.int 7])) p3 (.dK (mergeK [] [(Sum.inl 7, V.int 7)]))) p4 (.tup [])) (a := p5) (o := .tup [V.ref p4]))
      replace k1 := ss _ _ k1
      replace k2 := ss _ _ k2
      replace k3 := ss _ _ k3
      clear s4 s5 s6 ss h1 h2 h3 h4 h5 h6
      generalize (upd (upd (upd (upd (upd (upd H1 p1 (.tup [V.int 7])) p2 (.lst [V.int 7])) p3 (.dK (mergeK [] [(Sum.inl 7, V.int 7)]))) p4 (.tup [])) p5 (.tup [V.ref p4])) p6 (.lst [V.non, V.bl true, V.bl false, V.str (Str.ofString "7"), V.str (Str.ofString ""), V.str (Str.ofString "seven"), V.ref p1, V.ref p2, V.ref p3, V.ref p5])) = H2 at *
      walk_at "go"
      refine ⟨rfl, ?_⟩
      rw [if_pos (by decide)]
      refine ⟨⟨_, SqL.of k6⟩, ?_⟩
      refine lc_pure (SqL.of k6) (by simp) (fun v => isInt v || isCnt v) id (fun x => rfl) ?_ ?_ ?_
      · intro v hv H4 e4 R hR
        obtain ⟨t, pl⟩ : ∃ t, Pl K H4 v t := by
          simp only [List.mem_cons, List.not_mem_nil, or_false] at hv
          rcases hv with h | h | h | h | h | h | h | h | h | h <;> subst h
          · exact ⟨_, .non⟩
          · exact ⟨_, .bl _⟩
          · exact ⟨_, .bl _⟩
          · exact ⟨_, .str _⟩
          · exact ⟨_, .str _⟩
          · exact ⟨_, .str _⟩
          · exact ⟨_, .tup (e4 _ _ k1)⟩
          · exact ⟨_, .lst (e4 _ _ k2)⟩
          · exact ⟨_, .dct (e4 _ _ k3)⟩
          · exact ⟨_, .tup (e4 _ _ k5)⟩
        clear k6 k5 k3 k2 k1
        walk_at "rd"
        refine ⟨v, t, rfl, pl, ?_⟩
        walk_at "rd"
        refine ite2 (fun h => ?_) (fun h => ?_)
        · have r := hR H4 (Same.refl _)
          rw [h, Bool.true_or] at r
          exact r
        · refine ⟨v, t, rfl, pl, ?_⟩
          walk_at "rd"
          have r := hR H4 (Same.refl _)
          rw [Bool.eq_false_iff.mpr h, Bool.false_or] at r
          exact r
      · intro v hv _ H4 e4 R hR
        walk_at "rd"
        exact hR _ (Same.refl _)
      · intro pc H4 hpc e4 hc
        refine ⟨by decide, fun pn hpn => ?_⟩
        have hc0 : H4 pc = some (.lst []) := hc
        refine ⟨.list [], .list [], .lst (SqL.of (Same.new hpn _ _ hc0)) .nil, .lst (SqL.of upd_same) .nil, rfl, rfl, ?_⟩
        exact q _
end

/-! ### what the top has written -/
theorem all_mk {l : PySem.W.OpenLaw} {w : World} {K : PySem.W.Frag} {h : Heap} {mg : Str → Option Value} {fa : Addr} (X : K.In h) (G : h.Ns mainGlobals mg) (hfa : mg "law" = some (.ref fa))
    {f1 f2 f3 f4 f5 f6 f7 f8 : Addr} {od1 an1 od2 an2 od3 an3 od4 an4 od5 an5 od6 an6 od7 an7 od8 an8 : Option Addr} {sl1 sl2 sl3 sl4 sl5 sl6 sl7 sl8 : Array (Option Value)}
    {oc1 kV1 dc1 pm1 cd1 ct1 oc2 kV2 dc2 pm2 cd2 ct2 oc3 kV3 dc3 pm3 cd3 ct3 oc4 kV4 dc4 pm4 cd4 ct4 oc5 kV5 dc5 pm5 cd5 ct5 oc6 kV6 dc6 pm6 cd6 ct6 oc7 kV7 dc7 pm7 cd7 ct7 oc8 kV8 dc8 pm8 cd8 ct8 : Value} {t_LIMIT t_MAX_FIGURES : Tok}
    (a1 : PySem.W.nsIn K mainGlobals "is_integer" = some (some (.ref f1)))
    (l1 : K.lookup f1 = some ⟨oc1, od1, .func (PySem.W.fnOf "is_integer" "is_integer" (defArgs s_is_integer) (defBody s_is_integer) (defScope s_is_integer) .none kV1 dc1 pm1 an1 cd1 ct1), sl1⟩)
    (c1 : PySem.W.codeIn K cd1 "is_integer" = true) (k1 : PySem.W.keepIn K (.ref f1) = true)
    (a2 : PySem.W.nsIn K mainGlobals "is_count" = some (some (.ref f2)))
    (l2 : K.lookup f2 = some ⟨oc2, od2, .func (PySem.W.fnOf "is_count" "is_count" (defArgs s_is_count) (defBody s_is_count) (defScope s_is_count) .none kV2 dc2 pm2 an2 cd2 ct2), sl2⟩)
    (c2 : PySem.W.codeIn K cd2 "is_count" = true) (k2 : PySem.W.keepIn K (.ref f2) = true)
    (a3 : PySem.W.nsIn K mainGlobals "_law_dice" = some (some (.ref f3)))
    (l3 : K.lookup f3 = some ⟨oc3, od3, .func (PySem.W.fnOf "_law_dice" "_law_dice" (defArgs s_dice) (defBody s_dice) (defScope s_dice) .none kV3 dc3 pm3 an3 cd3 ct3), sl3⟩)
    (c3 : PySem.W.codeIn K cd3 "_law_dice" = true) (k3 : PySem.W.keepIn K (.ref f3) = true)
    (a4 : PySem.W.nsIn K mainGlobals "_law_roll" = some (some (.ref f4)))
    (l4 : K.lookup f4 = some ⟨oc4, od4, .func (PySem.W.fnOf "_law_roll" "_law_roll" (defArgs s_roll) (defBody s_roll) (defScope s_roll) .none kV4 dc4 pm4 an4 cd4 ct4), sl4⟩)
    (c4 : PySem.W.codeIn K cd4 "_law_roll" = true) (k4 : PySem.W.keepIn K (.ref f4) = true)
    (a5 : PySem.W.nsIn K mainGlobals "_law_pick" = some (some (.ref f5)))
    (l5 : K.lookup f5 = some ⟨oc5, od5, .func (PySem.W.fnOf "_law_pick" "_law_pick" (defArgs s_pick) (defBody s_pick) (defScope s_pick) .none kV5 dc5 pm5 an5 cd5 ct5), sl5⟩)
    (c5 : PySem.W.codeIn K cd5 "_law_pick" = true) (k5 : PySem.W.keepIn K (.ref f5) = true)
    (a6 : PySem.W.nsIn K mainGlobals "_law_numbers" = some (some (.ref f6)))
    (l6 : K.lookup f6 = some ⟨oc6, od6, .func (PySem.W.fnOf "_law_numbers" "_law_numbers" (defArgs s_numbers) (defBody s_numbers) (defScope s_numbers) .none kV6 dc6 pm6 an6 cd6 ct6), sl6⟩)
    (c6 : PySem.W.codeIn K cd6 "_law_numbers" = true) (k6 : PySem.W.keepIn K (.ref f6) = true)
    (a7 : PySem.W.nsIn K mainGlobals "_law_is_let" = some (some (.ref f7)))
    (l7 : K.lookup f7 = some ⟨oc7, od7, .func (PySem.W.fnOf "_law_is_let" "_law_is_let" (defArgs s_is_let) (defBody s_is_let) (defScope s_is_let) .none kV7 dc7 pm7 an7 cd7 ct7), sl7⟩)
    (c7 : PySem.W.codeIn K cd7 "_law_is_let" = true) (k7 : PySem.W.keepIn K (.ref f7) = true)
    (a8 : PySem.W.nsIn K mainGlobals "law" = some (some (.ref f8)))
    (l8 : K.lookup f8 = some ⟨oc8, od8, .func (PySem.W.fnOf "law" "law" (defArgs s_law) (defBody s_law) (defScope s_law) .none kV8 dc8 pm8 an8 cd8 ct8), sl8⟩)
    (c8 : PySem.W.codeIn K cd8 "law" = true) (k8 : PySem.W.keepIn K (.ref f8) = true)
    (n_LIMIT : PySem.W.nsIn K mainGlobals "LIMIT" = some (some (.int (10 ^ 60) t_LIMIT)))
    (n_MAX_FIGURES : PySem.W.nsIn K mainGlobals "MAX_FIGURES" = some (some (.int 60 t_MAX_FIGURES)))
    (z_abs : PySem.W.nsIn K mainGlobals "abs" = some none)
    (z_bool : PySem.W.nsIn K mainGlobals "bool" = some none)
    (z_int : PySem.W.nsIn K mainGlobals "int" = some none)
    (z_isinstance : PySem.W.nsIn K mainGlobals "isinstance" = some none)
    (z_len : PySem.W.nsIn K mainGlobals "len" = some none)
    (z_max : PySem.W.nsIn K mainGlobals "max" = some none)
    (z_min : PySem.W.nsIn K mainGlobals "min" = some none)
    (z_range : PySem.W.nsIn K mainGlobals "range" = some none)
    (z_repr : PySem.W.nsIn K mainGlobals "repr" = some none)
    (z_str : PySem.W.nsIn K mainGlobals "str" = some none)
    (z_zip : PySem.W.nsIn K mainGlobals "zip" = some none) :
    ∃ fd : FuncData, (∀ (s : Shared) (v : Value), BindsTo s fd ⟨[v], []⟩ [("_law_script", v)]) ∧ ∀ base : Heap, K.In base → base.Ns mainGlobals mg → FnG l.prog w K mg base CX0 4 fa fd ["_law_script"] (spLaw K) := by
  have e := hfa.symm.trans (PySem.W.mg_of X G a8)
  cases e
  have F1 := fun_mk (st := s_is_integer) l1 c1 k1
  have b1 := F1.binds (ps := P_is_integer) fun _ _ _ _ _ _ us hl => match us, hl with | [_], _ => rfl
  have F2 := fun_mk (st := s_is_count) l2 c2 k2
  have b2 := F2.binds (ps := P_is_count) fun _ _ _ _ _ _ us hl => match us, hl with | [_], _ => rfl
  have F3 := fun_mk (st := s_dice) l3 c3 k3
  have b3 := F3.binds (ps := P_dice) fun _ _ _ _ _ _ us hl => match us, hl with | [_, _], _ => rfl
  have F4 := fun_mk (st := s_roll) l4 c4 k4
  have b4 := F4.binds (ps := P_roll) fun _ _ _ _ _ _ us hl => match us, hl with | [_, _], _ => rfl
  have F5 := fun_mk (st := s_pick) l5 c5 k5
  have b5 := F5.binds (ps := P_pick) fun _ _ _ _ _ _ us hl => match us, hl with | [_, _], _ => rfl
  have F6 := fun_mk (st := s_numbers) l6 c6 k6
  have b6 := F6.binds (ps := P_numbers) fun _ _ _ _ _ _ us hl => match us, hl with | [_], _ => rfl
  have F7 := fun_mk (st := s_is_let) l7 c7 k7
  have b7 := F7.binds (ps := P_is_let) fun _ _ _ _ _ _ us hl => match us, hl with | [_], _ => rfl
  have F8 := fun_mk (st := s_law) l8 c8 k8
  have b8 := F8.binds (ps := P_law) fun _ _ _ _ _ _ us hl => match us, hl with | [_], _ => rfl
  let Z : Ad := ⟨f1, f2, f3, f4, f5, f6, f7, fa, PySem.W.fnOf "is_integer" "is_integer" (defArgs s_is_integer) (defBody s_is_integer) (defScope s_is_integer) .none kV1 dc1 pm1 an1 cd1 ct1,
    PySem.W.fnOf "is_count" "is_count" (defArgs s_is_count) (defBody s_is_count) (defScope s_is_count) .none kV2 dc2 pm2 an2 cd2 ct2,
    PySem.W.fnOf "_law_dice" "_law_dice" (defArgs s_dice) (defBody s_dice) (defScope s_dice) .none kV3 dc3 pm3 an3 cd3 ct3,
    PySem.W.fnOf "_law_roll" "_law_roll" (defArgs s_roll) (defBody s_roll) (defScope s_roll) .none kV4 dc4 pm4 an4 cd4 ct4,
    PySem.W.fnOf "_law_pick" "_law_pick" (defArgs s_pick) (defBody s_pick) (defScope s_pick) .none kV5 dc5 pm5 an5 cd5 ct5,
    PySem.W.fnOf "_law_numbers" "_law_numbers" (defArgs s_numbers) (defBody s_numbers) (defScope s_numbers) .none kV6 dc6 pm6 an6 cd6 ct6,
    PySem.W.fnOf "_law_is_let" "_law_is_let" (defArgs s_is_let) (defBody s_is_let) (defScope s_is_let) .none kV7 dc7 pm7 an7 cd7 ct7,
    PySem.W.fnOf "law" "law" (defArgs s_law) (defBody s_law) (defScope s_law) .none kV8 dc8 pm8 an8 cd8 ct8⟩
  have B : Bt mg := ⟨PySem.W.mg_none_of X G z_abs, PySem.W.mg_none_of X G z_bool, PySem.W.mg_none_of X G z_int, PySem.W.mg_none_of X G z_isinstance, PySem.W.mg_none_of X G z_len, PySem.W.mg_none_of X G z_max, PySem.W.mg_none_of X G z_min, PySem.W.mg_none_of X G z_range, PySem.W.mg_none_of X G z_repr, PySem.W.mg_none_of X G z_str, PySem.W.mg_none_of X G z_zip⟩
  have C0 : Cs mg := ⟨⟨_, PySem.W.mg_of X G n_LIMIT⟩, ⟨_, PySem.W.mg_of X G n_MAX_FIGURES⟩⟩
  have D : Ds K mg Z := ⟨⟨F1, PySem.W.mg_of X G a1, b1⟩, ⟨F2, PySem.W.mg_of X G a2, b2⟩, ⟨F3, PySem.W.mg_of X G a3, b3⟩, ⟨F4, PySem.W.mg_of X G a4, b4⟩, ⟨F5, PySem.W.mg_of X G a5, b5⟩, ⟨F6, PySem.W.mg_of X G a6, b6⟩, ⟨F7, PySem.W.mg_of X G a7, b7⟩⟩
  exact ⟨_, fun s v => .of_eq rfl, fun base _ _ => ok_law (Z := Z) D B C0 ⟨F8, PySem.W.mg_of X G a8, b8⟩⟩
end K01
open PySem PySem.W PyProof.Rows in
set_option maxRecDepth 100000 in
set_option maxHeartbeats 0 in
theorem PySem.Challenge.cw_lastprices_k01_whole_integers_by_their_f_holds : PySem.Challenge.rw_lastprices_k01_whole_integers_by_their_f.Holds := by
  w_on; o_law; k_head; (case hw => w_witness2)
  k_fill
  refine LP.walk_ofG (l := PySem.Challenge.rw_lastprices_k01_whole_integers_by_their_f) (n := 63) (k := 4) (x := "_law_script") (sp := K01.spLaw) rfl (by decide) rfl ⟨rfl, by decide, by decide⟩ (fun w h Y => PySem.W.kIn_of Y) ?F (fun _ _ a ns hl _ hS => ⟨a, ns, rfl, hS, hl, fun _ => rfl⟩)
  case F =>
    intro w mg fa h KX G hmg
    refine' K01.all_mk KX G hmg ?a1 ?l1 ?c1 ?k1 ?a2 ?l2 ?c2 ?k2 ?a3 ?l3 ?c3 ?k3 ?a4 ?l4 ?c4 ?k4 ?a5 ?l5 ?c5 ?k5 ?a6 ?l6 ?c6 ?k6 ?a7 ?l7 ?c7 ?k7 ?a8 ?l8 ?c8 ?k8 ?n_LIMIT ?n_MAX_FIGURES ?z_abs ?z_bool ?z_int ?z_isinstance ?z_len ?z_max ?z_min ?z_range ?z_repr ?z_str ?z_zip
    (case a1 => k_is)
    (case l1 => k_is)
    (case c1 => k_is)
    (case k1 => k_is)
    (case a2 => k_is)
    (case l2 => k_is)
    (case c2 => k_is)
    (case k2 => k_is)
    (case a3 => k_is)
    (case l3 => k_is)
    (case c3 => k_is)
    (case k3 => k_is)
    (case a4 => k_is)
    (case l4 => k_is)
    (case c4 => k_is)
    (case k4 => k_is)
    (case a5 => k_is)
    (case l5 => k_is)
    (case c5 => k_is)
    (case k5 => k_is)
    (case a6 => k_is)
    (case l6 => k_is)
    (case c6 => k_is)
    (case k6 => k_is)
    (case a7 => k_is)
    (case l7 => k_is)
    (case c7 => k_is)
    (case k7 => k_is)
    (case a8 => k_is)
    (case l8 => k_is)
    (case c8 => k_is)
    (case k8 => k_is)
    (case n_LIMIT => k_is)
    (case n_MAX_FIGURES => k_is)
    (case z_abs => k_is)
    (case z_bool => k_is)
    (case z_int => k_is)
    (case z_isinstance => k_is)
    (case z_len => k_is)
    (case z_max => k_is)
    (case z_min => k_is)
    (case z_range => k_is)
    (case z_repr => k_is)
    (case z_str => k_is)
    (case z_zip => k_is)
#print axioms PySem.Challenge.cw_lastprices_k01_whole_integers_by_their_f_holds
