import PyProof.Rows.All
import Wide.All
import OpenK.AllK
import Wide.FinOn
import HandS.ForMost
import HandS.IsInst
import HandS.Style
import HandS.StrMore
import HandS.Wide
import HandS.Zip
import HandS.Flow
import HandS.Set
import HandS.Strs
import PyProof.Rows.SortShellAny
import HandS.Walk
import HandS.Sort
import PyProof.StrBlock2
import HandS.ExcInit
import HandS.ExcIs
import HandS.ExcField
import HandS.ExcValue
import HandS.ExcBuiltin
import KE.KExcInit
import KE.KExcIs
import HandS.HotCalls
import PySem.Challenge.RW_lastprices_k02_errors_kept_and_caught
set_option Elab.async false
set_option linter.all false
set_option maxRecDepth 100000
set_option maxHeartbeats 4000000
/-! LPG: defs that run where no repr is under way (guards known empty), so that repr of data can be told. -/
namespace LP
open PySem PySem.Spec L2
open PyProof.Rows hiding St

/-- a def's promise, kept wherever no guarded call is under way -/
structure FnG (P : Program) (w : World) (K : PySem.W.Frag) (mg : Str → Option Value) (base : Heap) (CX : CXT)
    (k : Nat) (f : Addr) (fd : FuncData) (ps : List Str) (sp : Sp) : Prop where
  len : ∀ vs H Q E, sp vs H Q E → vs.length = ps.length
  go : ∀ (A : Around) (outer : List Env) (s : Shared) (H : Hp) (args : Args) (us : List Value) (vs : List V)
    (Q : VK) (E : XK), A.guards = some [] → Room k A → Env0 P w K mg base A outer s H →
    BindsTo s fd args (ps.zip us) → Vals vs us → sp vs H Q E →
    codeAny (model P w) A (.call (.ref f) args) (CR CX outer P w H s Q E) s

section
variable {P : Program} {w : World} {K : PySem.W.Frag} {mg : Str → Option Value} {base : Heap} {CX : CXT}
  {k : Nat} {f : Addr} {fd : FuncData} {ps : List Str} {sp : Sp}

theorem FnG.of (F : FnOk P w K mg base CX k f fd ps sp) : FnG P w K mg base CX k f fd ps sp :=
  ⟨F.len, fun A outer s H args us vs Q E _ hr e0 hb r h => F.run A outer s H args us vs Q E hr e0 hb r h⟩

theorem FnG.mono {j : Nat} (F : FnG P w K mg base CX j f fd ps sp) (h : j ≤ k) : FnG P w K mg base CX k f fd ps sp :=
  ⟨F.len, fun A outer s H args us vs Q E g hr e0 hb r h' => F.go A outer s H args us vs Q E g (hr.mono h) e0 hb r h'⟩
end

/-- a def's body, where no guarded call is under way -/
theorem fnG_of {CX : CXT} {P : Program} {w : World} {K : PySem.W.Frag} {mg : Str → Option Value} {base : Heap} {k : Nat}
    {f : Addr} {name qual : Str} {params : Arguments} {body : List Stmt} {scope : Scope} {dV kV doc pm cdv ct oc : Value}
    {an od : Option Addr} {osl : Array (Option Value)} {N ps : List Str} {sp : Sp}
    (lk : K.lookup f = some ⟨oc, od, .func (PySem.W.fnOf name qual params body scope dV kV doc pm an cdv ct), osl⟩)
    (hcd : PySem.W.codeIn K cdv qual = true) (S : FnScope N ps scope)
    (len : ∀ vs H Q E, sp vs H Q E → vs.length = ps.length)
    (hbody : ∀ (A : Around) (outer : List Env) (s : Shared) (H : Hp) (vs : List V) (Q : VK) (E : XK),
      A.guards = some [] → Room k (A.deeper (envOfC qual scope s.heap.objs.size f cdv)) → sp vs H Q E →
      ∃ t, PSs (cxOf CX P w K mg base N qual scope f cdv A outer s H E) body t ∧
        t { nx := fun _ H' => Q .non H', rt := Q } (start N vs) H) :
    FnG P w K mg base CX (k + 1) f (PySem.W.fnOf name qual params body scope dV kV doc pm an cdv ct) ps sp := by
  constructor
  · exact len
  intro A outer s H args us vs Q E gd hr e0 hb r hsp
  have hl := len _ _ _ _ hsp
  have KX : K.In s.heap := e0.mod.kin.keeps fun b o e => (e0.bs b o e).1
  have lim : s.heap.NoLimit := e0.mod.nolimit.keeps fun b o e => (e0.bs b o e).1
  have hk : ∀ y ∈ ps.zip us, scope.names.lookup y.1 = some .local ∨
      (scope.names.lookup y.1 = some .cell ∧
        ((cellsFrom (s.heap.objs.size + 1) scope.names []).lookup y.1).isSome = true) := by
    rintro ⟨n, v⟩ hy
    rcases S.par n (List.of_mem_zip hy).1 with q | q
    · exact .inl q
    · exact .inr ⟨q, PySem.W.cellsFrom_some _ _ _ (.inl q)⟩
  refine codeAny_call_function hr.depth (KX _ _ lk) rfl S.co S.gen rfl (PySem.W.codeRec_of KX hcd) ?_
  refine hb _ _ _ _ (wpAny_newFunctionEnv_cells S.kind hk ?_)
  intro env he s1 x
  subst he
  refine ⟨lim.keeps x.toInCall.keep, ?_⟩
  refine codeAny_func ?_
  obtain ⟨t, ht, hq⟩ := hbody A outer s H vs Q E gd (hr.deeper _) hsp
  have I := inv_start (CX := CX) (N := N) (E := E) S hr.hd e0 hl r x
  refine wpAny_mono (ht.run [] s1 (start N vs) H _ I hq) ?_ (fun e s' hs => hs)
  intro fl s' hs
  cases fl with
  | ret u =>
    obtain ⟨v, σ', H', J, rv, q⟩ := hs
    exact ⟨v, H', J.os, J.bare, J.base, J.hok, rv, q⟩
  | next =>
    obtain ⟨σ', H', J, q⟩ := hs
    exact ⟨V.non, H', J.os, J.bare, J.base, J.hok, rfl, q⟩
  | brk =>
    obtain ⟨_, _, _, q⟩ := hs
    exact q.elim
  | cont =>
    obtain ⟨_, _, _, q⟩ := hs
    exact q.elim

section
variable {P : Program} {w : World} {K : PySem.W.Frag} {mg : Str → Option Value} {base : Heap}
/-- the same for a def of the text that lets no exception out -/
theorem okG {x qual : Str} {st : Stmt} {f : Addr} {fd : FuncData} {N ps : List Str} {k : Nat} {sp : Sp}
    (F : Fun K x qual st f fd) (S : FnScope N ps (defScope st)) (len : ∀ vs H Q E, sp vs H Q E → vs.length = ps.length)
    (hbody : ∀ (cdv : Value) (A : Around) (outer : List Env) (s : Shared) (H : Hp) (vs : List V) (Q : VK) (E : XK),
      A.guards = some [] → Room k (A.deeper (envOfC qual (defScope st) s.heap.objs.size f cdv)) → sp vs H Q E →
      ∃ t, PSs (cxOf CX0 P w K mg base N qual (defScope st) f cdv A outer s H E).nox (defBody st) t ∧
        t { nx := fun _ H' => Q .non H', rt := Q } (start N vs) H) :
    FnG P w K mg base CX0 (k + 1) f fd ps sp := by
  obtain ⟨oc, od, kV, doc, pm, an, cdv, ct, osl, rfl, lk, hcd⟩ := F.ex
  refine fnG_of lk hcd S len ?_
  intro A outer s H vs Q E g hr hsp
  obtain ⟨t, h, q⟩ := hbody cdv A outer s H vs Q E g hr hsp
  exact ⟨t, h.nox, q⟩
end

section
variable {X : Cx} {CX : CXT} {k : Nat} {f C : Addr} {fd : FuncData} {ps : List Str} {sp : Sp} {dvs : List V}
  {ds : List Value} {E : XK} {x m : Str} {p pos apos : Pos} {e o : Expr} {es : List Expr} {ta : TE} {t : TA}

/-- such a callee runs -/
theorem run_fnG {pins : List (Addr × Obj)} {σ : St} {H : Hp} {s : Shared} {Q : VK} {us : List Value} {vs : List V}
    (F : FnG X.prog X.w X.K X.mg X.base CX k f fd ps sp) (gd : X.A.guards = some []) (hr : Room k X.A)
    (hb : Binds X.K fd ps ds) (hd : Vals dvs ds) (hx : Passes CX X E)
    (I : Inv X pins σ H s) (r : Vals vs us) (h : sp (vs ++ dvs) H Q E) :
    wpAny (model X.prog X.w) X.A (call (.ref f) us) (EP X pins σ Q) X.xe s := by
  have r2 : Vals (vs ++ dvs) (us ++ ds) := r.append hd
  have hl : (us ++ ds).length = ps.length := r2.length.symm.trans (F.len _ _ _ _ h)
  have run := F.go X.A X.stack s H ⟨us, []⟩ (us ++ ds) (vs ++ dvs) Q E gd hr I.env0 (hb s us I.kIn hl) r2 h
  refine wpAny_call (codeAny_mono run ?_)
  intro r s' hq
  cases r with
  | error e => exact hx pins σ H s e s' I hq
  | ok fl =>
    cases fl with
    | ret u => exact I.after hq
    | next => exact hq.elim
    | brk => exact hq.elim
    | cont => exact hq.elim

theorem pe_callG (F : FnG X.prog X.w X.K X.mg X.base CX k f fd ps sp) (gd : X.A.guards = some []) (hr : Room k X.A)
    (hg : Gl X x) (hm : X.mg x = some (.ref f)) (hk : PySem.W.keepIn X.K (.ref f) = true) (hb : Binds X.K fd ps ds)
    (hd : Vals dvs ds) (hx : Passes CX X E) (ha : PA X (e :: es) t)
    (hdb : (x == ("__debug__" : Str)) = false := by decide)
    (he : starEach (e :: es) X.env = (false, eval e X.env) :: starEach es X.env := by rfl)
    (hpl : (backTo pos (starEach es X.env)).any (·.1) = false := by rfl) :
    PE X (.Call (.Name x p) (e :: es) [] pos) (tCall sp dvs E t) := by
  constructor
  intro pins s σ H Q I h
  refine wpAny_Call_Name_kw (ld_glob I hg hm ?_ hdb)
  refine PySem.W.callWith_K (h₀ := X.base) I.ok.mod.kin hk (thn (ha.run pos pins s σ H _ I h) ?_) he hpl
  rintro us s1 ⟨vs, H1, I1, r, q⟩
  exact ⟨I1.kIn, run_fnG F gd hr hb hd hx I1 r q⟩

theorem pe_callG0 (F : FnG X.prog X.w X.K X.mg X.base CX k f fd ps sp) (gd : X.A.guards = some []) (hr : Room k X.A)
    (hg : Gl X x) (hm : X.mg x = some (.ref f)) (hk : PySem.W.keepIn X.K (.ref f) = true) (hb : Binds X.K fd ps ds)
    (hd : Vals dvs ds) (hx : Passes CX X E) (hdb : (x == ("__debug__" : Str)) = false := by decide) :
    PE X (.Call (.Name x p) [] [] pos) (tCall sp dvs E tNil) := by
  constructor
  intro pins s σ H Q I h
  refine wpAny_Call_Name_kw (ld_glob I hg hm ?_ hdb)
  exact PySem.W.callWith_K0 I.kIn hk (run_fnG (us := []) F gd hr hb hd hx I .nil h)

/-- what repr asks: data that is read, and its text -/
def rReprD (K : PySem.W.Frag) : List V → Hp → VK → Prop := fun xs H Q =>
  ∃ x d, xs = [x] ∧ Dp K H x d ∧ d.showable = true ∧ d.hasDict = false ∧ d.depth ≤ 60 ∧ d.shown.length ≤ sizeLine ∧
    Q (.str d.shown) H

theorem call_reprD (gd : X.A.guards = some []) (hu : X.A.units + 64 < cLine) : CallR X (.builtin "repr") (rReprD X.K) := by
  intro pins s σ H xs us Q I r h
  obtain ⟨x, d, rfl, hd, hs, hn, hz, hl, q⟩ := h
  obtain ⟨u, rfl, r1⟩ := vals1 r
  cases hd with
  | non =>
    cases (show u = Value.none from r1)
    exact PySem.P.repr_of_none ⟨.str _, H, I.tok _, ⟨_, rfl⟩, q⟩
  | bl b =>
    cases (show u = Value.bool b from r1)
    exact PySem.P.repr_of_bool ⟨.str _, H, I.tok _, ⟨_, rfl⟩, q⟩
  | int i =>
    obtain ⟨t, rfl⟩ := (show ∃ t, u = Value.int i t from r1)
    have hi : i.natAbs.log2 < 1920 := by simpa [PyData.showable] using hs
    exact PySem.P.repr_of_int hi ⟨.str _, H, I.tok _, ⟨_, rfl⟩, q⟩
  | str y =>
    obtain ⟨t, rfl⟩ := (show ∃ t, u = Value.str y t from r1)
    exact PySem.P.repr_of_str ⟨.str _, H, I.tok _, ⟨_, rfl⟩, q⟩ hl
  | @lst a ys ds h1 h2 =>
    have e0 : Dp X.K H (.ref a) (.list ds) := .lst h1 h2
    cases (show u = Value.ref a from r1)
    obtain ⟨as, rd⟩ := Dp.reads I _ _ _ e0 rfl
    refine repr_of_reads' rd hs (fun z => ?_) gd (by omega) (fun _ _ e => e) (fun h' v tk hk => ?_) hl
    · rw [hn] at z
      cases z
    · exact ⟨.str _, H, I.kept hk, ⟨_, rfl⟩, q⟩
  | @tup a ys ds h1 h2 =>
    have e0 : Dp X.K H (.ref a) (.tuple ds) := .tup h1 h2
    cases (show u = Value.ref a from r1)
    obtain ⟨as, rd⟩ := Dp.reads I _ _ _ e0 rfl
    refine repr_of_reads' rd hs (fun z => ?_) gd (by omega) (fun _ _ e => e) (fun h' v tk hk => ?_) hl
    · rw [hn] at z
      cases z
    · exact ⟨.str _, H, I.kept hk, ⟨_, rfl⟩, q⟩
end

/-- the law's call, of such a def -/
theorem law_callG {P : Program} {w : World} {K : PySem.W.Frag} {mg mb : Str → Option Value} {k : Nat} {fa a : Addr}
    {fd : FuncData} {x : Str} {sp : Sp} {s₁ : Shared} {vs : List Value} {ns : List Int}
    (KX : K.In s₁.heap) (hns : s₁.heap.Ns mainGlobals mg) (hb : s₁.heap.Ns builtinsNs mb)
    (hbb : ∀ x : Str, x ≠ "__name__" → mb x = bootBuiltins x) (hlim : s₁.heap.NoLimit) (hg : s₁.gens = #[])
    (ha : s₁.heap.get? a = some { cls := .type "list", data := .seq vs.toArray }) (hi : IntsAre vs ns)
    (hl : ns.length ≤ sizeLine) (hr : Room k callerA)
    (F : ∀ base : Heap, K.In base → base.Ns mainGlobals mg → FnG P w K mg base CX0 k fa fd [x] sp)
    (hbind : ∀ (s : Shared) (u : Value), BindsTo s fd ⟨[u], []⟩ [(x, u)])
    (hsp : ∀ H : Hp, Only H → SqL K H a (ns.map V.int) → sp [.ref a] H (fun v _ => v = .bl true) fun _ _ _ => False) :
    codeAny (model P w) callerA (.call (.ref fa) ⟨[.ref a], []⟩) (fun r s' => r = .ok (.ret (.bool true)) ∧
      OldK s₁.heap s'.heap ∧ s'.os = s₁.os ∧ AllBare s'.gens) s₁ := by
  have rv := vals_ints hi
  have lenV := hi.length
  have core : ∀ H : Hp, Only H → SqL K H a (ns.map V.int) → HOk P w H s₁.heap → (∀ b, H b ≠ none → b = a) →
      (H a ≠ none → K.lookup a = none) →
      codeAny (model P w) callerA (.call (.ref fa) ⟨[.ref a], []⟩) (fun r s' => r = .ok (.ret (.bool true)) ∧
        OldK s₁.heap s'.heap ∧ s'.os = s₁.os ∧ AllBare s'.gens) s₁ := by
    intro H hO hS hok hA hK
    have noA : ∀ {b : Addr} {o : Obj} {es : Array DictEntry} {ep : Nat}, s₁.heap.get? b = some o →
        o.data = .dict es ep → H b = none := by
      intro b o es ep e d
      by_cases q : H b = none
      · exact q
      · have e' := hA b q
        subst e'
        rw [ha] at e
        cases e
        cases (show Data.seq vs.toArray _ = Data.dict es ep from d)
    have nsK : ∀ {b : Addr} {m : Str → Option Value}, s₁.heap.Ns b m → (hidT s₁.heap H).Ns b m := by
      rintro b m ⟨o, es, ep, e, d, r⟩
      exact ⟨o, es, ep, hidT_get e (noA e d), d, r⟩
    have hKb : K.In (hidT s₁.heap H) := by
      intro b o e
      refine hidT_get (KX b o e) ?_
      by_cases q : H b = none
      · exact q
      · have e' := hA b q
        subst e'
        rw [hK q] at e
        cases e
    obtain ⟨mc, hc1, hc2⟩ := hlim
    have hM : Mod K mg (hidT s₁.heap H) := ⟨hKb, nsK hns, ⟨mb, nsK hb, hbb⟩, ⟨mc, nsK hc1, hc2⟩⟩
    have e0 : Env0 P w K mg (hidT s₁.heap H) callerA [] s₁ H :=
      ⟨rfl, hM, fun b o e => of_hidT e, Nat.le_of_eq (hidT_size _ _), trivial,
        fun b hb => absurd (show b ∈ ([] : List Addr) from hb) (by simp), hok, .of_eq hg⟩
    have G := F _ hKb (nsK hns)
    refine codeAny_mono (G.go callerA [] s₁ H ⟨[.ref a], []⟩ [.ref a] [.ref a] _ _ rfl hr e0 (hbind s₁ (.ref a))
      (.cons rfl .nil) (hsp H hO hS)) ?_
    intro r s' h
    cases r with
    | error e => exact h.elim
    | ok fl =>
      cases fl with
      | next => exact h.elim
      | brk => exact h.elim
      | cont => exact h.elim
      | ret u =>
        obtain ⟨v, H', os, bare, un, hok', r', q⟩ := h
        have q' : v = .bl true := q
        subst q'
        obtain rfl : u = Value.bool true := r'
        refine ⟨rfl, OldK.of_keep ?_, os, bare⟩
        intro b o e
        rcases hO b with z | ⟨ob, xs, z⟩
        · exact un.keep b o e z (fun y => absurd (show b ∈ ([] : List Addr) from y) (by simp)) (by simp)
        · obtain ⟨e1, _⟩ := hok b _ z
          obtain ⟨e2, _⟩ := hok' b _ (un.frzs b ob _ z)
          rw [e] at e1
          cases e1
          exact e2
  by_cases hk : K.lookup a = none
  · let O : Obj := { cls := .type "list", data := .seq vs.toArray }
    let HH : Hp := fun b => if b = a then some (.frz O (.lst (ns.map V.int))) else none
    have h1 : HH a = some (.frz O (.lst (ns.map V.int))) := if_pos rfl
    have h2 : ∀ b, b ≠ a → HH b = none := fun b hb => if_neg hb
    refine core HH ?_ (.inl (.inr ⟨O, h1⟩)) ?_ ?_ (fun _ => hk)
    · intro b
      by_cases hb : b = a
      · subst hb
        exact .inr ⟨_, _, h1⟩
      · exact .inl (h2 b hb)
    · intro b u z
      by_cases hb : b = a
      · subst hb
        rw [h1] at z
        cases z
        exact ⟨ha, by rw [List.length_map]; exact hl, vs, _, rv, ha⟩
      · rw [h2 b hb] at z
        cases z
    · intro b z
      by_cases hb : b = a
      · exact hb
      · exact absurd (h2 b hb) z
  · obtain ⟨o, ho⟩ := Option.ne_none_iff_exists'.mp hk
    have e := KX a o ho
    rw [ha] at e
    cases e
    refine core (fun _ => none) (fun _ => .inl rfl) (.inr ⟨_, vs.toArray, _, ho, rfl, rfl, rfl, ?_, ?_⟩) ?_ ?_ ?_
    · rw [List.size_toArray, lenV]
      exact hl
    · simpa using rv
    · intro b u z
      cases (show (none : Option HO) = some u from z)
    · intro b z
      exact absurd rfl z
    · intro z
      exact absurd rfl z

/-- the goal that the head leaves, from the law's promise -/
theorem walk_ofG {l : PySem.W.OpenLaw} {n k : Nat} {q : Program} {loose : List Str} {XP : (Str → Option Value) → Heap → Prop}
    {YP : World → Heap → Prop} {d : DefRec} {K : Params → PySem.W.Frag} {sp : PySem.W.Frag → Sp} {x : Str}
    (hn : l.most = some n) (hn2 : n ≤ sizeLine) (hdf : d.params.defaults = []) (hr : Room k callerA)
    (hY : ∀ (w : World) (h : Heap), YP w h → (K w.params).In h)
    (F : ∀ (w : World) (mg : Str → Option Value) (fa : Addr) (h : Heap), (K w.params).In h → h.Ns mainGlobals mg →
      mg d.name = some (.ref fa) → ∃ fd : FuncData, (∀ (s : Shared) (u : Value), BindsTo s fd ⟨[u], []⟩ [(x, u)]) ∧
        ∀ base : Heap, (K w.params).In base → base.Ns mainGlobals mg →
          FnG l.prog w (K w.params) mg base CX0 k fa fd [x] (sp (K w.params)))
    (hsp : ∀ (K : PySem.W.Frag) (H : Hp) (a : Addr) (ns : List Int), ns.length ≤ n → Only H → SqL K H a (ns.map V.int) →
      sp K [.ref a] H (fun v _ => v = .bl true) fun _ _ _ => False) :
    PySem.W.WalkO q loose XP YP l.row.toRowW d [] (fun f vs => PySem.call f vs) := by
  refine Att.attach_call hn hdf ?_
  intro w s₀ s₁ mg mb fa o pm cd doc a vs ns G Y ho hd hcd hmg hobj hints hlen hg
  have KX := hY w _ Y
  obtain ⟨fd, hb, hF⟩ := F w mg fa _ KX G.T.g hmg
  exact law_callG KX G.T.g G.T.b G.T.builtins G.T.nolimit hg hobj hints (Nat.le_trans hlen hn2) hr hF hb
    (fun H hO hS => hsp (K w.params) H a ns hlen hO hS)
end LP

set_option Elab.async false
set_option linter.all false
set_option maxRecDepth 100000
set_option maxHeartbeats 4000000
/-! LPC: defs of a linked text, calls of them, heaps. -/
namespace LP
open PySem PySem.Spec L2
open PyProof.Rows hiding St

/-- a def of the text: where it stands, its name, how its arguments bind -/
structure Df (K : PySem.W.Frag) (mg : Str → Option Value) (x : Str) (st : Stmt) (ps : List Str) (f : Addr) (fd : FuncData) : Prop where
  F : Fun K x x st f fd
  g : mg x = some (.ref f)
  b : Binds K fd ps []

section
variable {X : Cx} {k : Nat} {f : Addr} {fd : FuncData} {ps : List Str} {sp : Sp} {x : Str} {st : Stmt} {p pos : Pos}
  {e : Expr} {es : List Expr} {t : TA}
theorem pe_df (D : Df X.K X.mg x st ps f fd) (G : FnOk X.prog X.w X.K X.mg X.base CX0 k f fd ps sp) (hr : Room k X.A)
    (hg : Gl X x) (ha : PA X (e :: es) t) (hdb : (x == ("__debug__" : Str)) = false := by decide)
    (he : starEach (e :: es) X.env = (false, eval e X.env) :: starEach es X.env := by rfl)
    (hpl : (backTo pos (starEach es X.env)).any (·.1) = false := by rfl) :
    PE X (.Call (.Name x p) (e :: es) [] pos) (tCall sp [] E0 t) := pe_call G hr hg D.g D.F.kp D.b .nil pass0 ha hdb he hpl
theorem pe_df0 (D : Df X.K X.mg x st ps f fd) (G : FnOk X.prog X.w X.K X.mg X.base CX0 k f fd ps sp) (hr : Room k X.A)
    (hg : Gl X x) (hdb : (x == ("__debug__" : Str)) = false := by decide) :
    PE X (.Call (.Name x p) [] [] pos) (tCall sp [] E0 tNil) := pe_call0 G hr hg D.g D.F.kp D.b .nil pass0 hdb
theorem pe_dfG (D : Df X.K X.mg x st ps f fd) (G : FnG X.prog X.w X.K X.mg X.base CX0 k f fd ps sp)
    (gd : X.A.guards = some []) (hr : Room k X.A)
    (hg : Gl X x) (ha : PA X (e :: es) t) (hdb : (x == ("__debug__" : Str)) = false := by decide)
    (he : starEach (e :: es) X.env = (false, eval e X.env) :: starEach es X.env := by rfl)
    (hpl : (backTo pos (starEach es X.env)).any (·.1) = false := by rfl) :
    PE X (.Call (.Name x p) (e :: es) [] pos) (tCall sp [] E0 t) := pe_callG G gd hr hg D.g D.F.kp D.b .nil pass0 ha hdb he hpl
end

/-! ### heaps -/
theorem upd_none {H : Hp} {a b : Addr} {o : HO} : upd H a o b = none ↔ b ≠ a ∧ H b = none := by
  unfold upd
  by_cases h : b = a <;> simp [h]
theorem upd_at {H : Hp} {a b : Addr} {o : HO} : upd H a o b = if b = a then some o else H b := rfl
theorem Same.new {H : Hp} {p : Addr} {o : HO} (h : H p = none) : Same H (upd H p o) := fun b u e => by
  rw [upd_ne (ne_of_none e h)]
  exact e
theorem Same.tup {K : PySem.W.Frag} {H H' : Hp} {a : Addr} {xs : List V} (e : Same H H') (h : SqT K H a xs) : SqT K H' a xs := by
  rcases h with (h | ⟨o, h⟩) | h
  · exact .inl (.inl (e _ _ h))
  · exact .inl (.inr ⟨o, e _ _ h⟩)
  · exact .inr h

/-! ### values that can be asked for their class -/
/-- the built-in class of a plain value -/
inductive Pl (K : PySem.W.Frag) (H : Hp) : V → String → Prop
  | non : Pl K H .non "NoneType"
  | bl (b : Bool) : Pl K H (.bl b) "bool"
  | int (i : Int) : Pl K H (.int i) "int"
  | str (x : Str) : Pl K H (.str x) "str"
  | lst {a : Addr} {xs : List V} (h : H a = some (.lst xs)) : Pl K H (.ref a) "list"
  | tup {a : Addr} {xs : List V} (h : H a = some (.tup xs)) : Pl K H (.ref a) "tuple"
  | dct {a : Addr} {xs : List (Key × V)} (h : H a = some (.dK xs)) : Pl K H (.ref a) "dict"
theorem Pl.ty {K : PySem.W.Frag} {H : Hp} {v : V} {t : String} (h : Pl K H v t) : TyX K H v (.type t) := by
  cases h with
  | non => exact .base .non
  | bl b => exact .base (.bl b)
  | int i => exact .base (.int i)
  | str x => exact .base (.str x)
  | lst h => exact .base (.lst h)
  | tup h => exact .base (.tup h)
  | dct h => exact .base (.dK h)
theorem Pl.same {K : PySem.W.Frag} {H H' : Hp} {v : V} {t : String} (e : Same H H') (h : Pl K H v t) : Pl K H' v t := by
  cases h with
  | non => exact .non
  | bl b => exact .bl b
  | int i => exact .int i
  | str x => exact .str x
  | lst h => exact .lst (e _ _ h)
  | tup h => exact .tup (e _ _ h)
  | dct h => exact .dct (e _ _ h)
/-- isinstance of a plain value, told -/
def isiB (t c : String) : Bool := (t == c) || (t == "bool" && c == "int")
theorem isi_int {K : PySem.W.Frag} {H : Hp} {v : V} {t : String} (h : Pl K H v t) : PySem.W.kitOne K (.type t) (.type "int") = some (isiB t "int") := by
  refine kit_ty ?_
  cases h <;> decide +kernel
theorem isi_bool {K : PySem.W.Frag} {H : Hp} {v : V} {t : String} (h : Pl K H v t) : PySem.W.kitOne K (.type t) (.type "bool") = some (isiB t "bool") := by
  refine kit_ty ?_
  cases h <;> decide +kernel
theorem isi_str {K : PySem.W.Frag} {H : Hp} {v : V} {t : String} (h : Pl K H v t) : PySem.W.kitOne K (.type t) (.type "str") = some (isiB t "str") := by
  refine kit_ty ?_
  cases h <;> decide +kernel
theorem isi_tuple {K : PySem.W.Frag} {H : Hp} {v : V} {t : String} (h : Pl K H v t) : PySem.W.kitOne K (.type t) (.type "tuple") = some (isiB t "tuple") := by
  refine kit_ty ?_
  cases h <;> decide +kernel
theorem isi_dict {K : PySem.W.Frag} {H : Hp} {v : V} {t : String} (h : Pl K H v t) : PySem.W.kitOne K (.type t) (.type "dict") = some (isiB t "dict") := by
  refine kit_ty ?_
  cases h <;> decide +kernel
theorem rd_isi {K : PySem.W.Frag} {H : Hp} {v : V} {t c : String} {Q : VK} (h : Pl K H v t) (k : PySem.W.kitOne K (.type t) (.type c) = some (isiB t c))
    (q : Q (.bl (isiB t c)) H) : rIsi K [v, .ty c] H Q := ⟨v, .ty c, .type t, .type c, _, rfl, .ty c, h.ty, k, q⟩

/-! ### readings that are told by what is tracked -/
section
variable {X : Cx}
theorem call_imp {f : Value} {r r' : List V → Hp → VK → Prop} (F : CallR X f r) (h : ∀ xs H Q, r' xs H Q → r xs H Q) : CallR X f r' :=
  fun pins s σ H xs us Q I rv q => F pins s σ H xs us Q I rv (h xs H Q q)
theorem op_imp {f : Value → Value → Sem Value} {r r' : R2} (F : OpR X f r) (h : ∀ x y H Q, r' x y H Q → r x y H Q) : OpR X f r' :=
  fun pins s σ H x y v u Q I rx ry q => F pins s σ H x y v u Q I rx ry (h x y H Q q)
theorem ix_imp {r r' : R2} (F : IxR X r) (h : ∀ x y H Q, r' x y H Q → r x y H Q) : IxR X r' :=
  fun va sl pins s σ H x y v u Q I rx ry q hs => F va sl pins s σ H x y v u Q I rx ry (h x y H Q q) hs
def rIxM : R2 := fun x y H Q => ∃ p xs i v, x = .ref p ∧ y = .int i ∧ H p = some (.lst xs) ∧ atI xs i = some v ∧ Q v H
theorem ix_M : IxR X rIxM := ix_imp ix_list fun x y H Q ⟨p, xs, i, v, h1, h2, h3, h4, q⟩ => ⟨p, xs, i, v, h1, h2, SqL.of h3, h4, q⟩
def rLenM : List V → Hp → VK → Prop := fun xs H Q => ∃ p ys, xs = [.ref p] ∧ H p = some (.lst ys) ∧ Q (.int (ys.length : Int)) H
theorem call_lenM : CallR X (.builtin "len") rLenM := call_imp call_len_seq fun xs H Q ⟨p, ys, h1, h2, q⟩ => ⟨p, ys, h1, .inl (SqL.of h2), q⟩
def rInt : List V → Hp → VK → Prop := fun xs H Q => ∃ i, xs = [.int i] ∧ Q (.int i) H
theorem call_intI : CallR X (.type "int") rInt := call_imp call_int1 fun xs H Q h => .inl h
def rIntB : List V → Hp → VK → Prop := fun xs H Q => ∃ k, xs = [.bl k] ∧ Q (.int (if k then 1 else 0)) H
theorem call_intB : CallR X (.type "int") rIntB := call_imp call_int1 fun xs H Q h => .inr h
end

theorem pe_imp {X : Cx} {e : Expr} {t t' : TE} (h : PE X e t) (i : ∀ σ H Q, t' σ H Q → t σ H Q) : PE X e t' :=
  ⟨fun pins s σ H Q I q => h.run pins s σ H Q I (i σ H Q q)⟩
/-- a method of a text, of a tracked list, of a tracked dict -/
def tSM (r : V → List V → Hp → VK → Prop) (to : TE) (t : TA) : TE := fun σ H Q => to σ H fun x H1 => ∃ a, x = .str a ∧ t σ H1 fun xs H2 => r x xs H2 Q
def tLM (r : V → List V → Hp → VK → Prop) (to : TE) (t : TA) : TE := fun σ H Q => to σ H fun x H1 => ∃ p ys, x = .ref p ∧ H1 p = some (.lst ys) ∧ t σ H1 fun xs H2 => r x xs H2 Q
section
variable {X : Cx} {o e : Expr} {es : List Expr} {to : TE} {t : TA} {name : Str} {apos cpos : Pos} {id : String} {r : V → List V → Hp → VK → Prop}
/-- a reading closed under what follows from what is wanted -/
def tUp (to : TE) : TE := fun σ H Q => ∃ Q1 : VK, to σ H Q1 ∧ ∀ v H1, Q1 v H1 → Q v H1
theorem pe_up (h : PE X o to) : PE X o (tUp to) := by
  constructor
  rintro pins s σ H Q I ⟨Q1, q1, i⟩
  refine thn (h.run pins s σ H Q1 I q1) ?_
  rintro v s1 ⟨x, H1, I1, r1, q⟩
  exact ⟨x, H1, I1, r1, i x H1 q⟩
theorem pe_sm (pa : PlainAttrs "str") (slot : Slot "str" name id) (hty : typeOf (.builtin id) = pure (.type "method_descriptor")) (hm : MtR X id r) (ho : PE X o to) (ha : PA X (e :: es) t)
    (hbase : attributeBase o name X.env (eval o X.env) = eval o X.env := by rfl)
    (hfew : ((backTo cpos (starEach (e :: es) X.env)).all (fun x => !x.1) && (backToKw cpos (keywordEach [] X.env)).all (fun x => x.1.isSome) &&
      decide ((e :: es).length + ([] : List Keyword).length + (if ([] : List Keyword).isEmpty then 0 else 1) < 30)) = true := by rfl)
    (hline : (apos.endLine == cpos.line) = true := by rfl) (hs : starEach (e :: es) X.env = (false, eval e X.env) :: starEach es X.env := by rfl)
    (hplain : (backTo cpos (starEach es X.env)).any (·.1) = false := by rfl) : PE X (.Call (.Attribute o name apos) (e :: es) [] cpos) (tSM r to t) := by
  refine pe_imp (pe_bm pa slot hty hm (pe_up ho) ha hbase hfew hline hs hplain) ?_
  intro σ H Q h
  refine ⟨_, h, ?_⟩
  rintro v H1 ⟨a, rfl, q⟩
  exact ⟨rfl, q⟩
theorem pe_lm (pa : PlainAttrs "list") (slot : Slot "list" name id) (hty : typeOf (.builtin id) = pure (.type "method_descriptor")) (hm : MtR X id r) (ho : PE X o to) (ha : PA X (e :: es) t)
    (hbase : attributeBase o name X.env (eval o X.env) = eval o X.env := by rfl)
    (hfew : ((backTo cpos (starEach (e :: es) X.env)).all (fun x => !x.1) && (backToKw cpos (keywordEach [] X.env)).all (fun x => x.1.isSome) &&
      decide ((e :: es).length + ([] : List Keyword).length + (if ([] : List Keyword).isEmpty then 0 else 1) < 30)) = true := by rfl)
    (hline : (apos.endLine == cpos.line) = true := by rfl) (hs : starEach (e :: es) X.env = (false, eval e X.env) :: starEach es X.env := by rfl)
    (hplain : (backTo cpos (starEach es X.env)).any (·.1) = false := by rfl) : PE X (.Call (.Attribute o name apos) (e :: es) [] cpos) (tLM r to t) := by
  refine pe_imp (pe_bm pa slot hty hm (pe_up ho) ha hbase hfew hline hs hplain) ?_
  intro σ H Q h
  refine ⟨_, h, ?_⟩
  rintro v H1 ⟨p, ys, rfl, hp, q⟩
  exact ⟨.inl ⟨rfl, ys, SqL.of hp⟩, q⟩
end
/-! ### the rest of a block, folded -/
def Later (u : TS) (D : Ends) (σ : St) (H : Hp) : Prop := u D σ H
theorem later {u : TS} {D : Ends} {σ : St} {H : Hp} (h : u D σ H) : Later u D σ H := h
theorem tSeq_eq (t u : TS) (D : Ends) (σ : St) (H : Hp) : tSeq t u D σ H = t { D with nx := Later u D } σ H := rfl
theorem tIfS_eq (c : TT) (t u : TS) (D : Ends) (σ : St) (H : Hp) :
  tIfS c t u D σ H = c σ H fun b H1 => if b = true then Later t D σ H1 else Later u D σ H1 := rfl
/-! ### loops -/
def Loop (J : It) (g : TG) (tb : TS) (D : Ends) (σ : St) (H1 : Hp) : Prop := ∃ W : Nat → Nat → St → Hp → Prop, (∃ m, W 0 m σ H1) ∧ ∀ i m σ H, W i m σ H →
  (J.stop i H ∧ D.nx σ H) ∨ (J.go i H ∧ ∃ N : St → Hp → Prop, (∀ σ' H', N σ' H' → ∃ m', m' < m ∧ W (i + 1) m' σ' H') ∧
    ∀ x H', J.yld i H x H' → g x σ H' fun σ2 H2 => tb { D with nx := N, ct := N, bk := D.nx } σ2 H2)
theorem tFor_eq (wi : TI) (g : TG) (tb : TS) (D : Ends) (σ : St) (H : Hp) : tFor wi g tb D σ H = wi σ H fun J H1 => Loop J g tb D σ H1 := rfl
theorem loop_range {n : Nat} {g : TG} {tb : TS} {D : Ends} {σ : St} {H : Hp} (Pv : Nat → St → Hp → Prop) (h0 : Pv 0 σ H)
    (hs : ∀ (i : Nat) (σ : St) (H : Hp), i < n → Pv i σ H → g (.int (i : Int)) σ H fun σ2 H2 => Later tb { D with nx := Pv (i + 1), ct := Pv (i + 1), bk := D.nx } σ2 H2)
    (hd : ∀ σ H, Pv n σ H → D.nx σ H) : Loop (Itr 0 n) g tb D σ H :=
  for_range (lo := 0) (n := n) Pv h0 (fun i σ H hi p => by rw [Int.zero_add]; exact hs i σ H hi p) hd
theorem loop_list {K : PySem.W.Frag} {a : Addr} {xs : List V} {g : TG} {tb : TS} {D : Ends} {σ : St} {H : Hp} (Pv : Nat → St → Hp → Prop) (h0 : Pv 0 σ H)
    (hl : ∀ i σ H, i ≤ xs.length → Pv i σ H → SqL K H a xs)
    (hs : ∀ (i : Nat) (x : V) (σ : St) (H : Hp), xs[i]? = some x → Pv i σ H → g x σ H fun σ2 H2 => Later tb { D with nx := Pv (i + 1), ct := Pv (i + 1), bk := D.nx } σ2 H2)
    (hd : ∀ σ H, Pv xs.length σ H → D.nx σ H) : Loop (Itl K a) g tb D σ H :=
  for_list (K := K) (a := a) (xs := xs) Pv h0 hl hs hd
/-- an invariant, folded -/
theorem inv_of {α : Type} (P : α → St → Hp → Prop) : ∃ Pv : α → St → Hp → Prop, ∀ i σ H, Pv i σ H ↔ P i σ H := ⟨P, fun _ _ _ => Iff.rfl⟩
def LcLoop (J : It) (g : TG) (tt : TT) (te : TE) (vs : List Nat) (σ : St) (H1 : Hp) (Q : VK) : Prop := ∀ D, H1 D = none → ∃ W : Nat → Nat → Hp → Prop, (∃ m, W 0 m (upd H1 D (.lst []))) ∧ ∀ i m H, W i m H →
  (J.stop i H ∧ Q (.ref D) H) ∨ (J.go i H ∧ ∃ Nx : Hp → Prop, (∀ H', Nx H' → ∃ m', m' < m ∧ W (i + 1) m' H') ∧ ∀ x H', J.yld i H x H' → g x (wipe σ vs) H' fun σ2 H2 => wipe σ2 vs = wipe σ vs ∧
    tt σ2 H2 fun b H3 => if b = true then te σ2 H3 fun y H4 => ∃ acc, H4 D = some (.lst acc) ∧ acc.length < sizeLine ∧ Nx (upd H4 D (.lst (acc ++ [y]))) else Nx H3)
theorem tLc_eq (wi : TI) (g : TG) (tt : TT) (te : TE) (vs : List Nat) (σ : St) (H : Hp) (Q : VK) : tLc wi g tt te vs σ H Q = wi σ H fun J H1 => LcLoop J g tt te vs σ H1 Q := rfl

theorem loop_zip {K : PySem.W.Frag} {a b : Addr} {xs ys : List V} {g : TG} {tb : TS} {D : Ends} {σ : St} {H : Hp} (hl : xs.length = ys.length) (Pv : Nat → St → Hp → Prop) (h0 : Pv 0 σ H)
    (hq : ∀ i σ H, Pv i σ H → SqL K H a xs ∧ SqL K H b ys)
    (hs : ∀ (i : Nat) (x y : V) (T : Addr) (σ : St) (H : Hp), xs[i]? = some x → ys[i]? = some y → Pv i σ H → H T = none →
      g (.ref T) σ (upd H T (.tup [x, y])) fun σ2 H2 => Later tb { D with nx := Pv (i + 1), ct := Pv (i + 1), bk := D.nx } σ2 H2)
    (hd : ∀ σ H, Pv xs.length σ H → D.nx σ H) : Loop (Itz K a b) g tb D σ H :=
  RZ.for_zipL (K := K) (a := a) (b := b) hl Pv h0 hq hs hd
/-- a comprehension whose test and element leave what is known -/
theorem lc_pure {K : PySem.W.Frag} {a : Addr} {xs : List V} {j : Nat} {tt : TT} {te : TE} {vs : List Nat} {σ : St} {H : Hp} {Q : VK} (hx : SqL K H a xs) (hz : xs.length ≤ 1000000) (f : V → Bool) (v : V → V)
    (hw : ∀ x, wipe ((wipe σ vs).set j (some x)) vs = wipe σ vs)
    (ht : ∀ x, x ∈ xs → ∀ H1, Same H H1 → ∀ R : Bool → Hp → Prop, (∀ H2, Same H1 H2 → R (f x) H2) → tt ((wipe σ vs).set j (some x)) H1 R)
    (he : ∀ x, x ∈ xs → f x = true → ∀ H1, Same H H1 → ∀ R : VK, (∀ H2, Same H1 H2 → R (v x) H2) → te ((wipe σ vs).set j (some x)) H1 R)
    (q : ∀ p H2, H p = none → Same H H2 → H2 p = some (.lst ((xs.filter f).map v)) → Q (.ref p) H2) : LcLoop (Itl K a) (gName j) tt te vs σ H Q := by
  intro D hD
  refine lc_list (K := K) (a := a) (xs := xs) (fun i H' => Same H H' ∧ H' D = some (.lst (((xs.take i).filter f).map v))) ⟨Same.new hD, upd_same⟩ (fun i H' _ p => p.1.seq hx) ?_ ?_
  · rintro i x H1 hi ⟨e1, d1⟩
    have hm : x ∈ xs := List.mem_of_getElem? hi
    have htk : xs.take (i + 1) = xs.take i ++ [x] := by rw [List.take_add_one, hi]; rfl
    refine ⟨hw x, ht x hm H1 e1 _ fun H2 e2 => ?_⟩
    cases hf : f x with
    | true =>
      show te _ H2 _
      refine he x hm hf H2 (e1.trans e2) _ fun H3 e3 => ?_
      refine ⟨_, e3 _ _ (e2 _ _ d1), ?_, ?_, ?_⟩
      · have h1 : (((xs.take i).filter f).map v).length ≤ xs.length := by
          rw [List.length_map]
          exact Nat.le_trans (List.length_filter_le _ _) (by rw [List.length_take]; omega)
        exact Nat.lt_of_le_of_lt (Nat.le_trans h1 hz) (by decide)
      · intro b o e
        rw [upd_ne (ne_of_none e hD)]
        exact e3 _ _ (e2 _ _ (e1 _ _ e))
      · rw [htk, upd_same, List.filter_append, List.map_append, List.filter_cons, if_pos hf]
        rfl
    | false =>
      show Same H H2 ∧ _
      refine ⟨e1.trans e2, ?_⟩
      rw [htk, List.filter_append, List.filter_cons, if_neg (by rw [hf]; decide), List.map_append]
      show H2 D = some (.lst (_ ++ []))
      rw [List.append_nil]
      exact e2 _ _ d1
  · rintro H1 ⟨e1, d1⟩
    rw [List.take_length] at d1
    exact q D H1 hD e1 d1

/-! ### repr of truths -/
def reprBB (a b : Bool) : Str := (PyData.list [.bool a, .bool b]).shown
theorem repr_bb {K : PySem.W.Frag} {H : Hp} {p : Addr} {a b : Bool} {Q : VK} (h : H p = some (.lst [.bl a, .bl b])) (q : Q (.str (reprBB a b)) H) : rReprD K [.ref p] H Q := by
  refine ⟨.ref p, .list [.bool a, .bool b], rfl, .lst (SqL.of h) (.cons (.bl a) (.cons (.bl b) .nil)), ?_, ?_, ?_, ?_, q⟩
  · cases a <;> cases b <;> decide
  · cases a <;> cases b <;> decide
  · cases a <;> cases b <;> decide
  · cases a <;> cases b <;> decide +kernel
theorem repr_b {K : PySem.W.Frag} {H : Hp} {a : Bool} {Q : VK} (q : Q (.str (PyData.bool a).shown) H) : rReprD K [.bl a] H Q := by
  refine ⟨.bl a, .bool a, rfl, .bl a, ?_, ?_, ?_, ?_, q⟩
  · cases a <;> decide
  · cases a <;> decide
  · cases a <;> decide
  · cases a <;> decide +kernel
theorem scal_str (x y : Str) : scal (.str x) (.str y) = true := rfl

theorem cx_K {CX : CXT} {P : Program} {w : World} {K : PySem.W.Frag} {mg : Str → Option Value} {base : Heap} {N : List Str} {qual : Str}
    {scope : Scope} {f : Addr} {cd : Value} {A : Around} {outer : List Env} {s : Shared} {H : Hp} {E : XK} :
    (cxOf CX P w K mg base N qual scope f cd A outer s H E).K = K := rfl
theorem cx_w {CX : CXT} {P : Program} {w : World} {K : PySem.W.Frag} {mg : Str → Option Value} {base : Heap} {N : List Str} {qual : Str}
    {scope : Scope} {f : Addr} {cd : Value} {A : Around} {outer : List Env} {s : Shared} {H : Hp} {E : XK} :
    (cxOf CX P w K mg base N qual scope f cd A outer s H E).w = w := rfl
theorem atI0 {α : Type} (x : α) (r : List α) : atI (x :: r) 0 = some x := atI_nat (j := 0) rfl
theorem atI1 {α : Type} (x y : α) (r : List α) : atI (x :: y :: r) 1 = some y := atI_nat (j := 1) rfl
theorem atI2 {α : Type} (x y z : α) (r : List α) : atI (x :: y :: z :: r) 2 = some z := atI_nat (j := 2) rfl
theorem atI_of {α : Type} {xs : List α} {r : Int} (h0 : 0 ≤ r) (h : r.toNat < xs.length) : atI xs r = some xs[r.toNat] := by
  have e : atI xs ((r.toNat : Nat) : Int) = some xs[r.toNat] := atI_nat (List.getElem?_eq_getElem h)
  rw [Int.toNat_of_nonneg h0] at e
  exact e
theorem ixN30 : ixN 3 0 = some 0 := by decide
theorem ixN32 : ixN 3 2 = some 2 := by decide
/-! ### powers of ten in the draws -/
theorem cpow59 : CPow 10 59 := ⟨by decide, by decide, by decide⟩
theorem cpow17 : CPow 10 17 := ⟨by decide, by decide, by decide⟩
theorem cpow60 : CPow 10 60 := ⟨by decide, by decide, by decide⟩
theorem mul60 : CMulW (10 ^ Int.toNat 60) (10 ^ Int.toNat 60) := wide_mul (a := 200) (b := 200) (by decide) (by decide) (by decide) (by decide) (by decide)
end LP

set_option Elab.async false
set_option linter.all false
set_option maxRecDepth 100000
set_option maxHeartbeats 4000000
/-! LPT: texts of numbers, stripped texts (mathematics). -/
namespace LP
open PySem PySem.Spec L2
open PyProof.Rows hiding St
open PySem.Builtin.Str TL

theorem tl_ofString (s : String) : tl (Str.ofString s) = s.toList.map Char.toNat := by
  show (Str.ofString s).cps.toList = _
  rw [Str.ofString_eq_toList]
theorem tl_neg (m : Nat) : tl (Str.ofString (toString (Int.negSucc m))) = 45 :: numL (m + 1) := by
  rw [tl_ofString]
  have e : toString (Int.negSucc m) = "-" ++ Nat.repr (m + 1) := rfl
  rw [e, String.toList_append, List.map_append]
  have e2 : (Nat.repr (m + 1)).toList = Nat.toDigits 10 (m + 1) := Nat.toList_repr
  rw [e2]
  rfl
theorem tl_int (i : Int) : tl (Str.ofString (toString i)) = if i < 0 then 45 :: numL i.natAbs else numL i.natAbs := by
  cases i with
  | ofNat m =>
    rw [if_neg (by show ¬ (Int.ofNat m) < 0; simp)]
    exact tl_num m
  | negSucc m =>
    rw [if_pos (Int.negSucc_lt_zero m)]
    exact tl_neg m
theorem numL_le {n k : Nat} (hk : 0 < k) : (numL n).length ≤ k ↔ n < 10 ^ k := by
  unfold numL
  rw [List.length_map]
  exact Nat.length_toDigits_le_iff (by decide) hk
theorem len_tl' (x : Str) : x.length = (tl x).length := by
  show x.cps.size = x.cps.toList.length
  rw [Array.length_toList]
theorem getD_tl (x : Str) (k : Nat) : x.cps.getD k 0 = (tl x).getD k 0 := (getD_list x k).symm
theorem strSub_len (x : Str) (i j : Nat) (h1 : i ≤ j) (h2 : j ≤ x.length) : (strSub x i j).length = j - i := by
  show (x.cps.extract i j).size = j - i
  rw [Array.size_extract]
  have : j ≤ x.cps.size := h2
  omega
/-- what is stripped is empty just if all signs go -/
theorem strip_nil (x y : Str) : (Txt.stripChars x y).length = 0 ↔ ∀ c ∈ tl x, y.cps.contains c = true := by
  unfold Txt.stripChars
  rw [stripBy_eq]
  obtain ⟨a0, a1, a2⟩ := lo_facts y.cps.contains x
  obtain ⟨b0, b1, b2, b3⟩ := hi_facts y.cps.contains x _ a0
  rw [strSub_len _ _ _ b0 b1]
  have key : ∀ k, k < x.length → x.cps.getD k 0 ∈ tl x := by
    intro k hk
    rw [getD_tl]
    have hk' : k < (tl x).length := by rw [← len_tl']; exact hk
    rw [List.getD_eq_getElem?_getD, List.getElem?_eq_getElem hk']
    exact List.getElem_mem hk'
  constructor
  · intro h c hc
    obtain ⟨k, hk, e⟩ := List.mem_iff_getElem.mp hc
    have hkx : k < x.length := by rw [len_tl']; exact hk
    have e' : x.cps.getD k 0 = c := by
      rw [getD_tl, List.getD_eq_getElem?_getD, List.getElem?_eq_getElem hk]
      exact e
    rw [← e']
    by_cases hl : k < stripLo y.cps.contains true x
    · exact a1 k hl
    · exact b2 k (by omega) hkx
  · intro h
    rcases a2 with e | e
    · omega
    · by_cases hl : stripLo y.cps.contains true x < x.length
      · rw [h _ (key _ hl)] at e
        cases e
      · omega
/-- the figures of a number, its sign stripped -/
theorem len_let (i : Int) : (Txt.stripChars (Str.ofString (toString i)) "-").length = (numL i.natAbs).length := by
  have e := tl_int i
  generalize Str.ofString (toString i) = x at e
  unfold Txt.stripChars
  rw [stripBy_eq]
  obtain ⟨a0, a1, a2⟩ := lo_facts ((Str.ofString "-").cps.contains) x
  obtain ⟨b0, b1, b2, b3⟩ := hi_facts ((Str.ofString "-").cps.contains) x _ a0
  rw [strSub_len _ _ _ b0 b1]
  have hgo : ∀ c : Nat, (Str.ofString "-").cps.contains c = decide (c = 45) := by
    intro c
    have : (Str.ofString "-").cps = #[45] := by decide +kernel
    rw [this]
    by_cases h : c = 45
    · subst h; simp
    · simp [h]
  have hne := numL_ne i.natAbs
  have hpos : 0 < (numL i.natAbs).length := List.length_pos_iff.mpr hne
  have hdig : ∀ k, k < (numL i.natAbs).length → (numL i.natAbs).getD k 0 ≠ 45 := by
    intro k hk h
    rw [List.getD_eq_getElem?_getD, List.getElem?_eq_getElem hk] at h
    have hm : (numL i.natAbs)[k] ∈ numL i.natAbs := List.getElem_mem hk
    have h' : (numL i.natAbs)[k] = 45 := h
    rw [h'] at hm
    exact numL_free (.inl (by decide)) hm
  have hlen := len_tl' x
  by_cases hi : i < 0
  · rw [if_pos hi] at e
    rw [e, List.length_cons] at hlen
    have x0 : x.cps.getD 0 0 = 45 := by rw [getD_tl, e]; rfl
    have xs : ∀ k, x.cps.getD (k + 1) 0 = (numL i.natAbs).getD k 0 := by intro k; rw [getD_tl, e]; rfl
    have lo1 : stripLo ((Str.ofString "-").cps.contains) true x = 1 := by
      by_cases h0 : stripLo ((Str.ofString "-").cps.contains) true x = 0
      · rcases a2 with z | z
        · omega
        · rw [h0, x0, hgo] at z
          simp at z
      · by_cases h2 : 1 < stripLo ((Str.ofString "-").cps.contains) true x
        · have z := a1 1 h2
          rw [xs 0, hgo] at z
          exact absurd (of_decide_eq_true z) (hdig 0 hpos)
        · omega
    have hi1 : stripHi ((Str.ofString "-").cps.contains) true x (stripLo ((Str.ofString "-").cps.contains) true x) = x.length := by
      by_cases h0 : stripHi ((Str.ofString "-").cps.contains) true x (stripLo ((Str.ofString "-").cps.contains) true x) < x.length
      · have z := b2 (x.length - 1) (by omega) (by omega)
        have e3 : x.length - 1 = (numL i.natAbs).length - 1 + 1 := by omega
        rw [e3, xs, hgo] at z
        exact absurd (of_decide_eq_true z) (hdig _ (by omega))
      · omega
    rw [hi1, lo1]
    omega
  · rw [if_neg hi] at e
    rw [e] at hlen
    have xs : ∀ k, x.cps.getD k 0 = (numL i.natAbs).getD k 0 := by intro k; rw [getD_tl, e]
    have lo1 : stripLo ((Str.ofString "-").cps.contains) true x = 0 := by
      by_cases h0 : stripLo ((Str.ofString "-").cps.contains) true x = 0
      · exact h0
      · have z := a1 0 (by omega)
        rw [xs 0, hgo] at z
        exact absurd (of_decide_eq_true z) (hdig 0 hpos)
    have hi1 : stripHi ((Str.ofString "-").cps.contains) true x (stripLo ((Str.ofString "-").cps.contains) true x) = x.length := by
      by_cases h0 : stripHi ((Str.ofString "-").cps.contains) true x (stripLo ((Str.ofString "-").cps.contains) true x) < x.length
      · have z := b2 (x.length - 1) (by omega) (by omega)
        rw [xs, hgo] at z
        exact absurd (of_decide_eq_true z) (hdig _ (by omega))
      · omega
    rw [hi1, lo1]
    omega
/-- the first sign of a number -/
theorem head_int (i : Int) : ∃ c, atI (tl (Str.ofString (toString i))) 0 = some c ∧ (c = 45 ↔ i < 0) := by
  rw [tl_int i]
  by_cases hi : i < 0
  · rw [if_pos hi]
    exact ⟨45, atI0 _ _, by simp [hi]⟩
  · rw [if_neg hi]
    cases h : numL i.natAbs with
    | nil => exact absurd h (numL_ne _)
    | cons c r =>
      refine ⟨c, atI0 _ _, ?_⟩
      have : c ≠ 45 := by
        intro z
        have hm : c ∈ numL i.natAbs := by rw [h]; exact List.mem_cons_self
        rw [z] at hm
        exact numL_free (.inl (by decide)) hm
      simp [this, hi]
theorem log2_of {n : Nat} {k : Nat} (h : n < 2 ^ k) (hk : 0 < k) : n.log2 < k := PySem.Flt.log2_lt_of hk h
end LP

set_option Elab.async false
set_option linter.all false
set_option maxRecDepth 100000
set_option maxHeartbeats 8000000
/-! LPS: sets of texts: set(list of texts), sorted of such a set. -/
namespace LP
open PySem PySem.Spec L2
open PyProof.Rows hiding St

/-! ### what a set of texts is -/
def tkey (e : Int × Value) : Str := match e.2 with
  | .str x _ => x
  | _ => Str.empty
def GoodT (w : World) (e : Int × Value) : Prop := ∃ x tk, e.2 = Value.str x tk ∧ e.1 = hashStr w x
/-- the table rises, and the order of a walk is told by it -/
def Walked (w : World) (t : SetTable) : Prop := Ris t.place.toList ∧ (w.params.followText "set-order" = true ∨ t.led = true)
structure TxIn (w : World) (es : Array (Int × Value)) (S : Str → Bool) : Prop where
  good : ∀ e ∈ es.toList, GoodT w e
  nd : (es.toList.map tkey).Nodup
  mem : ∀ k, S k = true ↔ k ∈ es.toList.map tkey
  few : es.size < scanBound
def SetT (w : World) (h : Heap) (a : Addr) (S : Str → Bool) (n : Nat) : Prop := ∃ o es ep t,
  h.get? a = some o ∧ o.ExactSet ∧ o.data = .set es ep t ∧ TxIn w es S ∧ t.fits es.size = true ∧ es.size = n ∧ Walked w t

section
variable {P : Program} {w : World} {h h' : Heap} {a : Addr} {S : Str → Bool} {n : Nat}
theorem SetT.at (R : SetT w h a S n) (k : ∀ o, h.get? a = some o → h'.get? a = some o) : SetT w h' a S n := by
  obtain ⟨o, es, ep, t, ho, r⟩ := R
  exact ⟨o, es, ep, t, k o ho, r⟩
theorem SetT.congr {S' : Str → Bool} {n' : Nat} (R : SetT w h a S n) (e : ∀ k, S' k = S k) (en : n' = n) : SetT w h a S' n' := by
  have q : S' = S := funext e
  rw [q, en]
  exact R
theorem tx_elems {l : List (Int × Value)} (g : ∀ e ∈ l, GoodT w e) : ElemsOf (strKind P w) l := by
  intro e he
  obtain ⟨x, tk, h1, h2⟩ := g e he
  constructor
  · refine ⟨x, ?_, h2⟩
    rw [h1]
    exact strKind_is P w x tk
  · rw [h1]
    rfl
theorem tx_is {e : Int × Value} (g : GoodT w e) (k : Str) : (strKind P w).is k e.2 = true ↔ tkey e = k := by
  obtain ⟨x, tk, h1, _⟩ := g
  unfold tkey
  rw [h1]
  constructor
  · intro q
    obtain ⟨u, e2⟩ := Value.isStrOf_shape (show Value.isStrOf k (.str x tk) = true from q)
    injection e2
  · intro q
    have q' : x = k := q
    rw [q']
    exact strKind_is P w k tk
theorem tx_mem {l : List (Int × Value)} (g : ∀ e ∈ l, GoodT w e) (k : Str) : k ∈ l.map tkey ↔ ∃ e ∈ l, (strKind P w).is k e.2 = true := by
  rw [List.mem_map]
  constructor
  · rintro ⟨e, he, q⟩
    exact ⟨e, he, (tx_is (P := P) (g e he) k).2 q⟩
  · rintro ⟨e, he, q⟩
    exact ⟨e, he, (tx_is (P := P) (g e he) k).1 q⟩
end

section
variable {P : Program} {w : World} {A : Around} {E : Value → Shared → Prop} {s : Shared} {a : Addr} {S : Str → Bool} {n : Nat}

theorem setT_tail {g : Bool → Sem Unit}
    (hg : ∀ (b : Bool) (s₁ : Shared) (Q' : Unit → Shared → Prop), Q' () s₁ → wpAny (model P w) A (g b) Q' E s₁)
    {o : Obj} {es : Array (Int × Value)} {ep : Nat} {t : SetTable} (ho : s.heap.get? a = some o) (hex : o.ExactSet) (hd : o.data = .set es ep t)
    {es1 : Array (Int × Value)} {t2 : SetTable} {S' : Str → Bool} (T1 : TxIn w es1 S') (hf2 : t2.fits es1.size = true) (hw : Walked w t2)
    {wasDummy : Bool} {R : Option Bool → Shared → Prop}
    (hR : ∀ h', Heap.SameBut a s.heap h' → SetT w h' a S' es1.size → R (some true) { s with heap := h' }) :
    wpAny (model P w) A (do
        storeSet a es1 t2
        if (!wasDummy && t2.tooFull) = true then do
            g (relayAll t2 es1 (SetTable.grown es1.size)).2.2
            storeSet a (relayAll t2 es1 (SetTable.grown es1.size)).1
              (relayAll t2 es1 (SetTable.grown es1.size)).2.1
            pure (some true)
          else pure (some true)) R E s := by
  refine wpAny_bind (wpAny_storeSet_of ho hd ?_ (fits_of_scanBound T1.few))
  have ho1 := store_at (es' := es1) (t' := t2) ho hd
  have sb1 := Heap.SameBut.update s.heap a (Obj.putSet es1 t2)
  split
  · have pm := relayAll_perm t2 es1 (SetTable.grown es1.size)
    have q1 := relayAll_fits t2 es1 (SetTable.grown es1.size)
    have q2 := relayAll_ris t2 es1 (SetTable.grown es1.size)
    have q3 := relayAll_led t2 es1 (SetTable.grown es1.size)
    generalize relayAll t2 es1 (SetTable.grown es1.size) = Z at pm q1 q2 q3 ⊢
    obtain ⟨es2, t3, gave⟩ := Z
    dsimp only at pm q1 q2 q3 ⊢
    have hsz : es2.size = es1.size := by
      have := pm.length_eq
      rw [Array.length_toList, Array.length_toList] at this
      exact this
    have few2 : es2.size < scanBound := hsz ▸ T1.few
    refine wpAny_bind (hg _ _ _ ?_)
    refine wpAny_bind (wpAny_storeSet_of ho1 rfl ?_ (fits_of_scanBound few2))
    have ho2 := store_at (es' := es2) (t' := t3) ho1 rfl
    refine wpAny_pure (hR _ (sb1.trans (Heap.SameBut.update _ a _)) ?_)
    have pk := pm.map tkey
    have T2 : TxIn w es2 S' := ⟨fun e he => T1.good e (pm.mem_iff.mp he), pk.nodup_iff.mpr T1.nd, fun k => (T1.mem k).trans pk.mem_iff.symm, few2⟩
    refine ⟨_, es2, _, t3, ho2, hex, rfl, T2, q1, hsz, q2, ?_⟩
    rcases hw.2 with z | z
    · exact .inl z
    · exact .inr (q3.trans z)
  · exact wpAny_pure (hR _ sb1 ⟨_, es1, _, t2, ho1, hex, rfl, T1, hf2, rfl, hw⟩)

theorem setT_add {k : Str} {tk : Tok} {Q : Bool → Shared → Prop} (R : SetT w s.heap a S n) (room : n + 1 < scanBound)
    (hQ : ∀ h', Heap.SameBut a s.heap h' → SetT w h' a (fun j => S j || decide (j = k)) (if S k = true then n else n + 1) →
      Q (!S k) { s with heap := h' }) :
    wpAny (model P w) A (setAddHashed a (.str k tk) ((strKind P w).hash k)) Q E s := by
  obtain ⟨o, es, ep, t, ho, hex, hd, T, hf, hn, hw⟩ := R
  have hkey : (strKind P w).is k (.str k tk) = true := strKind_is P w k tk
  have hsc : (Value.str k tk).scannable = true := rfl
  have hel : ElemsOf (strKind P w) es.toList := tx_elems T.good
  unfold setAddHashed setAddHashedIn
  refine wpAny_holding (wpAny_bind (wpAny_setState_of ho hd hf ?_))
  dsimp only
  rw [byScan_of hsc T.few hel]
  simp only [↓reduceIte]
  unfold setAddByScan
  refine wpAny_bind ?_
  refine wpAny_bind (wpAny_rule ?_)
  refine wpAny_bind (wpAny_setScan_of hkey ho hd hf hel ?_)
  cases hfi : List.findIdx? (fun e => (strKind P w).is k e.2) es.toList with
  | some j =>
    dsimp only
    obtain ⟨hj, pj, _⟩ := List.findIdx?_eq_some_iff_getElem.mp hfi
    have hSk : S k = true := (T.mem k).2 ((tx_mem (P := P) T.good k).2 ⟨es.toList[j], List.getElem_mem hj, pj⟩)
    refine wpAny_pure (wpAny_pure ?_)
    have mem' : ∀ i, (S i || decide (i = k)) = true ↔ i ∈ es.toList.map tkey := by
      intro i
      rw [Bool.or_eq_true, decide_eq_true_eq, ← T.mem i]
      constructor
      · rintro (z | z)
        · exact z
        · rw [z]; exact hSk
      · exact .inl
    have q := hQ s.heap (Heap.SameBut.refl a s.heap) ⟨o, es, ep, t, ho, hex, hd, ⟨T.good, T.nd, mem', T.few⟩, hf, by rw [if_pos hSk]; exact hn, hw⟩
    rw [hSk] at q
    exact q
  | none =>
    dsimp only
    have hnk : k ∉ es.toList.map tkey := by
      intro z
      obtain ⟨e, he, q⟩ := (tx_mem (P := P) T.good k).1 z
      have c := List.findIdx?_eq_none_iff.mp hfi e he
      rw [q] at c
      cases c
    have hSk : S k = false := by
      cases q : S k with
      | false => rfl
      | true => exact absurd ((T.mem k).1 q) hnk
    have hgw : ∀ (b : Bool) {s₁ : Shared} {Q' : Unit → Shared → Prop}, Q' () s₁ →
        wpAny (model P w) A (match b with | true => rule "set.scan.the-table-gave-way" | false => pure ()) Q' E s₁ := by
      intro b s₁ Q' q
      cases b
      · exact wpAny_pure q
      · exact wpAny_rule q
    have pm := layNew_perm t es ((strKind P w).hash k) (.str k tk)
    have q1 := layNew_fits t es ((strKind P w).hash k) (.str k tk)
    have q2 := layNew_ris t es ((strKind P w).hash k) (.str k tk) hw.1
    have q3 := layNew_led t es ((strKind P w).hash k) (.str k tk)
    generalize layNew t es ((strKind P w).hash k) (.str k tk) = Z at pm q1 q2 q3 ⊢
    obtain ⟨es1, t1, wasDummy, gave⟩ := Z
    dsimp only at pm q1 q2 q3 ⊢
    rw [Array.toList_push] at pm
    have pc := pm.trans (List.perm_append_singleton _ _)
    have pk : (es1.toList.map tkey).Perm (k :: es.toList.map tkey) := pc.map tkey
    have hsz : es1.size = n + 1 := by
      have z := pc.length_eq
      rw [List.length_cons, Array.length_toList, Array.length_toList, hn] at z
      exact z
    have T1 : TxIn w es1 (fun j => S j || decide (j = k)) := by
      refine ⟨fun e he => ?_, pk.nodup_iff.mpr (List.nodup_cons.mpr ⟨hnk, T.nd⟩), fun i => ?_, hsz ▸ room⟩
      · rcases List.mem_cons.mp (pc.mem_iff.mp he) with z | z
        · rw [z]
          exact ⟨k, tk, rfl, rfl⟩
        · exact T.good e z
      · rw [Bool.or_eq_true, decide_eq_true_eq, T.mem i, pk.mem_iff, List.mem_cons]
        exact Or.comm
    have hw1 : Walked w t1 := by
      refine ⟨q2, ?_⟩
      rcases hw.2 with z | z
      · exact .inl z
      · exact .inr (q3.trans z)
    have fin : ∀ h', Heap.SameBut a s.heap h' → SetT w h' a (fun j => S j || decide (j = k)) es1.size → Q true { s with heap := h' } := by
      intro h' sb r
      have q := hQ h' sb
      rw [hSk] at q
      rw [hsz] at r
      exact q r
    refine wpAny_bind (hgw _ ?_)
    split
    · refine wpAny_bind ?_
      rw [hashByValue_scannable 8 hsc]
      refine wpAny_pure ?_
      refine setT_tail ?_ ho hex hd T1 ?_ ?_ ?_
      · intro b s₁ Q' q
        cases b
        · exact wpAny_pure q
        · exact wpAny_rule q
      · first | (split <;> first | exact q1 | exact SetTable.fits_plain_off q1) | exact q1
      · first | (split <;> exact hw1) | exact hw1
      · intro h' sb r
        dsimp only
        exact wpAny_pure (fin h' sb r)
    · refine wpAny_bind (wpAny_pure ?_)
      simp only [↓reduceIte]
      refine setT_tail ?_ ho hex hd T1 q1 hw1 ?_
      · intro b s₁ Q' q
        cases b
        · exact wpAny_pure q
        · exact wpAny_rule q
      · intro h' sb r
        dsimp only
        exact wpAny_pure (fin h' sb r)
end

/-! ### set(xs) -/
section
variable {prog : Program} {w : World} {A : Around} {R : Result → Shared → Prop} {I : Addr} {fp wr : List Addr}
  {G : Array GenState → Array GenState → Prop} {n : Nat} {P : Nat → Value → Prop} {St : Nat → Shared → Prop}

/-- the set at S holds just the first i of the texts -/
def HoldsT (w : World) (h : Heap) (S : Addr) (xs : List Str) (i : Nat) : Prop := ∃ (M : Str → Bool) (m : Nat), SetT w h S M m ∧ m ≤ i ∧ ∀ k, M k = true ↔ k ∈ xs.take i

theorem update_texts (W : WalksS prog w A.in1 I fp wr G n P St) (S : Addr) (hSf : S ∉ fp) (xs : List Str)
    (hval : ∀ (i : Nat) (v : Value), P i v → ∃ x t, xs[i]? = some x ∧ v = Value.str x t) (hb : n + 1 < scanBound) :
    ∀ (k i : Nat) (s : Shared), n - i = k → i ≤ n → St i s → HoldsT w s.heap S xs i →
      (∀ s', Moved (S :: wr) G s s' → HoldsT w s'.heap S xs n → R (.ok (.ret .none)) s') →
      codeAny (model prog w) A (.builtin "set.update.loop" ⟨[.ref S, .ref I], []⟩) R s := by
  have hSw : S ∉ wr := fun h => hSf (W.sub _ h)
  have hsub : ∀ b ∈ wr, b ∈ S :: wr := fun b hb => List.mem_cons_of_mem _ hb
  intro k
  induction k with
  | zero =>
    intro i s hk hi hst hS hR
    obtain rfl : i = n := by omega
    refine codeAny_builtin F.entry_set_update_loop ?_
    rw [Around.under_plainId F.plain_set_update_loop _]
    show wpAny _ A.in1 (pyNext (.ref I) >>= _) _ _ s
    refine wpAny_bind (W.done s _ _ hst ?_)
    intro s' hm
    show wpAny _ A.in1 (ret Value.none) _ _ s'
    refine wpAny_pure (hR s' (hm.mono hsub) ?_)
    obtain ⟨M, m, T, hmi, hM⟩ := hS
    exact ⟨M, m, T.at fun o ho => hm.heap S _ hSw ho, hmi, hM⟩
  | succ k ih =>
    intro i s hk hi hst hS hR
    have hlt : i < n := by omega
    refine codeAny_builtin F.entry_set_update_loop ?_
    rw [Around.under_plainId F.plain_set_update_loop _]
    show wpAny _ A.in1 (pyNext (.ref I) >>= _) _ _ s
    refine wpAny_bind (W.item i s _ _ hlt hst ?_)
    intro v s' hP hst' hm
    obtain ⟨x, t, hx, rfl⟩ := hval i v hP
    obtain ⟨M, m, T, hmi, hM⟩ := hS
    have T' : SetT w s'.heap S M m := T.at fun o ho => hm.heap S _ hSw ho
    show wpAny _ A.in1 (holding [Value.str x t] (setAdd S (.str x t)) >>= _) _ _ s'
    refine wpAny_bind (wpAny_holding ?_)
    unfold setAdd
    refine wpAny_holding ?_
    refine wpAny_bind ((strKind prog w).pyHash (k := x) (strKind_is _ _ _ _) ?_)
    refine setT_add (s := { s' with toks := s'.toks + 1 }) T' (by omega) ?_
    intro h' hsb T2
    have hSi : HoldsT w h' S xs (i + 1) := by
      refine ⟨_, _, T2, ?_, fun j => ?_⟩
      · split <;> omega
      · rw [Bool.or_eq_true, decide_eq_true_eq, hM j, List.take_add_one, hx, List.mem_append]
        show _ ↔ _ ∨ j ∈ [x]
        rw [List.mem_singleton]
    refine wpAny_pure ⟨plainId_quiet F.plain_set_update_loop _, ?_⟩
    refine ih (i + 1) _ (by omega) hlt (W.frame _ s' _ _ hst' (Nat.le_succ _) ?_) hSi ?_
    · intro b hb o e
      rw [hsb.2 b (fun h : b = S => hSf (by rw [← h]; exact hb))]
      exact e
    · intro s'' hm'' hS''
      refine hR s'' (Moved.trans W.gtrans ((hm.mono hsub).then_heap (Nat.le_succ _) ?_) hm'') hS''
      intro b o hb e
      rw [hsb.2 b (fun h : b = S => hb (by rw [h]; exact List.mem_cons_self))]
      exact e
end

section
variable {P : Program} {w : World} {A : Around} {E : Value → Shared → Prop} {s : Shared}
def freshSet (w : World) : Obj := { cls := .type "set", dict := none, data := .set #[] 0 (.fresh 0 0 (!w.params.followText "set-order")) }
theorem set_new1 (a : Value) {Q₁ : Value → Shared → Prop} (h : Q₁ (.ref s.heap.objs.size) { s with heap := s.heap.push (freshSet w) }) :
    codeAny (model P w) A (.call (.builtin "set.__new__") ⟨[.type "set", a], []⟩) (wants Q₁ E) s := by
  refine codeAny_of_tree ?_
  show wpAny _ A.in1 (do
    checkBuiltinCall "set.__new__" ⟨[.type "set", a], []⟩
    again (.builtin "set.__new__" ⟨[.type "set", a], []⟩)) _ _ s
  refine wpAny_bind (wpAny_of_eq (F.newCall_set_1 a) (wpAny_pure ⟨plainId_quiet F.plain_set_new _, ?_⟩))
  refine codeAny_builtin F.entry_set_new ?_
  rw [Around.under_plainId F.plain_set_new _]
  unfold Builtin.«set.__new__» Builtin.Frozenset.newClass
  have hsub := sub_set_self
  obtain ⟨hp, g, d, tk, os⟩ := s
  dsimp only
  wp_walk
  refine wpAny_askSetting (wpAny_pure ?_)
  dsimp only
  simp only [newObj]
  exact wpAny_bind (wpAny_alloc (wpAny_pure (wpAny_pure h)))
theorem setT_fresh {h : Heap} (w : World) (xs : List Str) : HoldsT w (h.push (freshSet w)) h.objs.size xs 0 := by
  refine ⟨fun _ => false, 0, ⟨_, #[], 0, _, Heap.get?_push_size _ rfl, ⟨rfl, rfl, rfl⟩, rfl, ⟨?_, ?_, ?_, ?_⟩, ?_, rfl, List.Pairwise.nil, ?_⟩, Nat.le_refl _, ?_⟩
  · intro e he
    simp at he
  · simp
  · intro k
    simp
  · decide
  · rfl
  · show _ ∨ (!w.params.followText "set-order") = true
    cases w.params.followText "set-order"
    · exact .inr rfl
    · exact .inl rfl
  · intro k
    simp

theorem call_set_texts {l : Addr} {items : Array Value} {xs : List Str} {Q : Value → Shared → Prop} (hh : A.handled = none)
    (hl : s.heap.IsList l items) (hi : ∀ (i : Nat) (v : Value), items[i]? = some v → ∃ x t, xs[i]? = some x ∧ v = Value.str x t) (hb : items.size + 1 < scanBound)
    (h : ∀ (h' : Heap) (tk : Nat), HoldsT w h' s.heap.objs.size xs items.size →
      (∀ b o, b < s.heap.objs.size → s.heap.get? b = some o → h'.get? b = some o) → Q (.ref s.heap.objs.size) { s with heap := h', toks := tk }) :
    wpAny (model P w) A (call (.type "set") [.ref l]) Q E s := by
  obtain ⟨c, tl, hmro⟩ := F.called_set.mro
  have hmade := F.called_set.made
  have hsub := F.called_set.sub
  refine wpAny_call (codeAny_of_tree ?_)
  show wpAny _ _ (callAny (.type "set") _) _ _ _
  refine wpAny_pure ⟨Code.quiet_builtin _ (by decide +kernel), ?_⟩
  refine codeAny_builtin F.entry_type_call ?_
  rw [Around.under_plain (weight_type_call_type "set" [.ref l] []) rfl]
  have h1 := F.called_set.notType
  have h2 := F.called_set.canCreate
  have hct := F.typeCall_set_1 (.ref l)
  repeat (any_goals (first | assumption | wp_step))
  refine codeAny_mono (set_new1 (.ref l) (E := E) (Q₁ := fun obj s₁ => obj = .ref s.heap.objs.size ∧ s₁ = { s with heap := s.heap.push (freshSet w) }) ⟨rfl, rfl⟩) ?_
  intro r s₁ hr
  cases r with
  | error e => exact hr
  | ok fl =>
    cases fl with
    | ret obj =>
      obtain ⟨rfl, rfl⟩ := hr
      have hS : (s.heap.push (freshSet w)).get? s.heap.objs.size = some (freshSet w) := Heap.get?_push_size _ rfl
      have hT : Shared.TypeIs { s with heap := s.heap.push (freshSet w) } (.ref s.heap.objs.size) "set" := ⟨_, hS, rfl⟩
      have hli := F.called_set.init.lookup
      have hbi := F.called_set.init.bind (.ref s.heap.objs.size)
      repeat (any_goals (first | assumption | wp_step))
      refine codeAny_mono (codeAny_call_builtin (R := wants (fun r s₂ => r = .none ∧ ∃ h' tk, s₂ = { s with heap := h', toks := tk } ∧
          HoldsT w h' s.heap.objs.size xs items.size ∧ (∀ b o, b < s.heap.objs.size → s.heap.get? b = some o → h'.get? b = some o)) E)
        F.called_set.init.plain F.entry_set_init (check_set_init_1 hT ?_)) ?_
      · obtain ⟨ol, hol, hcl, nl, hdl⟩ := hl
        obtain ⟨ocls, odict, odata, oslots⟩ := ol
        simp only at hcl hdl
        subst hcl
        subst hdl
        have hol' : (s.heap.push (freshSet w)).get? l = some { cls := .type "list", dict := odict, data := .seq items nl, slots := oslots } := Heap.get?_push_of_some _ hol
        have hsls := F.sub_list_set
        have hslf := F.sub_list_frozenset
        have hne : (Value.type "list" == Value.type "dict") = false := by decide
        have hl1 : (s.heap.push (freshSet w)).IsList l items := ⟨_, hol', rfl, nl, rfl⟩
        unfold Builtin.«set.__init__» noKeywords Builtin.Frozenset.updateFrom
        generalize hPI : pyIter = PI
        wp_walk
        subst hPI
        refine wpAny_pyIter_list hl1 ?_
        refine wpAny_bind (wpAny_runValue ?_)
        have hlS : l < s.heap.objs.size := Heap.lt_size hol
        have hh3 : A.in1.in1.in1.handled = none := by simp [hh]
        have hsz : (s.heap.push (freshSet w)).objs.size = s.heap.objs.size + 1 := Heap.size_push _ _
        have hneI : l ≠ (s.heap.push (freshSet w)).objs.size := by
          rw [hsz]
          exact Nat.ne_of_lt (Nat.lt_succ_of_lt hlS)
        have hSf : s.heap.objs.size ∉ [(s.heap.push (freshSet w)).objs.size, l] := by
          rw [hsz]
          simp only [List.mem_cons, List.not_mem_nil, or_false, not_or]
          exact ⟨Nat.ne_of_lt (Nat.lt_succ_self _), Nat.ne_of_gt hlS⟩
        refine update_texts ((Walks.list hh3 _ l hneI items).toS) s.heap.objs.size hSf xs hi hb (items.size - 0) 0 _ (by omega) (Nat.zero_le _)
          ⟨⟨_, Heap.get?_push_size _ rfl, rfl, rfl⟩, (hl1.push _)⟩ ?hS0 ?hR
        case hS0 =>
          obtain ⟨M, m, T, e1, e2⟩ := setT_fresh (h := s.heap) w xs
          exact ⟨M, m, T.at fun o ho => Heap.get?_push_of_some _ ho, e1, e2⟩
        case hR =>
          intro s' hm hS'
          obtain ⟨h', g', d', tk', os'⟩ := s'
          have eg : g' = s.gens := hm.gens
          have ed : d' = s.drawn := hm.drawn
          have eo : os' = s.os := hm.os
          subst eg
          subst ed
          subst eo
          show wpAny _ _ _ _ _ _
          refine wpAny_pure ?_
          show wpAny _ _ (ret Value.none) _ _ _
          refine wpAny_pure ⟨rfl, h', tk', rfl, hS', ?_⟩
          intro b o hb e
          have hb1 : b ≠ s.heap.objs.size := Nat.ne_of_lt hb
          have hb2 : b ≠ (s.heap.push (freshSet w)).objs.size := by
            rw [hsz]
            exact Nat.ne_of_lt (Nat.lt_succ_of_lt hb)
          refine hm.heap b o ?_ (Heap.get?_push_of_some _ (Heap.get?_push_of_some _ e))
          simp only [List.mem_cons, List.not_mem_nil, or_false, not_or]
          exact ⟨hb1, hb2⟩
      · intro r₂ s₂ hr₂
        cases r₂ with
        | error e => exact hr₂
        | ok fl₂ =>
          cases fl₂ with
          | ret r =>
            obtain ⟨rfl, h', tk, rfl, hS', hk'⟩ := hr₂
            repeat (any_goals (first | assumption | wp_step))
            exact h _ _ hS' hk'
          | _ => exact hr₂.elim
    | _ => exact hr.elim

/-! ### sorted(set) -/
def txtOf (v : Value) : Str := match v with
  | .str x _ => x
  | _ => Str.empty
theorem strs_of : ∀ (l : List Value), (∀ v ∈ l, ∃ x tk, v = Value.str x tk) → StrsAre l (l.map txtOf)
  | [], _ => .nil
  | v :: l, h => by
    obtain ⟨x, tk, rfl⟩ := h v List.mem_cons_self
    exact .cons x tk (strs_of l fun u hu => h u (List.mem_cons_of_mem _ hu))

theorem sorted_texts {a : Addr} {S : Str → Bool} {n : Nat} {Q : Value → Shared → Prop} (R : SetT w s.heap a S n) (hh : A.handled = none)
    (hQ : ∀ s' p (out : Array Value) (c : Nat) (ys : List Str), (∀ b o, s.heap.get? b = some o → s'.heap.get? b = some o) → s'.gens = s.gens → s'.os = s.os →
      s.heap.objs.size ≤ p → s'.heap.get? p = some (seqObj "list" out c) → StrsAre out.toList ys → sortedS ys = true → ys.Nodup → (∀ k, k ∈ ys ↔ S k = true) →
      ys.length = n → Q (.ref p) s') :
    wpAny (model P w) A (call (.builtin "sorted") [.ref a]) Q E s := by
  obtain ⟨o, es, ep, t, ho, hex, hd, T, hf, hn, hw⟩ := R
  refine Calls.call_function_entry kind_sorted plain_sorted entry_sorted (args_sorted1 _) ?_
  unfold Builtin.«sorted»
  refine wpAny_bind (m := checkCount "sorted" 1 1 _) (wpAny_pure ?_)
  refine wpAny_bind (collect_set (A := A.in1) hh ⟨o, ho, hex.1, hd⟩ hf T.few hw.1 hw.2 ?_)
  intro s1 vs k1 hz g1 o1 pm
  have hvl : vs.length = n := by
    rw [pm.length_eq, List.length_map, Array.length_toList]
    exact hn
  have hI : StrsAre vs (vs.map txtOf) := by
    refine strs_of vs fun v hv => ?_
    obtain ⟨e, he, q⟩ := List.mem_map.mp (pm.mem_iff.mp hv)
    obtain ⟨x, tk, h1, _⟩ := T.good e he
    exact ⟨x, tk, by rw [← q]; exact h1⟩
  have pk : (vs.map txtOf).Perm (es.toList.map tkey) := by
    have q := pm.map txtOf
    rw [List.map_map] at q
    exact q
  have hline : vs.length ≤ sizeLine := by
    rw [hvl, ← hn]
    exact fits_of_scanBound T.few
  refine wpAny_bind (wpAny_newList ?_ hline)
  have hoL : (s1.heap.push (seqObj "list" vs.toArray 0)).get? s1.heap.objs.size = some (seqObj "list" vs.toArray 0) := Heap.get?_push_size _ rfl
  refine wpAny_bind (wpAny_holding (wpAny_call_entry slot_list_sort ⟨_, hoL, rfl⟩ entry_list_sort
    (list_sort_treeKAny strKind_oneLt hoL hI.keysOf (fun v₁ v₂ rest e => keyKind_strs (by rw [← e]; exact hI)) hline ?_) (args_list_sort _)))
  intro st' hp hs
  obtain ⟨ys, a1, a2, a3⟩ := sorted_out_str hI hp hs
  refine ⟨_, rfl, ?_⟩
  obtain ⟨c, hc⟩ := sortedHeap_at (vs := vs) (out := (arrOf st').map (·.2)) hoL
  have pn : ys.Perm (es.toList.map tkey) := a2.trans pk
  refine wpAny_pure ⟨_, rfl, ?_⟩
  refine hQ _ s1.heap.objs.size _ c ys ?_ g1 o1 hz hc a1 a3 (pn.nodup_iff.mpr T.nd) (fun k => by rw [pn.mem_iff, ← T.mem k]) ?_
  · intro b u e
    have q := k1 b u e
    have hlt := Heap.lt_size q
    show (sortedHeap (s1.heap.push (seqObj "list" vs.toArray 0)) s1.heap.objs.size vs _).get? b = some u
    rw [sortedHeap_old (Nat.ne_of_lt hlt) (by rw [size_push']; exact Nat.lt_succ_of_lt hlt)]
    exact Heap.get?_push_of_some _ q
  · rw [pn.length_eq, List.length_map, Array.length_toList]
    exact hn
end

/-! ### over the layer -/
/-- a tracked set of just these texts -/
def TxS (w : World) (a : Addr) (xs : List Str) : HO := .ext fun h => HoldsT w h a xs xs.length
theorem txS_ok {P : Program} {w : World} {H : Hp} {h : Heap} {a : Addr} {xs : List Str} (T : HoldsT w h a xs xs.length) : ObjOk P w H h a (TxS w a xs) := by
  refine ⟨T, ?_, ?_⟩
  · obtain ⟨_, _, ⟨o, _, _, _, ho, _⟩, _⟩ := T
    exact ⟨o, ho⟩
  · rintro h1 h2 ⟨M, m, T1, e1, e2⟩ k
    exact ⟨M, m, T1.at k, e1, e2⟩
/-- sorted, each once, the same members -/
structure Sorted (ys xs : List Str) : Prop where
  up : sortedS ys = true
  nd : ys.Nodup
  mem : ∀ k, k ∈ ys ↔ k ∈ xs
  len : ys.length ≤ xs.length
def rSetT (w : World) : List V → Hp → VK → Prop := fun vs H Q => ∃ (l : Addr) (xs : List Str), vs = [.ref l] ∧ H l = some (.lst (xs.map V.str)) ∧ xs.length + 1 < scanBound ∧
  ∀ p, H p = none → Q (.ref p) (upd H p (TxS w p xs))
def rSortT (w : World) : List V → Hp → VK → Prop := fun vs H Q => ∃ (a : Addr) (xs : List Str), vs = [.ref a] ∧ H a = some (TxS w a xs) ∧
  ∀ ys p, Sorted ys xs → H p = none → Q (.ref p) (upd H p (.lst (ys.map V.str)))
theorem vals_str {xs : List Str} {us : List Value} (r : Vals (xs.map V.str) us) (i : Nat) (v : Value) (h : us[i]? = some v) : ∃ x t, xs[i]? = some x ∧ v = Value.str x t := by
  have hi : i < us.length := (List.getElem?_eq_some_iff.mp h).1
  have hx : i < xs.length := by
    have := r.length
    rw [List.length_map] at this
    omega
  obtain ⟨u, h1, h2⟩ := Vals.get (i := i) (x := V.str xs[i]) r (by rw [List.getElem?_map, List.getElem?_eq_getElem hx]; rfl)
  rw [h] at h1
  cases h1
  obtain ⟨t, e⟩ := h2
  exact ⟨xs[i], t, List.getElem?_eq_getElem hx, e⟩
section
variable {X : Cx}
theorem cr_setT (hc : X.calm = true) : CallR X (.type "set") (rSetT X.w) := by
  intro pins s σ H vs us Q I r h
  obtain ⟨l, xs, rfl, hl, hz, q⟩ := h
  obtain ⟨its, rv, pl, _⟩ := I.list (SqL.of hl)
  rw [Vals.ref1 r]
  have hlen : its.length = xs.length := by
    have := rv.length
    rw [List.length_map] at this
    exact this.symm
  refine call_set_texts (xs := xs) (I.ok.hd hc) pl.isList (fun i v hv => vals_str rv i v (by simpa using hv)) (by rw [List.size_toArray, hlen]; exact hz) ?_
  intro h' tk T k
  have ez : its.toArray.size = xs.length := by rw [List.size_toArray, hlen]
  rw [ez] at T
  have kk : ∀ b o, s.heap.get? b = some o → h'.get? b = some o := fun b o e => k b o (Heap.lt_size e) e
  exact ⟨.ref _, _, I.laid (t' := tk) kk (Nat.le_refl _) (txS_ok T), rfl, q _ (I.hok.fresh (Nat.le_refl _))⟩
theorem cr_sortT (hc : X.calm = true) : CallR X (.builtin "sorted") (rSortT X.w) := by
  intro pins s σ H vs us Q I r h
  obtain ⟨a, xs, rfl, ha, q⟩ := h
  have T : HoldsT X.w s.heap a xs xs.length := (I.hok a _ ha).1
  obtain ⟨M, m, T, hm, hM⟩ := T
  rw [List.take_length] at hM
  rw [Vals.ref1 r]
  refine sorted_texts T (I.ok.hd hc) ?_
  intro s' p out c ys k g o hp hg hs h1 h2 h3 h4
  have so : Sorted ys xs := ⟨h1, h2, fun j => (h3 j).trans (hM j), by rw [h4]; exact hm⟩
  have few : ys.length < scanBound := by
    obtain ⟨_, es, _, _, _, _, _, Tx, _, hn, _⟩ := T
    rw [h4, ← hn]
    exact Tx.few
  have hlen : (ys.map V.str).length ≤ sizeLine := by
    rw [List.length_map]
    exact fits_of_scanBound few
  have hn : H p = none := I.hok.fresh hp
  have J : Inv X pins σ (upd H p (.lst (ys.map V.str))) { s with heap := s'.heap, gens := s'.gens, drawn := s'.drawn, toks := s'.toks } :=
    I.call (ch := []) (Un.laid k hp hn) (I.hok.laid k hp ⟨hlen, out.toList, c, vals_of_strs hs, hg⟩) (by rw [g]; exact I.bare) (fun _ z => nomatch z)
  have e : s' = { s with heap := s'.heap, gens := s'.gens, drawn := s'.drawn, toks := s'.toks } := by
    cases s'
    cases s
    cases o
    rfl
  rw [e]
  exact ⟨.ref p, _, J, rfl, q ys p so hn⟩
end
end LP

set_option Elab.async false
set_option linter.all false
set_option maxRecDepth 100000
set_option maxHeartbeats 4000000
/-! LPX: further readings: texts repeated, signs of a text, tuples walked, all(..). -/
namespace LP
open PySem PySem.Spec L2
open PyProof.Rows hiding St

/-! ### a text repeated -/
def repS (z : Str) (n : Int) : Str := Txt.mul z n
theorem foldl_app {α : Type} : ∀ (l : List (Array α)) (a : Array α), (l.foldl (· ++ ·) a).toList = a.toList ++ (l.map Array.toList).flatten
  | [], a => by simp
  | x :: r, a => by
    rw [List.foldl_cons, foldl_app r (a ++ x)]
    simp
theorem tl_rep (z : Str) (n : Int) : TL.tl (repS z n) = (List.replicate n.toNat (TL.tl z)).flatten := by
  unfold repS Txt.mul
  by_cases h : n < 1
  · rw [if_pos h]
    have e : n.toNat = 0 := by omega
    rw [e]
    rfl
  · rw [if_neg h]
    by_cases h2 : (n == 1 || z.length == 0) = true
    · rw [if_pos h2]
      rw [Bool.or_eq_true, beq_iff_eq, beq_iff_eq] at h2
      rcases h2 with e | e
      · rw [e]
        simp
      · have e2 : TL.tl z = [] := List.length_eq_zero_iff.mp ((len_tl' z).symm.trans e)
        rw [e2]
        simp
    · rw [if_neg h2]
      show ((List.replicate n.toNat z.cps).foldl (· ++ ·) #[]).toList = _
      rw [foldl_app]
      simp
theorem len_rep (z : Str) (n : Int) : (repS z n).length = z.length * n.toNat := by
  rw [len_tl', tl_rep, List.length_flatten, len_tl']
  simp [Nat.mul_comm]
def rRepS : R2 := fun x y H Q => ∃ z n, x = .str z ∧ y = .int n ∧ (-(2 ^ 63) ≤ n ∧ n < 2 ^ 63 ∧ z.length * n.toNat ≤ sizeLine) ∧ Q (.str (repS z n)) H
section
variable {X : Cx}
theorem op_repS : OpR X (binaryOp .Mult) rRepS := by
  intro pins s σ H x y v u Q I rx ry h
  obtain ⟨z, n, rfl, rfl, ⟨h1, h2, h3⟩, q⟩ := h
  obtain ⟨t, rfl⟩ := rx
  obtain ⟨k, rfl⟩ := ry
  refine SB.mul ⟨?_, ?_, ?_⟩ (fun t' k' => ⟨.str _, H, I.tok _, ⟨_, rfl⟩, q⟩)
  · rw [Bool.or_eq_false_iff, decide_eq_false_iff_not, decide_eq_false_iff_not]
    omega
  · intro hn _ hc
    have e : sizeLine = 16777216 := sizeLine_eq
    rw [e] at h3
    have h5 : (z.length : Int) * n ≤ 16777216 := by
      have e2 : ((n.toNat : Nat) : Int) = n := Int.toNat_of_nonneg (by omega)
      have e3 := Int.ofNat_le.mpr h3
      rw [Int.natCast_mul, e2] at e3
      exact e3
    have h6 : (z.length : Int) ≤ (2 ^ 63 - 1) / n := by
      rw [Int.le_ediv_iff_mul_le (by omega)]
      omega
    omega
  · intro hn _
    show decide (z.length * n.toNat > sizeLine) = false
    rw [decide_eq_false_iff_not]
    exact Nat.not_lt_of_le h3
end

/-! ### the signs of a text -/
def sgn (c : Nat) : V := .str ⟨#[c]⟩
def signs (x : Str) : List V := x.cps.toList.map sgn
theorem signs_len (x : Str) : (signs x).length = x.length := by
  unfold signs
  rw [List.length_map, len_tl']
theorem walk_signs (x : Str) : Walk (Its x) (signs x).length (fun _ => True) (YAt (signs x)) := by
  have e : (signs x).length = x.cps.size := signs_len x
  refine ⟨fun i H hi _ => ?_, fun H _ => ?_, fun i H v H' hi _ y => ?_⟩
  · rw [e] at hi
    exact hi
  · exact Nat.le_of_eq e.symm
  · obtain ⟨e1, c, hc, e2⟩ := y
    refine ⟨e1, ?_⟩
    unfold signs
    rw [List.getElem?_map, Array.getElem?_toList, hc, e2]
    rfl

/-! ### comprehensions that leave what is known, over any walk -/
theorem lc_pureW {J : It} {G : Hp → Prop} {xs : List V} (W : Walk J xs.length G (YAt xs)) {j : Nat} {tt : TT} {te : TE} {vs : List Nat} {σ : St} {H : Hp} {Q : VK}
    (hG : ∀ H1, Same H H1 → G H1) (hz : xs.length ≤ 1000000) (f : V → Bool) (v : V → V)
    (hw : ∀ x, wipe ((wipe σ vs).set j (some x)) vs = wipe σ vs)
    (ht : ∀ x, x ∈ xs → ∀ H1, Same H H1 → ∀ R : Bool → Hp → Prop, (∀ H2, Same H1 H2 → R (f x) H2) → tt ((wipe σ vs).set j (some x)) H1 R)
    (he : ∀ x, x ∈ xs → f x = true → ∀ H1, Same H H1 → ∀ R : VK, (∀ H2, Same H1 H2 → R (v x) H2) → te ((wipe σ vs).set j (some x)) H1 R)
    (q : ∀ p H2, H p = none → Same H H2 → H2 p = some (.lst ((xs.filter f).map v)) → Q (.ref p) H2) : LcLoop J (gName j) tt te vs σ H Q := by
  intro D hD
  refine lc_it W (fun i H' => Same H H' ∧ H' D = some (.lst (((xs.take i).filter f).map v))) ⟨Same.new hD, upd_same⟩ (fun i H' _ p => hG H' p.1) ?_ ?_
  · rintro i x H1 H1' hi ⟨e1, d1⟩ ⟨rfl, hx⟩
    have hm : x ∈ xs := List.mem_of_getElem? hx
    have htk : xs.take (i + 1) = xs.take i ++ [x] := by rw [List.take_add_one, hx]; rfl
    refine ⟨hw x, ht x hm _ e1 _ fun H2 e2 => ?_⟩
    cases hf : f x with
    | true =>
      show te _ H2 _
      refine he x hm hf H2 (e1.trans e2) _ fun H3 e3 => ?_
      refine ⟨_, e3 _ _ (e2 _ _ d1), ?_, ?_, ?_⟩
      · have h1 : (((xs.take i).filter f).map v).length ≤ xs.length := by
          rw [List.length_map]
          exact Nat.le_trans (List.length_filter_le _ _) (by rw [List.length_take]; omega)
        exact Nat.lt_of_le_of_lt (Nat.le_trans h1 hz) (by decide)
      · intro b o e
        rw [upd_ne (ne_of_none e hD)]
        exact e3 _ _ (e2 _ _ (e1 _ _ e))
      · rw [htk, upd_same, List.filter_append, List.map_append, List.filter_cons, if_pos hf]
        rfl
    | false =>
      show Same H H2 ∧ _
      refine ⟨e1.trans e2, ?_⟩
      rw [htk, List.filter_append, List.filter_cons, if_neg (by rw [hf]; decide), List.map_append]
      show H2 D = some (.lst (_ ++ []))
      rw [List.append_nil]
      exact e2 _ _ d1
  · rintro H1 ⟨e1, d1⟩
    rw [List.take_length] at d1
    exact q D H1 hD e1 d1
/-- .. without a test -/
theorem lc_mapW {J : It} {G : Hp → Prop} {xs : List V} (W : Walk J xs.length G (YAt xs)) {j : Nat} {te : TE} {vs : List Nat} {σ : St} {H : Hp} {Q : VK}
    (hG : ∀ H1, Same H H1 → G H1) (hz : xs.length ≤ 1000000) (v : V → V)
    (hw : ∀ x, wipe ((wipe σ vs).set j (some x)) vs = wipe σ vs)
    (he : ∀ x, x ∈ xs → ∀ H1, Same H H1 → ∀ R : VK, (∀ H2, Same H1 H2 → R (v x) H2) → te ((wipe σ vs).set j (some x)) H1 R)
    (q : ∀ p H2, H p = none → Same H H2 → H2 p = some (.lst (xs.map v)) → Q (.ref p) H2) : LcLoop J (gName j) tYes te vs σ H Q := by
  refine lc_pureW W hG hz (fun _ => true) v hw (fun x _ H1 _ R h => h H1 (Same.refl _)) (fun x hx _ H1 e R h => he x hx H1 e R h) ?_
  intro p H2 hp e hl
  have ef : xs.filter (fun _ => true) = xs := List.filter_eq_self.mpr (fun _ _ => rfl)
  rw [ef] at hl
  exact q p H2 hp e hl

/-! ### loops over any walk -/
theorem loop_it {J : It} {n : Nat} {G : Hp → Prop} {Y : Nat → Hp → V → Hp → Prop} (W : Walk J n G Y) {g : TG} {tb : TS} {D : Ends} {σ : St} {H : Hp} (Pv : Nat → St → Hp → Prop) (h0 : Pv 0 σ H)
    (hG : ∀ i σ H, i ≤ n → Pv i σ H → G H)
    (hs : ∀ i x σ H H', i < n → Pv i σ H → Y i H x H' → g x σ H' fun σ2 H2 => Later tb { D with nx := Pv (i + 1), ct := Pv (i + 1), bk := D.nx } σ2 H2)
    (hd : ∀ σ H, Pv n σ H → D.nx σ H) : Loop J g tb D σ H := for_it W Pv h0 hG hs hd
theorem loop_tup {K : PySem.W.Frag} {a : Addr} {xs : List V} {g : TG} {tb : TS} {D : Ends} {σ : St} {H : Hp} (Pv : Nat → St → Hp → Prop) (h0 : Pv 0 σ H)
    (hl : ∀ i σ H, i ≤ xs.length → Pv i σ H → SqT K H a xs)
    (hs : ∀ (i : Nat) (x : V) (σ : St) (H : Hp), xs[i]? = some x → Pv i σ H → g x σ H fun σ2 H2 => Later tb { D with nx := Pv (i + 1), ct := Pv (i + 1), bk := D.nx } σ2 H2)
    (hd : ∀ σ H, Pv xs.length σ H → D.nx σ H) : Loop (Itt K a) g tb D σ H := for_tup (K := K) (a := a) (xs := xs) Pv h0 hl hs hd

/-! ### all(..), one sign in a text, ranges -/
def rAllM : List V → Hp → VK → Prop := fun vs H Q => ∃ (a : Addr) (bs : List Bool), vs = [V.ref a] ∧ H a = some (.lst (bs.map V.bl)) ∧ Q (.bl (bs.all id)) H
def rSgn : R2 := fun x y H Q => ∃ (c : Nat) (z : Str), x = sgn c ∧ y = .str z ∧ Q (.bl (decide (c ∈ z.cps.toList))) H
def rRng2 : List V → Hp → VK → Prop := fun vs H Q => ∃ i j, vs = [V.int i, V.int j] ∧ ∀ p, H p = none → Q (.ref p) (upd H p (.rng i j))
def rInRng : R2 := fun x y H Q => ∃ i a lo hi, x = V.int i ∧ y = V.ref a ∧ H a = some (.rng lo hi) ∧ Q (.bl (decide (lo ≤ i ∧ i < hi))) H
section
variable {X : Cx}
theorem op_eqK {K : PySem.W.Frag} (hK : X.K = K) (hu : X.A.units + 64 < cLine) : OpR X (compareOp .Eq) (rEqD K) := by
  subst hK
  exact op_eqD hu
theorem op_neK {K : PySem.W.Frag} (hK : X.K = K) (hu : X.A.units + 64 < cLine) : OpR X (compareOp .NotEq) (rNeD K) := by
  subst hK
  exact op_neD hu
theorem call_isiK' {K : PySem.W.Frag} (hK : X.K = K) : CallR X (.builtin "isinstance") (rIsi K) := by
  subst hK
  exact call_isi
theorem call_reprK {K : PySem.W.Frag} (hK : X.K = K) (gd : X.A.guards = some []) (hu : X.A.units + 64 < cLine) : CallR X (.builtin "repr") (rReprD K) := by
  subst hK
  exact call_reprD gd hu
theorem cr_allM (hc : X.calm = true) : CallR X (.builtin "all") rAllM := call_imp (cr_all hc) fun xs H Q ⟨a, bs, h1, h2, q⟩ => ⟨a, bs, h1, SqL.of h2, q⟩
theorem op_sgn : OpR X (compareOp .In) rSgn := op_imp op_in_sign fun x y H Q h => h
theorem cr_rng2 : CallR X (.type "range") rRng2 := cr_range2
theorem op_inRng : OpR X (compareOp .In) rInRng := op_in_rng
end
end LP

set_option Elab.async false
set_option linter.all false
set_option maxRecDepth 100000
set_option maxHeartbeats 4000000
/-! LPE: errors of own classes, over any built-in one, with an own __init__ that keeps one thing; as values, caught. -/
namespace LP
open PySem PySem.Spec L2
open PyProof.Rows hiding St

/-- what making such an error asks of the list of its bases -/
structure Tl (B : String) (bm : List Value) : Prop where
  has : bm.contains (.type B) = true
  noA : bm.contains (.type "AttributeError") = false
  noN : bm.contains (.type "NameError") = false

section
variable {prog : Program} {w : World} {A : Around} {E : Value → Shared → Prop} {R : Result → Shared → Prop} {hp : Heap}
  {gs : Array GenState} {dr : Drawn} {tk : Nat} {os : OsState} {nm qn : Str} {C N : Addr} {bs bm bmB : List Value} {hdt : Bool}
  {sn : List Str} {sub : List Value} {ab : Bool} {col : Option Bool} {dd : Option Addr} {k0 k1 k2 k3 k5 : Option Value}
  {B newId initId : String} {us : List Value}

theorem Tl.cons (T : Tl B bm) : Tl B (.ref C :: bm) := by
  obtain ⟨h1, h2, h3⟩ := T
  constructor
  · rw [List.contains_cons, h1, Bool.or_true]
  · rw [List.contains_cons, h2]
    rfl
  · rw [List.contains_cons, h3]
    rfl

/-- B.__new__ may be called with the class -/
theorem new_checked (F : ExcBaseFacts B newId initId bmB) (T : Tl B bm) {Q : Unit → Shared → Prop}
    (hC : hp.get? C = some (excClassObj nm qn C N bs bm hdt sn sub ab col dd k0 k1 k2 k3 k5 newId))
    (hq : Q () ⟨hp, gs, dr, tk, os⟩) :
    wpAny (model prog w) A (checkBuiltinCall newId ⟨.ref C :: us, []⟩) Q E ⟨hp, gs, dr, tk, os⟩ := by
  have c1 := (T.cons (C := C)).has
  have c2 := F.noStar
  simp only [checkBuiltinCall, F.newKind, F.newSplit, F.newRow]
  repeat (first
    | refine wpAny_loadPart_at hC ?_
    | (refine wpAny_isSubtype_exc hC ?_; rw [c1])
    | refine wpAny_staticBase_exc hC ?_
    | refine wpAny_madeBy_exc hC ?_
    | simp only [bne_self_eq_false, Bool.false_eq_true, if_false]
    | wp_step)
  exact hq

/-- .. and lays the error -/
theorem new_made (F : ExcBaseFacts B newId initId bmB) (T : Tl B bm)
    (hC : hp.get? C = some (excClassObj nm qn C N bs bm hdt sn sub ab col dd k0 k1 k2 k3 k5 newId)) (hl : us.length ≤ sizeLine)
    (hq : R (.ok (.ret (.ref (hp.objs.size + 1))))
      ⟨(hp.push (PySem.W.kdv_tup us)).push (PySem.HandSPX.excO C hp.objs.size), gs, dr, tk, os⟩) :
    codeAny (model prog w) A (.builtin newId ⟨.ref C :: us, []⟩) R ⟨hp, gs, dr, tk, os⟩ := by
  have c0 := F.ends
  have c1 := (T.cons (C := C)).has
  have c2 := (T.cons (C := C)).noA
  have c3 := (T.cons (C := C)).noN
  refine codeAny_builtinAt F.entry ?_
  unfold Builtin.«BaseException.__new__»
  refine PySem.wpAt_bind ?_
  show PySem.wpAt _ _ _ (stack >>= _) _ _ _
  refine PySem.wpAt_bind (PySem.wpAt_stack fun p below => PySem.wpAt_of_wpAny ?_)
  wp_walk
  refine PySem.wpAt_of_wpAny ?_
  rw [F.owner]
  repeat (first
    | with_reducible refine wpAny_madeHere_exc F.canon hC ?_
    | with_reducible refine wpAny_loadPart_at hC ?_
    | (with_reducible refine wpAny_isSubtype_exc hC ?_; first | rw [c1] | rw [c2] | rw [c3])
    | wp_step)
  show R _ _
  rw [Heap.size_push]
  exact hq

/-- type.__call__ of the class: the error is laid, then its own __init__ runs -/
theorem own_typed (F : ExcBaseFacts B newId initId bmB) (T : Tl B bm) {fI : Addr} {Q : Fin → Shared → Prop}
    (hC : hp.get? C = some (excClassObj nm qn C N bs bm hdt sn sub ab col dd k0 k1 k2 k3 k5 newId))
    (hi : PySem.W.Looks (model prog w) hp (typeLookup (.ref C) "__init__") (some (.ref fI)))
    (hb : ∀ self, PySem.W.Looks (model prog w) hp (bindSpecial (.ref fI) self) (.ref fI, [self])) (hl : us.length ≤ sizeLine)
    (hq : codeAny (model prog w) A (.call (.ref fI) ⟨.ref (hp.objs.size + 1) :: us, []⟩)
      (fun r s' => match r with
        | .ok (.ret v) => v = .none ∧ Q (.done (.ret (.ref (hp.objs.size + 1)))) s'
        | .ok _ => False
        | .error e => E e s')
      ⟨(hp.push (PySem.W.kdv_tup us)).push (PySem.HandSPX.excO C hp.objs.size), gs, dr, tk, os⟩) :
    wpAny (model prog w) A (Builtin.«type.__call__» ⟨.ref C :: us, []⟩) Q E ⟨hp, gs, dr, tk, os⟩ := by
  repeat (first
    | with_reducible refine wpAny_loadPart_at hC ?_
    | with_reducible refine wpAny_madeBy_exc hC ?_
    | wp_step)
  refine codeAny_call_builtin_code (Code.quiet_builtin _ F.quiet) (new_checked F T hC ?_)
  refine new_made F T hC hl ?_
  show wpAny _ _ _ _ _ _
  have kk : ∀ b o, hp.get? b = some o →
      ((hp.push (PySem.W.kdv_tup us)).push (PySem.HandSPX.excO C hp.objs.size)).get? b = some o :=
    fun b o e => Heap.get?_push_of_some _ (Heap.get?_push_of_some _ e)
  have e1 := kk _ _ hC
  have e2 : ((hp.push (PySem.W.kdv_tup us)).push (PySem.HandSPX.excO C hp.objs.size)).get? (hp.objs.size + 1) =
      some (PySem.HandSPX.excO C hp.objs.size) := by heap_get
  have e3 : (Value.ref C :: bm).contains (.ref C) = true := by simp
  have i1 := hi.keeps kk
  have b1 := (hb (.ref (hp.objs.size + 1))).keeps kk
  unfold isInstance
  repeat (first
    | with_reducible refine wpAny_loadPart_at e2 ?_
    | (with_reducible refine wpAny_isSubtype_exc e1 ?_; rw [e3])
    | wp_step)
  show wpAny _ _ (typeLookup (.ref C) _) _ _ _
  refine i1.at ?_
  refine wpAny_holding (wpAny_bind (b1.at ?_))
  refine wpAny_bind (wpAny_call (codeAny_mono hq fun r s' z => ?_))
  rcases r with e | (v | _ | _ | _)
  · exact z
  all_goals first | exact z.elim | skip
  obtain ⟨rfl, z⟩ := z
  first
    | exact wpAny_pure (wpAny_pure z)
    | (wp_walk; exact z)

/-- C(..) -/
theorem own_called (F : ExcBaseFacts B newId initId bmB) (T : Tl B bm) {fI : Addr}
    (hC : hp.get? C = some (excClassObj nm qn C N bs bm hdt sn sub ab col dd k0 k1 k2 k3 k5 newId))
    (hi : PySem.W.Looks (model prog w) hp (typeLookup (.ref C) "__init__") (some (.ref fI)))
    (hb : ∀ self, PySem.W.Looks (model prog w) hp (bindSpecial (.ref fI) self) (.ref fI, [self])) (hl : us.length ≤ sizeLine)
    (hq : codeAny (model prog w) (A.under (.builtin "type.__call__" ⟨.ref C :: us, []⟩))
      (.call (.ref fI) ⟨.ref (hp.objs.size + 1) :: us, []⟩) (PySem.W.InitBack (hp.objs.size + 1) R)
      ⟨(hp.push (PySem.W.kdv_tup us)).push (PySem.HandSPX.excO C hp.objs.size), gs, dr, tk, os⟩) :
    codeAny (model prog w) A (.call (.ref C) ⟨us, []⟩) R ⟨hp, gs, dr, tk, os⟩ := by
  have f1 := tc_lookup
  have f2 := tc_bind (.ref C)
  have hTy : (⟨hp, gs, dr, tk, os⟩ : Shared).TypeIs (.ref C) "type" := ⟨_, hC, rfl⟩
  refine codeAny_of_tree ?_
  show wpAny _ _ (callAny (.ref C) _) _ _ _
  repeat (any_goals (first
    | assumption
    | with_reducible refine wpAny_loadPart_at hC ?_
    | wp_step))
  refine ⟨rfl, ?_⟩
  refine codeAny_call_builtin_at (Code.quiet_builtin _ (by decide +kernel)) entry_typeCall (wpAny_check_type_call_sub hC ?_)
  refine own_typed F T hC hi hb hl (codeAny_mono hq fun r s' z => ?_)
  rcases r with e | (v | _ | _ | _) <;> exact z
end

theorem store_KE : StoreFacts "KeyError" [.type "KeyError", .type "LookupError", .type "Exception", .type "BaseException", .type "object"]
    "object.__setattr__" "object" where
  mro := by kernel_rfl
  slot := .of (owner := "object") (n := "__setattr__")
    (by rw [typeLookup_type, builtinLookup_eq_fast]; kernel_rfl) (by decide +kernel) (by decide +kernel) (by decide +kernel)
    (by first
      | exact .inl (by decide +kernel)
      | exact .inr (by decide +kernel)) (by rw [isSubtype_type]; kernel_rfl)
  entry := PySem.F.entry_object_sa
  kind := by decide +kernel
  split := by decide +kernel
  hasOwner := by decide +kernel
  args := fun x y z => by
    unfold argsOk
    kernel_rfl
  passes := fun me => by kernel_rfl

/-- an own class of errors whose __init__ keeps one thing under the name f -/
structure Oc (K : PySem.W.Frag) (C : Addr) (f : Str) : Prop where
  made : ∃ (B newId initId : String) (bmB bm : List Value) (nm q : Str) (N : Addr) (bs : List Value) (sn : List Str)
    (sub : List Value) (ab : Bool) (col : Option Bool) (dd : Option Addr) (k0 k1 k2 k3 k5 : Option Value),
    ExcBaseFacts B newId initId bmB ∧ Tl B bm ∧
    K.lookup C = some (excClassObj nm q C N bs bm true sn sub ab col dd k0 k1 k2 k3 k5 newId)
  sto : ∃ (B : String) (bmB : List Value), StoreFacts B bmB "object.__setattr__" "object" ∧ PySem.W.excOver K C bmB = true
  sa : PySem.W.findIn K (.ref C) "__setattr__" = some (some (.builtin "object.__setattr__"))
  exC : PySem.W.subIn K (.ref C) (.type "BaseException") = some true
  tyC : PySem.W.typeIn K (.ref C) = some (.type "type")
  kC : PySem.W.keepIn K (.ref C) = true
  hdC : PySem.W.hasDictIn K C = true
  no : PySem.W.findIn K (.ref C) f = some none

section
variable {X : Cx} {pins : List (Addr × Obj)} {σ : St} {H : Hp} {s : Shared} {a C dx : Addr} {f : Str} {y : V} {u : Value}
  {Q : Unit → Shared → Prop} {E : Value → Shared → Prop} {A : Around}
open PySem.Builtin PySem.Builtin.ObjectAttr in
/-- self.f = y: the error's dict is laid -/
theorem ost1 (T : Oc X.K C f) (I : Inv X pins σ H s) (e : H a = some (exo a C none)) (ry : RelV y u)
    (h : ∀ dx s', H dx = none → dx ≠ a → Inv X pins σ (upd (upd H dx (exd dx [(f, y)])) a (exo a C (some dx))) s' → Q () s') :
    wpAny (model X.prog X.w) A (setAttr (.ref a) f u) Q E s := by
  obtain ⟨t1, ho⟩ := exo_at I.hok e
  obtain ⟨B, bmB, SF, ov⟩ := T.sto
  have tk0 : PySem.W.takerIn X.K C f = some none := by
    unfold PySem.W.takerIn
    rw [T.no]
    rfl
  obtain ⟨cd, hc, hd'⟩ := PySem.W.any_some T.hdC
  obtain ⟨hp, g, d, t, os⟩ := s
  have KX : X.K.In hp := I.kIn
  refine PySem.W.set_plain KX (od := none) ⟨ho, rfl, rfl, trivial⟩ T.sa
    (PySem.W.osa_openX (od := none) SF KX ⟨ho, rfl, rfl, trivial⟩ ov tk0 fun b => ?_)
  have lt : a < hp.objs.size := Heap.lt_size ho
  refine wpAny_bind (wpAny_pure (wpAny_bind (PySem.W.instanceDict_exc (c2 := .none) ho (PySem.W.looks_clsIn KX hc) hd' ?_)))
  show wpAny _ _ (storeInDict hp.objs.size (.str f _) f u) _ _ _
  have n0 : ((hp.push (PySem.W.dictOf [] 0)).update a fun o => { o with dict := some hp.objs.size }).Ns hp.objs.size (fun _ => none) := by
    refine ⟨_, #[], _, (Heap.get?_update_ne _ _ _ _ (Nat.ne_of_gt lt)).trans (Heap.get?_push_at rfl rfl), rfl, ?_, fun _ => rfl⟩
    intro e he
    exact absurd he (by simp)
  refine PySem.HandSPX.store_in_new n0 fun h' tk' hn' hs => ?_
  have hxa : ((hp.push (PySem.W.dictOf [] 0)).update a fun o => { o with dict := some hp.objs.size }).get? a =
      some ({ cls := .ref C, dict := some hp.objs.size, data := .fields #[.ref t1, .none, .none, .none, .bool false, .none] } : Obj) :=
    Heap.get?_update_self _ (Heap.get?_push_of_some _ ho) rfl
  have hx : h'.get? a = some ({ cls := .ref C, dict := some hp.objs.size, data := .fields #[.ref t1, .none, .none, .none, .bool false, .none] } : Obj) :=
    (hs.2 a (Nat.ne_of_lt lt)).trans hxa
  have kk : ∀ b o, b ≠ a → hp.get? b = some o → h'.get? b = some o := fun b o hb q =>
    (hs.2 b (Nat.ne_of_lt (Heap.lt_size q))).trans ((Heap.get?_update_ne _ _ _ _ hb).trans (Heap.get?_push_of_some _ q))
  have hnd : H hp.objs.size = none := I.hok.fresh (Nat.le_refl _)
  have nd : ∀ {b : Addr} {o : Obj}, hp.get? b = some o → b ≠ hp.objs.size := fun q => Nat.ne_of_lt (Heap.lt_size q)
  have na : ∀ {b : Addr}, H b = none → b ≠ a := by
    intro b n z
    rw [z, e] at n
    cases n
  have U : Un X.fs [] H (upd (upd H hp.objs.size (exd hp.objs.size [(f, y)])) a (exo a C (some hp.objs.size))) hp h' := by
    constructor
    · intro b o q n _ _
      exact kk b o (na n) q
    · intro b o q n _ _
      exact ⟨o.slots, kk b o (na n) q⟩
    · intro b o q n _
      rw [upd_ne (na n), upd_ne (nd q)]
      exact n
    · intro b o q _
      by_cases hb : b = a
      · rw [hb]
        exact ⟨_, hx⟩
      · exact ⟨o, kk b o hb q⟩
    · intro b xs q
      rw [upd_ne (at_ne e q exo_tup), upd_ne (ne_of_none q hnd)]
      exact q
    · intro b o v q
      rw [upd_ne (at_ne e q exo_frz), upd_ne (ne_of_none q hnd)]
      exact q
    · intro b ps q
      refine ⟨#[], ?_⟩
      rw [upd_ne (at_ne e q exo_tbl), upd_ne (ne_of_none q hnd), q]
      simp
  refine h hp.objs.size _ hnd (Nat.ne_of_gt lt) (I.un (t' := tk') U ?_)
  intro b o q
  by_cases hb : b = a
  · subst hb
    rw [upd_same] at q
    cases q
    exact exo_ok hx
  rw [upd_ne hb] at q
  by_cases hd : b = hp.objs.size
  · subst hd
    rw [upd_same] at q
    cases q
    exact exd_ok hn' (relO_put (fs := []) ry fun g => True.intro)
  rw [upd_ne hd] at q
  refine (I.hok b o q).stay ?_ ?_ ?_
  · intro c v hc z
    refine kk c v ?_ z
    rcases hc with hc | hc
    · rw [hc]
      exact hb
    · exact at_ne e hc exo_own
  · intro c hc
    rw [upd_ne (at_ne e hc exo_own), upd_ne (ne_of_none hc hnd)]
    exact hc
  · intro c xs hc
    rw [upd_ne (at_ne e hc exo_tup), upd_ne (ne_of_none hc hnd)]
    exact hc
end

/-- self.f = e, of an error that is being made -/
def tOs1 (K : PySem.W.Frag) (f : Str) (to te : TE) : TS := fun D σ H => te σ H fun y H1 => to σ H1 fun x H2 =>
  ∃ a C : Addr, x = .ref a ∧ Oc K C f ∧ H2 a = some (exo a C none) ∧
    ∀ dx, H2 dx = none → dx ≠ a → D.nx σ (upd (upd H2 dx (exd dx [(f, y)])) a (exo a C (some dx)))
/-- what such an __init__ promises -/
def spIni (K : PySem.W.Frag) (C : Addr) (f : Str) : Sp := fun vs H Q _ => ∃ a y, vs = [.ref a, y] ∧ Oc K C f ∧ H a = some (exo a C none) ∧
  ∀ dx, H dx = none → dx ≠ a → Q .non (upd (upd H dx (exd dx [(f, y)])) a (exo a C (some dx)))
section
variable {X : Cx} {o e : Expr} {es : List Expr} {to te : TE} {ta : TA} {f x : Str} {p p' p1 p2 pos : Pos}
theorem ps_os1 (ho : PE X o to) (he : PE X e te) (hs : swapsWith e (some (.Attribute o f p')) pos.line X.env = pure false := by rfl) :
    PS X (.Assign [.Attribute o f p'] e pos) (tOs1 X.K f to te) := by
  constructor
  intro pins s σ H D I h
  refine plainObj_wpAny_Assign_Attribute (thn (he.run pins s σ H _ I h) ?_) hs
  rintro v s1 ⟨y, H1, I1, r1, q1⟩
  refine thn (ho.run pins s1 σ H1 _ I1 q1) ?_
  rintro u s2 ⟨x, H2, I2, r2, a, C, ex, T, ea, q⟩
  subst ex
  obtain rfl : u = Value.ref a := r2
  exact ost1 T I2 ea r1 fun dx s' n ne J => ⟨σ, _, J, q dx n ne⟩

/-- C(e) as a value -/
def tMkV (C : Addr) (f : Str) (ta : TA) : TE := fun σ H Q => ta σ H fun vs H1 => ∃ y, vs = [y] ∧
  ∀ a dx, H1 a = none → H1 dx = none → dx ≠ a → Q (.ref a) (upd (upd H1 dx (exd dx [(f, y)])) a (exo a C (some dx)))
/-- C(e), to be raised -/
def tMkR (C : Addr) (f : Str) (ta : TA) : St → Hp → XK → Prop := fun σ H Q => ta σ H fun vs H1 => ∃ y, vs = [y] ∧
  ∀ d, H1 d = none → Q (.ref C) (some d) (upd H1 d (.xd [(f, y)]))

theorem upd_shade {H : Hp} {a b : Addr} {o o1 o2 : HO} (h : b ≠ a) : upd (upd (upd H a o) b o1) a o2 = upd (upd H b o1) a o2 := by
  funext c
  by_cases h1 : c = a
  · rw [h1, upd_same, upd_same]
  rw [upd_ne h1, upd_ne h1]
  by_cases h2 : c = b
  · rw [h2, upd_same, upd_same]
  rw [upd_ne h2, upd_ne h2, upd_ne h1]
theorem del_shade {H : Hp} {a b : Addr} {o o1 o2 : HO} (hn : H a = none) (h : b ≠ a) :
    upd (del (upd (upd H b o1) a o) a) b o2 = upd H b o2 := by
  funext c
  by_cases h2 : c = b
  · rw [h2, upd_same, upd_same]
  rw [upd_ne h2, upd_ne h2]
  by_cases h1 : c = a
  · rw [h1, del_same, hn]
  rw [del_ne h1, upd_ne h1, upd_ne h2]

section
variable {k : Nat} {C fI : Addr} {fd : FuncData} {ps : List Str}
/-- C(e): __init__ has run on the new error -/
theorem own_made {pins : List (Addr × Obj)} {σ : St} {H1 : Hp} {s1 : Shared} {us : List Value} {y : V} {Q : Value → Shared → Prop}
    (T : Oc X.K C f) (iC : PySem.W.findIn X.K (.ref C) "__init__" = some (some (.ref fI)))
    (tI : PySem.W.typeIn X.K (.ref fI) = some (.type "function"))
    (F1 : FnOk X.prog X.w X.K X.mg X.base CX0 k fI fd ps (spIni X.K C f)) (hr : Room (k + 1) X.A) (hb : Binds X.K fd ps [])
    (I1 : Inv X pins σ H1 s1) (r1 : Vals [y] us)
    (h : ∀ (a dx : Addr) (hp2 : Heap) (s' : Shared), H1 a = none → H1 dx = none → dx ≠ a → s1.heap.objs.size ≤ a →
      (∀ b o, s1.heap.get? b = some o → hp2.get? b = some o) →
      Un (frs X.stack) [] (upd H1 a (exo a C none)) (upd (upd H1 dx (exd dx [(f, y)])) a (exo a C (some dx))) hp2 s'.heap →
      HOk X.prog X.w (upd (upd H1 dx (exd dx [(f, y)])) a (exo a C (some dx))) s'.heap → s'.os = s1.os → AllBare s'.gens →
      Inv X pins σ (upd H1 a (exo a C none)) { s1 with heap := hp2 } →
      CE X.stack X.prog X.w (upd H1 a (exo a C none)) { s1 with heap := hp2 }
        (fun v H' => v = .non ∧ H' = upd (upd H1 dx (exd dx [(f, y)])) a (exo a C (some dx))) .none s' → Q (.ref a) s') :
    wpAny (model X.prog X.w) X.A (call (.ref C) us) Q X.xe s1 := by
  obtain ⟨B, newId, initId, bmB, bm, nm, q, N, bs, sn, sub, ab, col, dd, k0, k1, k2, k3, k5, F, TL, hC⟩ := T.made
  obtain ⟨hp, g, dr, tk, os⟩ := s1
  have hsz : hp.objs.size ≤ hp.objs.size + 1 := Nat.le_succ _
  have hn : H1 (hp.objs.size + 1) = none := I1.hok.fresh hsz
  have kk : ∀ b o, hp.get? b = some o →
      ((hp.push (PySem.W.kdv_tup us)).push (PySem.HandSPX.excO C hp.objs.size)).get? b = some o :=
    fun b o e => Heap.get?_push_of_some _ (Heap.get?_push_of_some _ e)
  have hget : ((hp.push (PySem.W.kdv_tup us)).push (PySem.HandSPX.excO C hp.objs.size)).get? (hp.objs.size + 1) =
      some (PySem.HandSPX.excO C hp.objs.size) := by heap_get
  have I2 : Inv X pins σ (upd H1 (hp.objs.size + 1) (exo (hp.objs.size + 1) C none))
      ⟨(hp.push (PySem.W.kdv_tup us)).push (PySem.HandSPX.excO C hp.objs.size), g, dr, tk, os⟩ :=
    I1.laid (t' := tk) (a := hp.objs.size + 1) (o := exo (hp.objs.size + 1) C none) kk hsz (exo_ok hget)
  have r2 : Vals (V.ref (hp.objs.size + 1) :: [y]) (Value.ref (hp.objs.size + 1) :: us) := .cons rfl r1
  have hl1 : us.length = 1 := r1.length.symm
  have hus : us.length ≤ sizeLine := by
    rw [hl1, sizeLine_eq]
    omega
  have bd := hb ⟨(hp.push (PySem.W.kdv_tup us)).push (PySem.HandSPX.excO C hp.objs.size), g, dr, tk, os⟩
    (Value.ref (hp.objs.size + 1) :: us) I2.kIn
  refine wpAny_call (own_called F TL (I1.kIn _ _ hC) (PySem.W.looks_findIn I1.kIn iC)
    (fun self => PySem.W.bind_fn I1.kIn self tI) hus ?_)
  have sp0 : spIni X.K C f [.ref (hp.objs.size + 1), y] (upd H1 (hp.objs.size + 1) (exo (hp.objs.size + 1) C none))
      (fun v H' => ∃ dx, v = .non ∧ H1 dx = none ∧ dx ≠ hp.objs.size + 1 ∧
        H' = upd (upd H1 dx (exd dx [(f, y)])) (hp.objs.size + 1) (exo (hp.objs.size + 1) C (some dx))) E0 := by
    refine ⟨_, y, rfl, T, upd_same, ?_⟩
    intro dx n ne
    rw [upd_ne ne] at n
    exact ⟨dx, rfl, n, ne, upd_shade ne⟩
  have hl : (Value.ref (hp.objs.size + 1) :: us ++ []).length = ps.length := by
    rw [List.append_nil]
    exact r2.length.symm.trans (F1.len _ _ _ _ sp0)
  have bd' := bd hl
  rw [List.append_nil] at bd'
  refine codeAny_mono (F1.run _ X.stack _ _ ⟨Value.ref (hp.objs.size + 1) :: us, []⟩ (Value.ref (hp.objs.size + 1) :: us) _ _
    E0 (hr.make C us []) (I2.env0.make C us []) bd' r2 sp0) ?_
  intro r s' hq'
  cases r with
  | error er => exact hq'.elim
  | ok fl =>
    cases fl with
    | ret u =>
      obtain ⟨v, H2, os2, bare2, un2, hok2, rv, dx, ev, nx, ne, eH⟩ := hq'
      subst ev
      subst eH
      obtain rfl : u = Value.none := rv
      refine ⟨rfl, h _ dx _ s' hn nx ne hsz kk un2 hok2 os2 bare2 I2 ⟨.non, _, os2, bare2, un2, hok2, rfl, rfl, rfl⟩⟩
    | next => exact hq'.elim
    | brk => exact hq'.elim
    | cont => exact hq'.elim

theorem pe_mkv (T : Oc X.K C f) (iC : PySem.W.findIn X.K (.ref C) "__init__" = some (some (.ref fI)))
    (tI : PySem.W.typeIn X.K (.ref fI) = some (.type "function"))
    (F1 : FnOk X.prog X.w X.K X.mg X.base CX0 k fI fd ps (spIni X.K C f)) (hr : Room (k + 1) X.A) (hb : Binds X.K fd ps [])
    (hg : Gl X x) (hm : X.mg x = some (.ref C)) (ha : PA X [e] ta)
    (hdb : (x == ("__debug__" : Str)) = false := by decide)
    (he : starEach [e] X.env = (false, eval e X.env) :: starEach [] X.env := by rfl)
    (hpl : (backTo pos (starEach [] X.env)).any (·.1) = false := by rfl) :
    PE X (.Call (.Name x p) [e] [] pos) (tMkV C f ta) := by
  constructor
  intro pins s σ H Q I h
  refine wpAny_Call_Name_kw (ld_glob I hg hm ?_ hdb)
  refine PySem.W.callWith_K (h₀ := X.base) I.ok.mod.kin T.kC (thn (ha.run pos pins s σ H _ I h) ?_) he hpl
  rintro us s1 ⟨vs, H1, I1, r1, y, rfl, q1⟩
  refine ⟨I1.kIn, ?_⟩
  show wpAny _ _ (call (.ref C) us) _ _ _
  refine own_made T iC tI F1 hr hb I1 r1 ?_
  intro a dx hp2 s' na nd ne _ _ _ _ _ _ I2 ce
  obtain ⟨v, H', J, rv, ev, eH⟩ := I2.after ce
  subst eH
  exact ⟨.ref a, _, J, rfl, q1 a dx na nd ne⟩

theorem pmk_mkr (T : Oc X.K C f) (iC : PySem.W.findIn X.K (.ref C) "__init__" = some (some (.ref fI)))
    (tI : PySem.W.typeIn X.K (.ref fI) = some (.type "function"))
    (F1 : FnOk X.prog X.w X.K X.mg X.base CX0 k fI fd ps (spIni X.K C f)) (hr : Room (k + 1) X.A) (hb : Binds X.K fd ps [])
    (hg : Gl X x) (hm : X.mg x = some (.ref C)) (ha : PA X [e] ta)
    (hdb : (x == ("__debug__" : Str)) = false := by decide)
    (he : starEach [e] X.env = (false, eval e X.env) :: starEach [] X.env := by rfl)
    (hpl : (backTo pos (starEach [] X.env)).any (·.1) = false := by rfl) :
    PMk X (.Call (.Name x p) [e] [] pos) (tMkR C f ta) := by
  intro pins s σ H Q I h
  refine wpAny_Call_Name_kw (ld_glob I hg hm ?_ hdb)
  refine PySem.W.callWith_K (h₀ := X.base) I.ok.mod.kin T.kC (thn (ha.run pos pins s σ H _ I h) ?_) he hpl
  rintro us s1 ⟨vs, H1, I1, r1, y, rfl, q1⟩
  refine ⟨I1.kIn, ?_⟩
  show wpAny _ _ (call (.ref C) us) _ _ _
  refine own_made T iC tI F1 hr hb I1 r1 ?_
  intro a dx hp2 s' na nd ne hsz kk un hok eo ba I2 ce
  obtain ⟨hp1, g1, d1, t1, os1⟩ := s1
  obtain ⟨h2, g2, d2, t2, os2⟩ := s'
  refine mk_end (fs := [(f, y)]) (raises_own T.exC T.tyC) I1 hsz kk un hok eo ba upd_same ?_ nd ?_
  · rw [upd_ne ne, upd_same]
  · rw [del_shade na ne]
    exact q1 dx nd
end
end
end LP

set_option Elab.async false
set_option linter.all false
set_option maxRecDepth 100000
set_option maxHeartbeats 4000000
/-! LPY: errors of own classes as values: isinstance, what they keep; try with several clauses, named or not. -/
namespace LP
open PySem PySem.Spec L2
open PyProof.Rows hiding St

/-! ### isinstance of an error -/
/-- at a stands an error of the class C: tracked, or pinned -/
def XAt (pn : List (Addr × Obj)) (H : Hp) (a C : Addr) : Prop :=
  (H a = some (exo a C none)) ∨ (∃ dd fs, H a = some (exo a C (some dd)) ∧ H dd = some (exd dd fs)) ∨
    ∃ oe, (a, oe) ∈ pn ∧ Zc (.ref C) none oe ∧ ∃ vs, oe.data = .fields vs
def rIsX (K : PySem.W.Frag) (pn : List (Addr × Obj)) : List V → Hp → VK → Prop := fun xs H Q =>
  ∃ (a C : Addr) (c : V) (cv : Value) (b : Bool), xs = [.ref a, c] ∧ ClsV c cv ∧ ExcC K C ∧ XAt pn H a C ∧
    PySem.W.kitOne K (.ref C) cv = some b ∧ Q (.bl b) H

section
variable {X : Cx} {pins : List (Addr × Obj)} {σ : St} {H : Hp} {s : Shared} {a C : Addr}
theorem XAt.inst (I : Inv X pins σ H s) (h : XAt X.pn H a C) : ∃ ox od, PySem.W.InstAt s.heap a ox C od := by
  rcases h with h | ⟨dd, fs, h, hd⟩ | ⟨oe, hm, hz, vs, hv⟩
  · obtain ⟨t1, ho⟩ := exo_at I.hok h
    exact ⟨_, none, ho, rfl, rfl, trivial⟩
  · obtain ⟨t1, ho⟩ := exo_at I.hok h
    obtain ⟨mA, ⟨o, es, ep, e, _⟩, _⟩ := exd_at I.hok hd
    exact ⟨_, some o, ho, rfl, rfl, e⟩
  · obtain ⟨hg, _⟩ := I.pin (a, oe) (List.mem_append_left _ hm)
    obtain ⟨oc, od, oda, osl⟩ := oe
    obtain ⟨h1, h2⟩ := hz
    dsimp only at h1 h2 hv
    subst h1 h2 hv
    exact ⟨_, none, hg, rfl, rfl, trivial⟩

theorem call_isX : CallR X (.builtin "isinstance") (rIsX X.K X.pn) := by
  intro pins s σ H xs us Q I r h
  obtain ⟨a, C, c, cv, b, rfl, k, T, hx, e, q⟩ := h
  obtain ⟨u1, u2, rfl, r1, r2⟩ := vals2 r
  obtain rfl := k.eq r2
  cases (show u1 = Value.ref a from r1)
  obtain ⟨ox, od, J⟩ := hx.inst I
  obtain ⟨cd, hc, _⟩ := PySem.W.any_some T.hd
  have hcl : (PySem.W.clsIn X.K C).isSome = true := by
    rw [hc]
    rfl
  refine PySem.W.kia_one (PySem.W.kitx_exc hcl T.hg T.hk T.hs T.ha T.hn T.ht T.hm) I.kIn J e (fun z => nomatch z) ?_
  intro tk
  exact ⟨.bl b, H, I.tok tk, rfl, q⟩

/-! ### what a tracked error keeps -/
def tXv (K : PySem.W.Frag) (n : Str) (te : TE) : TE := fun σ H Q => te σ H fun x H1 => ∃ (a C d : Addr) (fs : List (Str × V)) (v : V),
  x = .ref a ∧ XfC K C ∧ PySem.W.findIn K (.ref C) n = some none ∧ H1 a = some (exo a C (some d)) ∧ H1 d = some (exd d fs) ∧
    fs.lookup n = some v ∧ Q v H1
theorem pe_xv {e : Expr} {te : TE} {pos : Pos} {n : Str} (he : PE X e te)
    (hb : attributeBase e n X.env (eval e X.env) = eval e X.env := by rfl) :
    PE X (.Attribute e n pos) (tXv X.K n te) := by
  constructor
  intro pins s σ H Q I h
  refine attr_of hb (thn (he.run pins s σ H _ I h) ?_)
  rintro u s1 ⟨x, H1, I1, rx, a, C, d, fs, v, ex, T, hno, ha, hd, l, q⟩
  subst ex
  obtain rfl : u = Value.ref a := rx
  obtain ⟨t1, ho⟩ := exo_at I1.hok ha
  obtain ⟨mA, hn1, rel⟩ := exd_at I1.hok hd
  obtain ⟨od, hod, hl⟩ := lookIn_ns hn1
  obtain ⟨u, hu, ru⟩ := RelO.some_of (v := v) (o := mA n) (by rw [← l]; exact rel n)
  have J : PySem.W.InstAt s1.heap a _ C (some od) := ⟨ho, rfl, rfl, hod⟩
  have fo := PySem.W.findObj_own T.hdC hno rfl (od := od) (v := u) (by rw [hl, hu])
  exact HandSPX.exc_get I1.kIn J T.ga T.gg T.exC fo (handed_of ru) ⟨v, H1, I1.tok _, ru, q⟩

/-! ### an error without own __init__, as a value -/
theorem pe_mk0 {bmB : List Value} {B newId initId : String} {x : Str} {e : Expr} {ta : TE} {p pos : Pos}
    (F : ExcBaseFacts B newId initId bmB) (q : PySem.W.excIn X.K C bmB newId = true) (gC : X.mg x = some (.ref C))
    (kC : PySem.W.keepIn X.K (.ref C) = true) (hg : Gl X x) (he : PE X e ta)
    (hs : starEach [e] X.env = (false, eval e X.env) :: starEach [] X.env := by rfl)
    (hdb : (x == ("__debug__" : Str)) = false := by decide) :
    PE X (.Call (.Name x p) [e] [] pos)
      (fun σ H Q => ta σ H fun _ H1 => ∀ a, H1 a = none → Q (.ref a) (upd H1 a (exo a C none))) := by
  constructor
  intro pins s σ H Q I h
  refine wpAny_Call_Name_kw (ld_glob I hg gC ?_ hdb)
  refine PySem.W.callWith_K (h₀ := X.base) I.ok.mod.kin kC ?_ hs (by rfl)
  rw [hs]
  show wpAny _ _ (spliced ((false, eval e X.env) :: backTo pos (starEach [] X.env))) _ _ s
  refine Calls.spliced_cons (thn (he.run pins s σ H _ I h) ?_)
  rintro u s1 ⟨v, H1, I1, r1, q1⟩
  refine Calls.spliced_nil ⟨I1.kIn, ?_⟩
  show wpAny _ _ (call (.ref C) [u]) _ _ _
  obtain ⟨bm, N, nm, qn, bs, hdct, sn, sub, ab, col, dd, k0, k1, k2, k3, k5, mN, hC, hN, hni, T⟩ := exc_obj I1.kIn q
  refine wpAny_call_exc_subT F T hC hN hni ?_ (by show 1 ≤ sizeLine; rw [sizeLine_eq]; omega)
  intro h' a hm
  have hn : H1 a = none := I1.hok.gone hm.new
  obtain ⟨t, ht, _, _⟩ := hm.there
  exact ⟨.ref a, _, I1.laidN hm.keeps hm.new hn (exo_ok ht), rfl, q1 a hn⟩
end

/-! ### try with several clauses, each with a name or without -/
abbrev Ts3 := Addr → Value → Option Addr → TS
/-- the ends of a suite behind which slot i is empty -/
def Ends.off (D : Ends) (i : Nat) : Ends :=
  { nx := fun σ H => D.nx (σ.set i none) H, rt := D.rt, bk := fun σ H => D.bk (σ.set i none) H, ct := fun σ H => D.ct (σ.set i none) H }
def wCl (K : PySem.W.Frag) (Wout : WX) (D : Ends) : List (Value × Option Nat × Ts3) → WX
  | [] => Wout
  | (c, none, ts) :: r => fun cls d σ H => ∃ b, PySem.W.exmOne K cls c = some b ∧
      (b = true → ∀ a, H a = none → ts a cls d D σ H) ∧ (b = false → wCl K Wout D r cls d σ H)
  | (c, some i, ts) :: r => fun cls d σ H => ∃ b, PySem.W.exmOne K cls c = some b ∧
      (b = true → ∀ a, H a = none → ts a cls d (Ends.off D i) (σ.set i (some (.ref a))) H) ∧ (b = false → wCl K Wout D r cls d σ H)
/-- a suite, whatever error it is that is caught -/
def Suit (X : Cx) (ss : List Stmt) (ts : Ts3) : Prop := ∀ (a : Addr) (oe : Obj) (cls : Value) (d : Option Addr) (pn : List (Addr × Obj)),
  Zc cls d oe → (∃ vs, oe.data = .fields vs) → PSs (X.suite a ((a, oe) :: pn)) ss (ts a cls d)
inductive Cls3 (X : Cx) : List ExceptHandler → List (Value × Option Nat × Ts3) → Prop
  | nil : Cls3 X [] []
  | bare {x : Str} {c : Value} {ts : Ts3} {b₀ : Stmt} {suite : List Stmt} {np pos : Pos} {hds : List ExceptHandler}
      {l : List (Value × Option Nat × Ts3)} (hc : Names X x c) (hsu : Suit X (b₀ :: suite) ts) (r : Cls3 X hds l) :
      Cls3 X (.ExceptHandler (some (.Name x np)) none (b₀ :: suite) pos :: hds) ((c, none, ts) :: l)
  | named {x n : Str} {i : Nat} {c : Value} {ts : Ts3} {b₀ : Stmt} {suite : List Stmt} {np pos : Pos} {hds : List ExceptHandler}
      {l : List (Value × Option Nat × Ts3)} (hN : X.N.Nodup) (hi : X.N[i]? = some n) (hln : X.env.kindOf n = some .local)
      (hc : Names X x c) (hsu : Suit X (b₀ :: suite) ts) (r : Cls3 X hds l) :
      Cls3 X (.ExceptHandler (some (.Name x np)) (some n) (b₀ :: suite) pos :: hds) ((c, some i, ts) :: l)

section
variable {X : Cx} {body : List Stmt} {h₀ : ExceptHandler} {hds : List ExceptHandler} {l : List (Value × Option Nat × Ts3)} {pos : Pos}
  {tb : WX → TS} {Wout : WX}
theorem ps_try3 (hs : X.stack = X.env :: X.outer) (hf : X.env.frame = some X.env.locals) (tk : Takes X Wout)
    (hb : ∀ (W : WX) (pn : List (Addr × Obj)) (xe : Value → Shared → Prop), Takes (X.tr pn xe) W →
      PassesOwn (model X.prog X.w) X.A X.env xe → PSs (X.tr pn xe) body (tb W))
    (hh : Cls3 X (h₀ :: hds) l) :
    PS X (.Try body (h₀ :: hds) [] [] pos) (fun D σ H => tb (wCl X.K Wout D l) D σ H) := by
  constructor
  intro pins s σ H D I h
  have ok := I.ok
  have hfr : X.A.frames = some (X.env :: X.outer) := by
    rw [ok.frames, hs]
  refine wpAny_Try_except ?_
  have run := hb (wCl X.K Wout D l) (X.pn ++ pins)
    (fun e s₁ => wpAny (model X.prog X.w) X.A (noteFrame e X.env) (fun _ s₂ => wpAny (model X.prog X.w) X.A (setFlight e none)
      (fun _ s₃ => wpAny (model X.prog X.w) X.A (handleBy e X.env (h₀ :: hds)) (SP X pins D) X.xe s₃) X.xe s₂) X.xe s₁)
    ?_ PassesOwn.looking
  refine wpAny_mono (run.run [] s σ H D (I.toTry _) h) ?_ (fun _ _ z => z)
  · intro fl s1 hsp
    cases fl with
    | next =>
      obtain ⟨σ', H', J', q⟩ := hsp
      exact wpAny_execs_nil ⟨σ', H', J'.ofTry ok, q⟩
    | brk =>
      obtain ⟨σ', H', J', q⟩ := hsp
      exact ⟨σ', H', J'.ofTry ok, q⟩
    | cont =>
      obtain ⟨σ', H', J', q⟩ := hsp
      exact ⟨σ', H', J'.ofTry ok, q⟩
    | ret u =>
      obtain ⟨v, σ', H', J', r, q⟩ := hsp
      exact ⟨v, σ', H', J'.ofTry ok, r, q⟩
  rintro u s' ⟨a, B, sI, pins', σ', H', cls, d, rfl, J', nb, up, sky, na, os, ag, w0⟩
  have J : Inv X pins σ' H' sI := J'.ofTry ok
  have sky' : Sky B (X.env :: X.outer) a (Zc cls d) X.env.locals s'.heap := by
    rw [← hs]
    exact sky
  show wpAny (model X.prog X.w) X.A (noteFrame (.ref a) X.env) _ _ _
  refine Sky.land Zc.steady hfr hf sky' ?_
  intro h3 fl3 up3
  have J3 : Inv X pins σ' H' { s' with heap := h3 } := J.landed nb fl3.1 (up.trans up3) os ag
  obtain ⟨oe3, vs3, he3, hz3, hd3⟩ := fl3.there
  have nfr : a ∉ frs (X.env :: X.outer) := by
    intro hm
    obtain ⟨_, o', e', hnf⟩ := fl3.2.2.1.mem hm
    rw [he3] at e'
    cases e'
    exact hnf _ hd3
  have nL : a ≠ X.env.locals := by
    intro z
    exact nfr (List.mem_filterMap.mpr ⟨X.env, List.mem_cons_self, by rw [hf, z]⟩)
  have nF : a ∉ X.fs := by
    intro hm
    obtain ⟨e, he, q⟩ := List.mem_filterMap.mp hm
    exact nfr (List.mem_filterMap.mpr ⟨e, List.mem_cons_of_mem _ he, q⟩)
  have S3 := J3.suite he3 hd3 na nL nF
  have LT : PySem.W.Looks (model X.prog X.w) h3 (typeOf (.ref a)) cls := by
    intro A Q E s k q
    exact wpAny_typeOf_ref (k _ _ he3) (by rw [hz3.1]; exact q)
  have test : ∀ {x : Str} {np : Pos} {c : Value} {Q : Value → Shared → Prop} {E : Value → Shared → Prop}, Names X x c →
      Q c { s' with heap := h3 } →
      wpAny (model X.prog X.w) (X.A.mark (some (.ref a))) (eval (.Name x np) X.env) Q E { s' with heap := h3 } := by
    intro x np c Q E hc q
    obtain ⟨hg, hdbg, hm | ⟨hm, hv, hnn⟩⟩ := hc
    · exact ld_glob (X := X.suite a ((a, oe3) :: (X.pn ++ pins))) S3 hg hm q hdbg
    · exact ld_blt (X := X.suite a ((a, oe3) :: (X.pn ++ pins))) S3 hg hm hv q hnn hdbg
  have go : ∀ {hds' : List ExceptHandler} {l' : List (Value × Option Nat × Ts3)}, Cls3 X hds' l' → wCl X.K Wout D l' cls d σ' H' →
      wpAny (model X.prog X.w) X.A (handleBy (.ref a) X.env hds') (SP X pins D) X.xe { s' with heap := h3 } := by
    intro hds' l' hk
    induction hk with
    | nil =>
      intro w
      refine wpAny_handleBy_nil ?_
      obtain ⟨k1, k2, k3, oe, vs, T, oT, ts', he, hz, hd, h1, hr⟩ := id fl3
      unfold PySem.passOn
      refine wpAny_bind (wpAny_field he hd h1 ?_)
      rw [if_neg (show ¬ ((Value.ref T == Value.none) = true) by simp)]
      have fin : wpAny (model X.prog X.w) X.A (setFlight (.ref a) X.env.frame)
          (fun _ s4 => wpAny (model X.prog X.w) X.A (throw (.ref a) : Sem Flow) (SP X pins D) X.xe s4) X.xe { s' with heap := h3 } := by
        rw [hf]
        refine HandSPX.setFlight_upZ fl3 ?_
        intro h4 hh4 up4
        refine wpAny_throw (tk _ _ ?_)
        refine ⟨a, B, sI, pins, σ', H', cls, d, rfl, J, nb, (up.trans up3).trans up4, .inr (.inr ?_), na, os, ag, w⟩
        rw [hs]
        exact hh4
      first
        | exact wpAny_bind (wpAny_pure (wpAny_bind fin))
        | exact wpAny_bind fin
    | @bare x c ts b₀ suite np pos' hds2 l2 hc hsu r ih =>
      rintro ⟨b, hb1, hyes, hno⟩
      refine wpAny_handleBy_cons (codeAny_handlers_test ?_) (by intro q; cases q)
      refine test hc ((PySem.W.exm_one (M := model X.prog X.w) J3.kIn LT hb1).here ?_)
      cases b with
      | false =>
        show wpAny _ X.A (handleBy (.ref a) X.env hds2) _ _ _
        exact ih (hno rfl)
      | true =>
        refine codeAny_handlers_suite (HandSPX.lands_againZ fl3 ?_)
        intro h4 fl4 up4
        have J4 : Inv X pins σ' H' { s' with heap := h4 } := J.landed nb fl4.1 ((up.trans up3).trans up4) os ag
        obtain ⟨oe4, vs4, he4, hz4, hd4⟩ := fl4.there
        have S4 := J4.suite he4 hd4 na nL nF
        refine wpAny_mono ((hsu a oe4 cls d (X.pn ++ pins) hz4 ⟨_, hd4⟩).run [] _ _ H' _ S4 (hyes rfl a na)) ?_ (fun _ _ z => z.elim)
        intro f s6 hsp
        cases f with
        | ret u =>
          obtain ⟨v6, σ6, H6, S6, r6, q6⟩ := hsp
          exact ⟨_, _, _, S6.unsuite ok, r6, q6⟩
        | next =>
          obtain ⟨σ6, H6, S6, q6⟩ := hsp
          exact ⟨_, _, S6.unsuite ok, q6⟩
        | brk =>
          obtain ⟨σ6, H6, S6, q6⟩ := hsp
          exact ⟨_, _, S6.unsuite ok, q6⟩
        | cont =>
          obtain ⟨σ6, H6, S6, q6⟩ := hsp
          exact ⟨_, _, S6.unsuite ok, q6⟩
    | @named x n i c ts b₀ suite np pos' hds2 l2 hN hi hln hc hsu r ih =>
      rintro ⟨b, hb1, hyes, hno⟩
      refine wpAny_handleBy_cons (codeAny_handlers_test ?_) (by intro q; cases q)
      refine test hc ((PySem.W.exm_one (M := model X.prog X.w) J3.kIn LT hb1).here ?_)
      cases b with
      | false =>
        show wpAny _ X.A (handleBy (.ref a) X.env hds2) _ _ _
        exact ih (hno rfl)
      | true =>
        refine codeAny_handlers_suite_as (HandSPX.lands_againZ fl3 ?_)
        intro h4 fl4 up4
        have J4 : Inv X pins σ' H' { s' with heap := h4 } := J.landed nb fl4.1 ((up.trans up3).trans up4) os ag
        obtain ⟨oe4, vs4, he4, hz4, hd4⟩ := fl4.there
        have S4 := J4.suite he4 hd4 na nL nF
        refine store_ok (X := X.suite a ((a, oe4) :: (X.pn ++ pins))) (v := .ref a) S4 hN hi (.inl hln) rfl ?_ (.inr hln)
        intro s5 S5
        refine wpAny_mono ((hsu a oe4 cls d (X.pn ++ pins) hz4 ⟨_, hd4⟩).run [] s5 _ H' _ S5 (hyes rfl a na)) ?_ (fun _ _ z => z.elim)
        intro f s6 hsp
        have bye : ∀ {σ6 : St} {H6 : Hp} {Q : Shared → Prop}, Inv (X.suite a ((a, oe4) :: (X.pn ++ pins))) [] σ6 H6 s6 →
            (∀ s7, Inv X pins (σ6.set i none) H6 s7 → Q s7) →
            wpAny (model X.prog X.w) X.A (do bindName X.env n .none; unbindBehindTheSuite X.env n pos') (fun _ s7 => Q s7) X.xe s6 :=
          fun S6 hq => gone_ok (S6.unsuite ok) hN hi hln hq
        cases f with
        | ret u =>
          obtain ⟨v6, σ6, H6, S6, r6, q6⟩ := hsp
          exact bye S6 fun s7 J7 => ⟨_, _, _, J7, r6, q6⟩
        | next =>
          obtain ⟨σ6, H6, S6, q6⟩ := hsp
          exact bye S6 fun s7 J7 => ⟨_, _, J7, q6⟩
        | brk =>
          obtain ⟨σ6, H6, S6, q6⟩ := hsp
          exact bye S6 fun s7 J7 => ⟨_, _, J7, q6⟩
        | cont =>
          obtain ⟨σ6, H6, S6, q6⟩ := hsp
          exact bye S6 fun s7 J7 => ⟨_, _, J7, q6⟩
  exact go hh w0
end
end LP

set_option Elab.async false
set_option linter.all false
set_option maxRecDepth 100000
set_option maxHeartbeats 4000000
/-! LPZ: data with dicts and its repr; defs that are called while an error is handled; facts of own errors' classes. -/
namespace LP
open PySem PySem.Spec L2
open PyProof.Rows hiding St

/-! ### data, dicts among it; z: no list of it lies where sys.modules does -/
def keyD : Key → PyData
  | .inl i => .int i
  | .inr x => .str x
mutual
inductive Dd (z : Prop) (H : Hp) : V → PyData → Prop
  | non : Dd z H .non .none
  | bl (b : Bool) : Dd z H (.bl b) (.bool b)
  | int (i : Int) : Dd z H (.int i) (.int i)
  | str (x : Str) : Dd z H (.str x) (.str x)
  | lst {a : Addr} {xs : List V} {ds : List PyData} : H a = some (.lst xs) → (z → a ≠ sysModules) → DdA z H xs ds → Dd z H (.ref a) (.list ds)
  | tup {a : Addr} {xs : List V} {ds : List PyData} : H a = some (.tup xs) → DdA z H xs ds → Dd z H (.ref a) (.tuple ds)
  | dct {a : Addr} {kvs : List (Key × V)} {ds : List PyData} {ps : List (PyData × PyData)} : H a = some (.dK kvs) →
      DdA z H (kvs.map (·.2)) ds → ps.map (·.1) = kvs.map (fun p => keyD p.1) → ps.map (·.2) = ds → Dd z H (.ref a) (.dict ps)
inductive DdA (z : Prop) (H : Hp) : List V → List PyData → Prop
  | nil : DdA z H [] []
  | cons {v : V} {vs : List V} {d : PyData} {ds : List PyData} : Dd z H v d → DdA z H vs ds → DdA z H (v :: vs) (d :: ds)
end

section
variable {z : Prop} {H H' : Hp}
mutual
theorem Dd.same (e : Same H H') : ∀ (d : PyData) (v : V), Dd z H v d → Dd z H' v d
  | _, _, .non => .non
  | _, _, .bl b => .bl b
  | _, _, .int i => .int i
  | _, _, .str x => .str x
  | .list ds, _, .lst h n hs => .lst (e _ _ h) n (DdA.same e ds _ hs)
  | .tuple ds, _, .tup h hs => .tup (e _ _ h) (DdA.same e ds _ hs)
  | .dict ps, _, .dct (ds := ds) h hs h1 h2 => .dct (e _ _ h) (DdA.same e ds _ hs) h1 h2
termination_by structural _ _ h => h
theorem DdA.same (e : Same H H') : ∀ (ds : List PyData) (vs : List V), DdA z H vs ds → DdA z H' vs ds
  | _, _, .nil => .nil
  | d :: ds, _, .cons h hs => .cons (Dd.same e d _ h) (DdA.same e ds _ hs)
termination_by structural _ _ h => h
end
end

section
variable {X : Cx} {pins : List (Addr × Obj)} {σ : St} {H : Hp} {s : Shared} {z : Prop}
theorem reads_keys {P : Program} {w : World} (hp : Heap) {es : List DictEntry} {kvs : List (Key × Value)} (h : Pairs (mixKind P w) es kvs) :
    ReadsAll hp (es.map (·.key)) (kvs.map fun p => keyD p.1) [] := by
  induction h with
  | nil => exact .nil
  | @cons e kv es kvs h1 h2 h3 ih =>
    obtain ⟨k, v⟩ := kv
    have one : Reads hp e.key (keyD k) [] := by
      rcases keyIs_shape h1 with ⟨i, t, q, e1⟩ | ⟨x, t, q, e1⟩
      · rw [e1, show k = Sum.inl i from q]
        exact .int i t
      · rw [e1, show k = Sum.inr x from q]
        exact .str x t
    exact .cons (as := []) (bs := []) one ih
theorem pairs_vals {P : Program} {w : World} {es : List DictEntry} {kvs : List (Key × Value)} (h : Pairs (mixKind P w) es kvs) :
    es.map (·.val) = kvs.map (·.2) := by
  induction h with
  | nil => rfl
  | cons h1 h2 h3 ih => rw [List.map_cons, List.map_cons, h2, ih]
theorem kv_parts {kvs : List (Key × V)} {vs : List (Key × Value)} (r : KV kvs vs) :
    kvs.map (fun p => keyD p.1) = vs.map (fun p => keyD p.1) ∧ Vals (kvs.map (·.2)) (vs.map (·.2)) := by
  induction r with
  | nil => exact ⟨rfl, .nil⟩
  | cons h t ih =>
    obtain ⟨h1, h2⟩ := h
    refine ⟨?_, .cons h2 ih.2⟩
    rw [List.map_cons, List.map_cons, ih.1, h1]
mutual
theorem Dd.reads (I : Inv X pins σ H s) : ∀ (d : PyData) (v : V) (u : Value), Dd z H v d → RelV v u → ∃ as, Reads s.heap u d as ∧ (z → sysModules ∉ as)
  | _, _, u, .non, r => by
    cases r
    exact ⟨_, .none, fun _ => by simp⟩
  | _, _, u, .bl b, r => by
    cases r
    exact ⟨_, .bool b, fun _ => by simp⟩
  | _, _, u, .int i, r => by
    obtain ⟨t, rfl⟩ := r
    exact ⟨_, .int i t, fun _ => by simp⟩
  | _, _, u, .str x, r => by
    obtain ⟨t, rfl⟩ := r
    exact ⟨_, .str x t, fun _ => by simp⟩
  | .list ds, .ref a, u, .lst h n hs, r => by
    cases r
    obtain ⟨its, rv, ⟨o, n', ho, hc, _, hd⟩, _⟩ := I.list (SqL.of h)
    obtain ⟨as, hr, hz⟩ := DdA.reads I ds _ its hs rv
    refine ⟨_, Reads.list ho hc hd hr, fun q => ?_⟩
    intro hm
    rcases List.mem_cons.mp hm with e | e
    · exact n q e.symm
    · exact hz q e
  | .tuple ds, .ref a, u, .tup h hs, r => by
    cases r
    obtain ⟨its, rv, ⟨o, ho, hc, n, hd⟩, _⟩ := I.tuple (SqT.of h)
    obtain ⟨as, hr, hz⟩ := DdA.reads I ds _ its hs rv
    exact ⟨_, Reads.tuple ho hc hd hr, hz⟩
  | .dict ps, .ref a, u, .dct (kvs := kvs) (ds := ds) h hs h1 h2, r => by
    cases r
    obtain ⟨_, hsm, vs, rel, o, es, ep, ho, hx, hd, _, hp, _⟩ := (show ObjOk X.prog X.w H s.heap a (.dK kvs) from I.hok a _ h)
    obtain ⟨k1, k2⟩ := kv_parts rel
    obtain ⟨as, hr, hz⟩ := DdA.reads I ds _ _ hs k2
    refine ⟨_, Reads.dict (as := []) (bs := as) ho hx.1 hd ?_ ?_, fun q hm => ?_⟩
    · rw [h1, k1]
      exact reads_keys s.heap hp
    · rw [h2, pairs_vals hp]
      exact hr
    · rcases List.mem_cons.mp hm with e | e
      · rw [e, beq_self_eq_true] at hsm
        cases hsm
      · exact hz q e
termination_by structural _ _ _ h => h
theorem DdA.reads (I : Inv X pins σ H s) : ∀ (ds : List PyData) (vs : List V) (us : List Value), DdA z H vs ds → Vals vs us → ∃ as, ReadsAll s.heap us ds as ∧ (z → sysModules ∉ as)
  | _, _, us, .nil, r => by
    cases r
    exact ⟨_, .nil, fun _ => by simp⟩
  | d :: ds, _, us, .cons h hs, r => by
    cases r with
    | cons r1 r2 =>
      obtain ⟨as, q1, z1⟩ := Dd.reads I d _ _ h r1
      obtain ⟨bs, q2, z2⟩ := DdA.reads I ds _ _ hs r2
      refine ⟨_, .cons q1 q2, fun q hm => ?_⟩
      rcases List.mem_append.mp hm with e | e
      · exact z1 q e
      · exact z2 q e
termination_by structural _ _ _ h => h
end

/-- repr of data -/
def rReprZ : List V → Hp → VK → Prop := fun xs H Q => ∃ x d, xs = [x] ∧ Dd (d.hasDict = true) H x d ∧ d.showable = true ∧ d.depth ≤ 60 ∧
  d.shown.length ≤ sizeLine ∧ Q (.str d.shown) H
theorem call_reprZ (gd : X.A.guards = some []) (hu : X.A.units + 64 < cLine) : CallR X (.builtin "repr") rReprZ := by
  intro pins s σ H xs us Q I r h
  obtain ⟨x, d, rfl, hd, hs, hz, hl, q⟩ := h
  obtain ⟨u, rfl, r1⟩ := vals1 r
  obtain ⟨as, rd, na⟩ := Dd.reads I d x u hd r1
  cases rd with
  | none => exact PySem.P.repr_of_none ⟨.str _, H, I.tok _, ⟨_, rfl⟩, q⟩
  | bool b => exact PySem.P.repr_of_bool ⟨.str _, H, I.tok _, ⟨_, rfl⟩, q⟩
  | int i t =>
    have hi : i.natAbs.log2 < 1920 := by simpa [PyData.showable] using hs
    exact PySem.P.repr_of_int hi ⟨.str _, H, I.tok _, ⟨_, rfl⟩, q⟩
  | str y t => exact PySem.P.repr_of_str ⟨.str _, H, I.tok _, ⟨_, rfl⟩, q⟩ hl
  | list h1 h2 h3 h4 =>
    exact repr_of_reads' (.list h1 h2 h3 h4) hs na gd (by omega) (fun _ _ e => e) (fun h' v tk hk => ⟨.str _, H, I.kept hk, ⟨_, rfl⟩, q⟩) hl
  | tuple h1 h2 h3 h4 =>
    exact repr_of_reads' (.tuple h1 h2 h3 h4) hs na gd (by omega) (fun _ _ e => e) (fun h' v tk hk => ⟨.str _, H, I.kept hk, ⟨_, rfl⟩, q⟩) hl
  | dict h1 h2 h3 h4 h5 =>
    exact repr_of_reads' (.dict h1 h2 h3 h4 h5) hs na gd (by omega) (fun _ _ e => e) (fun h' v tk hk => ⟨.str _, H, I.kept hk, ⟨_, rfl⟩, q⟩) hl

/-- list + list: the new one does not lie where sys.modules does -/
def rCatX : R2 := fun x y H Q => ∃ l b xs zs, x = .ref l ∧ y = .ref b ∧ H l = some (.lst xs) ∧ H b = some (.lst zs) ∧
  xs.length + zs.length ≤ sizeLine ∧ ∀ p, p ≠ sysModules → H p = none → Q (.ref p) (upd H p (.lst (xs ++ zs)))
theorem op_catX : OpR X (binaryOp .Add) rCatX := by
  intro pins s σ H x y v u Q I rx ry h
  obtain ⟨l, b, xs, zs, rfl, rfl, hH, hB, hz, q⟩ := h
  cases rx
  cases ry
  obtain ⟨z, its, n, r, hl, e⟩ := I.lstM hH
  obtain ⟨z2, its2, n2, r2, hl2, e2⟩ := I.lstM hB
  refine PySem.P.add_list e e2 ?_ (by rw [List.size_toArray, List.size_toArray]; omega)
  rw [show its.toArray ++ its2.toArray = (its ++ its2).toArray by simp]
  refine ⟨.ref _, _, I.lnew (t' := s.toks) (r.append r2) ?_, rfl, q _ (Nat.ne_of_gt I.big) I.fresh⟩
  rw [List.length_append]
  omega
end

/-! ### defs that are called while an error is handled: the error is pinned -/
structure FnP (P : Program) (w : World) (K : PySem.W.Frag) (mg : Str → Option Value) (base : Heap) (CX : CXT)
    (k : Nat) (f : Addr) (fd : FuncData) (ps : List Str) (sp : Addr → Value → Option Addr → Sp) : Prop where
  len : ∀ a c d vs H Q E, sp a c d vs H Q E → vs.length = ps.length
  go : ∀ (A : Around) (outer : List Env) (s : Shared) (H : Hp) (args : Args) (us : List Value) (vs : List V) (Q : VK) (E : XK)
    (p : Addr × Obj) (c : Value) (d : Option Addr), A.guards = some [] → L2H.RoomH k A → L2H.PinOk outer H s p → Zc c d p.2 →
    (∃ fv, p.2.data = .fields fv) → Env0 P w K mg base A outer s H →
    BindsTo s fd args (ps.zip us) → Vals vs us → sp p.1 c d vs H Q E →
    codeAny (model P w) A (.call (.ref f) args) (CR CX outer P w H s Q E) s

theorem fnP_of {CX : CXT} {P : Program} {w : World} {K : PySem.W.Frag} {mg : Str → Option Value} {base : Heap} {k : Nat}
    {f : Addr} {name qual : Str} {params : Arguments} {body : List Stmt} {scope : Scope} {dV kV doc pm cdv ct oc : Value}
    {an od : Option Addr} {osl : Array (Option Value)} {N ps : List Str} {sp : Addr → Value → Option Addr → Sp}
    (lk : K.lookup f = some ⟨oc, od, .func (PySem.W.fnOf name qual params body scope dV kV doc pm an cdv ct), osl⟩)
    (hcd : PySem.W.codeIn K cdv qual = true) (S : FnScope N ps scope)
    (len : ∀ a c d vs H Q E, sp a c d vs H Q E → vs.length = ps.length)
    (hbody : ∀ (A : Around) (outer : List Env) (s : Shared) (H : Hp) (vs : List V) (Q : VK) (E : XK) (p : Addr × Obj) (c : Value)
      (d : Option Addr), A.guards = some [] → L2H.RoomH k (A.deeper (envOfC qual scope s.heap.objs.size f cdv)) → Zc c d p.2 →
      (∃ fv, p.2.data = .fields fv) → sp p.1 c d vs H Q E →
      ∃ t, PSs (L2H.cxH CX P w K mg base N qual scope f cdv A outer s H E p) body t ∧
        t { nx := fun _ H' => Q .non H', rt := Q } (start N vs) H) :
    FnP P w K mg base CX (k + 1) f (PySem.W.fnOf name qual params body scope dV kV doc pm an cdv ct) ps sp := by
  constructor
  · exact len
  intro A outer s H args us vs Q E p c d gd hr hpin hz hf e0 hb r hsp
  have hl := len _ _ _ _ _ _ _ hsp
  have KX : K.In s.heap := e0.mod.kin.keeps fun b o e => (e0.bs b o e).1
  have lim : s.heap.NoLimit := e0.mod.nolimit.keeps fun b o e => (e0.bs b o e).1
  have hk : ∀ y ∈ ps.zip us, scope.names.lookup y.1 = some .local ∨
      (scope.names.lookup y.1 = some .cell ∧
        ((cellsFrom (s.heap.objs.size + 1) scope.names []).lookup y.1).isSome = true) := by
    rintro ⟨n, v⟩ hy
    rcases S.par n (List.of_mem_zip hy).1 with q | q
    · exact .inl q
    · exact .inr ⟨q, PySem.W.cellsFrom_some _ _ _ (.inl q)⟩
  refine codeAny_call_function hr.depth (KX _ _ lk) rfl S.co S.gen rfl (PySem.W.codeRec_of KX hcd) ?_
  refine hb _ _ _ _ (wpAny_newFunctionEnv_cells S.kind hk ?_)
  intro env he s1 x
  subst he
  refine ⟨lim.keeps x.toInCall.keep, ?_⟩
  refine codeAny_func ?_
  obtain ⟨t, ht, hq⟩ := hbody A outer s H vs Q E p c d gd (hr.deeper _) hz hf hsp
  have I := L2H.inv_startH (CX := CX) (N := N) (E := E) S hpin e0 hl r x
  refine wpAny_mono (ht.run [] s1 (start N vs) H _ I hq) ?_ (fun e s' hs => hs)
  intro fl s' hs
  cases fl with
  | ret u =>
    obtain ⟨v, σ', H', J, rv, q⟩ := hs
    exact ⟨v, H', J.os, J.bare, J.base, J.hok, rv, q⟩
  | next =>
    obtain ⟨σ', H', J, q⟩ := hs
    exact ⟨V.non, H', J.os, J.bare, J.base, J.hok, rfl, q⟩
  | brk =>
    obtain ⟨_, _, _, q⟩ := hs
    exact q.elim
  | cont =>
    obtain ⟨_, _, _, q⟩ := hs
    exact q.elim

section
variable {P : Program} {w : World} {K : PySem.W.Frag} {mg : Str → Option Value} {base : Heap}
theorem okP {x qual : Str} {st : Stmt} {f : Addr} {fd : FuncData} {N ps : List Str} {k : Nat} {sp : Addr → Value → Option Addr → Sp}
    (F : Fun K x qual st f fd) (S : FnScope N ps (defScope st)) (len : ∀ a c d vs H Q E, sp a c d vs H Q E → vs.length = ps.length)
    (hbody : ∀ (cdv : Value) (A : Around) (outer : List Env) (s : Shared) (H : Hp) (vs : List V) (Q : VK) (E : XK) (p : Addr × Obj)
      (c : Value) (d : Option Addr), A.guards = some [] → L2H.RoomH k (A.deeper (envOfC qual (defScope st) s.heap.objs.size f cdv)) →
      Zc c d p.2 → (∃ fv, p.2.data = .fields fv) → sp p.1 c d vs H Q E →
      ∃ t, PSs (L2H.cxH CX0 P w K mg base N qual (defScope st) f cdv A outer s H E p).nox (defBody st) t ∧
        t { nx := fun _ H' => Q .non H', rt := Q } (start N vs) H) :
    FnP P w K mg base CX0 (k + 1) f fd ps sp := by
  obtain ⟨oc, od, kV, doc, pm, an, cdv, ct, osl, rfl, lk, hcd⟩ := F.ex
  refine fnP_of lk hcd S len ?_
  intro A outer s H vs Q E p c d g hr hz hf hsp
  obtain ⟨t, h, q⟩ := hbody cdv A outer s H vs Q E p c d g hr hz hf hsp
  exact ⟨t, h.nox, q⟩
end

section
variable {X : Cx} {k : Nat} {f : Addr} {fd : FuncData} {ps : List Str} {sp : Addr → Value → Option Addr → Sp} {x : Str} {p pos : Pos} {e : Expr}
  {es : List Expr} {t : TA} {a : Addr} {oe : Obj} {st : Stmt} {c : Value} {d : Option Addr}
theorem pe_dfP (D : Df X.K X.mg x st ps f fd) (F : FnP X.prog X.w X.K X.mg X.base CX0 k f fd ps sp) (gd : X.A.guards = some [])
    (hr : L2H.RoomH k X.A) (hp : (a, oe) ∈ X.pn) (hz : Zc c d oe) (hf : ∃ fv, oe.data = .fields fv) (hg : Gl X x) (ha : PA X (e :: es) t)
    (hdb : (x == ("__debug__" : Str)) = false := by decide)
    (he : starEach (e :: es) X.env = (false, eval e X.env) :: starEach es X.env := by rfl)
    (hpl : (backTo pos (starEach es X.env)).any (·.1) = false := by rfl) :
    PE X (.Call (.Name x p) (e :: es) [] pos) (tCall (sp a c d) [] E0 t) := by
  constructor
  intro pins s σ H Q I h
  refine wpAny_Call_Name_kw (ld_glob I hg D.g ?_ hdb)
  refine PySem.W.callWith_K (h₀ := X.base) I.ok.mod.kin D.F.kp (thn (ha.run pos pins s σ H _ I h) ?_) he hpl
  rintro us s1 ⟨vs, H1, I1, r, q⟩
  refine ⟨I1.kIn, ?_⟩
  rw [List.append_nil] at q
  have hl : us.length = ps.length := r.length.symm.trans (F.len _ _ _ _ _ _ _ q)
  have b := D.b s1 us I1.kIn (by rw [List.append_nil]; exact hl)
  rw [List.append_nil] at b
  have P1 := I1.pin (a, oe) (List.mem_append_left _ hp)
  have hpin : L2H.PinOk X.stack H1 s1 (a, oe) := by
    refine ⟨P1.1, P1.2.1, ?_, P1.2.2.2.2⟩
    intro hm
    exact (List.mem_cons.mp (I1.stkSub a hm)).elim P1.2.2.1 P1.2.2.2.1
  refine wpAny_call (codeAny_mono (F.go X.A X.stack s1 H1 ⟨us, []⟩ us vs Q E0 (a, oe) c d gd hr hpin hz hf I1.env0 b r q) ?_)
  intro r s' hq
  cases r with
  | error e => exact hq.elim
  | ok fl =>
    cases fl with
    | ret u => exact I1.after hq
    | next => exact hq.elim
    | brk => exact hq.elim
    | cont => exact hq.elim
end
end LP

set_option Elab.async false
set_option linter.all false
set_option maxRecDepth 100000
set_option maxHeartbeats 4000000
/-! LPQ: facts of the classes of own errors by one look at the written part; their __init__. -/
namespace LP
open PySem PySem.Spec L2
open PyProof.Rows hiding St

/-- what is wanted of each own class of errors -/
structure Xk (K : PySem.W.Frag) (C : Addr) : Prop where
  ec : ExcC K C
  kC : PySem.W.keepIn K (.ref C) = true
  tyC : PySem.W.typeIn K (.ref C) = some (.type "type")
def xkB (K : PySem.W.Frag) (C : Addr) : Bool :=
  decide (PySem.W.findIn K (.ref C) "__getattribute__" = some (some (.builtin "BaseException.__getattribute__"))) &&
  decide (PySem.W.findIn K (.ref C) "__getattr__" = some none) &&
  decide (PySem.W.subIn K (.ref C) (.type "BaseException") = some true) &&
  PySem.W.hasDictIn K C &&
  decide (PySem.W.findIn K (.ref C) "__class__" = some (some (.builtin "object.__class__"))) &&
  decide (PySem.W.specialIn K (.builtin "object.__class__") "__get__" = some (some (.builtin "getset_descriptor.__get__"))) &&
  decide (PySem.W.takesIn K (.builtin "object.__class__") = some true) &&
  decide (PySem.W.mroIn K C (.type "object") = some true) &&
  PySem.W.keepIn K (.ref C) && decide (PySem.W.typeIn K (.ref C) = some (.type "type"))
theorem xk_of {K : PySem.W.Frag} {C : Addr} (h : xkB K C = true) : Xk K C := by
  unfold xkB at h
  simp only [Bool.and_eq_true, decide_eq_true_eq] at h
  obtain ⟨⟨⟨⟨⟨⟨⟨⟨⟨h1, h2⟩, h3⟩, h4⟩, h5⟩, h6⟩, h7⟩, h8⟩, h9⟩, h10⟩ := h
  exact ⟨⟨h1, h2, h3, h4, h5, h6, h7, h8⟩, h9, h10⟩
theorem Xk.xf {K : PySem.W.Frag} {C : Addr} (h : Xk K C) : XfC K C := ⟨h.ec.hg, h.ec.hk, h.ec.hs, h.ec.hd⟩
theorem Xk.raises {X : Cx} {C : Addr} (h : Xk X.K C) : Raises X (.ref C) := raises_own h.ec.hs h.tyC

/-- a class with an own __init__ that keeps f; B: what makes it; bmS: the built-in bases -/
def ocB (K : PySem.W.Frag) (C : Addr) (B newId : String) (bmS : List Value) (f : Str) : Bool := (match K.lookup C with
  | some ⟨.type "type", _, .cls cd, sl⟩ => (match cd.mro, sl.toList with
    | .ref C' :: bm, [_, _, _, _, some (.builtin n), _] => C' == C && n == newId && !cd.hasDel && cd.hasDict && bm.contains (.type B) &&
        !bm.contains (.type "AttributeError") && !bm.contains (.type "NameError")
    | _, _ => false)
  | _ => false) && PySem.W.excOver K C bmS &&
  decide (PySem.W.findIn K (.ref C) "__setattr__" = some (some (.builtin "object.__setattr__"))) &&
  decide (PySem.W.findIn K (.ref C) f = some none)
theorem oc_of {K : PySem.W.Frag} {C : Addr} {B B' newId initId : String} {bmB bmS : List Value} {f : Str}
    (F : ExcBaseFacts B newId initId bmB) (SF : StoreFacts B' bmS "object.__setattr__" "object") (x : Xk K C)
    (q : ocB K C B newId bmS f = true) : Oc K C f := by
  unfold ocB at q
  simp only [Bool.and_eq_true, decide_eq_true_eq] at q
  obtain ⟨⟨⟨q, h2⟩, h3⟩, h4⟩ := q
  refine ⟨?_, ⟨_, _, SF, h2⟩, h3, x.ec.hs, x.tyC, x.kC, x.ec.hd, h4⟩
  split at q
  · rename_i dd cd sl ho
    split at q
    · rename_i C' bm k0 k1 k2 k3 n k5 hm hs
      simp only [Bool.and_eq_true, beq_iff_eq, Bool.not_eq_true'] at q
      obtain ⟨⟨⟨⟨⟨⟨rfl, rfl⟩, hdel⟩, hdt⟩, c1⟩, c2⟩, c3⟩ := q
      obtain ⟨nm, bs, mro, ns, qn, hd, sn, sub, ab, col, del⟩ := cd
      dsimp only at hm hdel hdt
      subst hm hdel hdt
      have hsl : sl = #[k0, k1, k2, k3, some (.builtin n), k5] := by
        obtain ⟨l⟩ := sl
        simp only at hs
        rw [hs]
      subst hsl
      exact ⟨B, n, initId, bmB, bm, nm, qn, ns, bs, sn, sub, ab, col, dd, k0, k1, k2, k3, k5, F, ⟨c1, c2, c3⟩, ho⟩
    · cases q
  · cases q

/-- an own class whose __init__ keeps f: all that making it asks -/
structure Ok1 (K : PySem.W.Frag) (mg : Str → Option Value) (x : Str) (C : Addr) (f : Str) (st : Stmt) (ps : List Str) (fI : Addr) (fd : FuncData) : Prop where
  g : mg x = some (.ref C)
  k : Xk K C
  o : Oc K C f
  i : PySem.W.findIn K (.ref C) "__init__" = some (some (.ref fI))
  t : PySem.W.typeIn K (.ref fI) = some (.type "function")
  F : Fun K "__init__" (x ++ ".__init__") st fI fd
  b : Binds K fd ps []
/-- the j-th statement of a class's body -/
def mth (s : Stmt) (j : Nat) : Stmt := match s with
  | .ClassDef _ _ _ body _ _ _ _ _ _ _ => body.getD j (.Pass ⟨0, 0, 0, 0⟩)
  | _ => .Pass ⟨0, 0, 0, 0⟩

section
variable {P : Program} {w : World} {K : PySem.W.Frag} {mg : Str → Option Value} {base : Heap}
/-- def __init__(self, v): self.f = v -/
theorem ok_ini {x : Str} {C fI : Addr} {fd : FuncData} {f v : Str} {st : Stmt} {p1 p2 p3 p4 : Pos} {qn : Str}
    (F : Fun K "__init__" qn st fI fd) (T : Oc K C f) (S : FnScope ["self", v] ["self", v] (defScope st))
    (hb : defBody st = [.Assign [.Attribute (.Name "self" p1) f p2] (.Name v p3) p4])
    (h0 : Vis (defScope st) "self") (h1 : Vis (defScope st) v) (d1 : (v == ("__debug__" : Str)) = false) (d2 : (v == ("__classdict__" : Str)) = false) :
    FnOk P w K mg base CX0 1 fI fd ["self", v] (spIni K C f) := by
  refine F.ok S ?_ ?_
  · rintro vs H Q E ⟨a, y, rfl, _⟩
    rfl
  rintro cdv A outer s H vs Q E hr ⟨a, y, rfl, _, ha, q⟩
  rw [hb]
  refine ⟨_, pss_one (ps_os1 (pe_var (i := 0) rfl h0 (by decide) (by decide)) (pe_var (i := 1) rfl h1 d1 d2)), ?_⟩
  refine ⟨y, rfl, .ref a, rfl, a, C, rfl, T, ha, ?_⟩
  intro dx n ne
  exact q dx n ne
end
section
variable {X : Cx} {k : Nat} {C fI : Addr} {fd : FuncData} {ps : List Str} {x f : Str} {st : Stmt} {e : Expr} {ta : TA} {p pos : Pos}
theorem pe_new1 (D : Ok1 X.K X.mg x C f st ps fI fd) (G : FnOk X.prog X.w X.K X.mg X.base CX0 k fI fd ps (spIni X.K C f)) (hr : Room (k + 1) X.A)
    (hg : Gl X x) (ha : PA X [e] ta) (hdb : (x == ("__debug__" : Str)) = false := by decide)
    (he : starEach [e] X.env = (false, eval e X.env) :: starEach [] X.env := by rfl)
    (hpl : (backTo pos (starEach [] X.env)).any (·.1) = false := by rfl) :
    PE X (.Call (.Name x p) [e] [] pos) (tMkV C f ta) := pe_mkv D.o D.i D.t G hr D.b hg D.g ha hdb he hpl
theorem pmk_new1 (D : Ok1 X.K X.mg x C f st ps fI fd) (G : FnOk X.prog X.w X.K X.mg X.base CX0 k fI fd ps (spIni X.K C f)) (hr : Room (k + 1) X.A)
    (hg : Gl X x) (ha : PA X [e] ta) (hdb : (x == ("__debug__" : Str)) = false := by decide)
    (he : starEach [e] X.env = (false, eval e X.env) :: starEach [] X.env := by rfl)
    (hpl : (backTo pos (starEach [] X.env)).any (·.1) = false := by rfl) :
    PMk X (.Call (.Name x p) [e] [] pos) (tMkR C f ta) := pmk_mkr D.o D.i D.t G hr D.b hg D.g ha hdb he hpl
end

/-- an own class over ValueError without own __init__ -/
structure Ok0 (K : PySem.W.Frag) (mg : Str → Option Value) (x : Str) (C : Addr) : Prop where
  g : mg x = some (.ref C)
  k : Xk K C
  e : PySem.W.excIn K C [.type "ValueError", .type "Exception", .type "BaseException", .type "object"] "ValueError.__new__" = true
section
variable {X : Cx} {C : Addr} {x m : Str} {e : Expr} {ta : TE} {p p2 pos : Pos} {j : Nat}
def tMk0 (C : Addr) (ta : TE) : TE := fun σ H Q => ta σ H fun _ H1 => ∀ a, H1 a = none → Q (.ref a) (upd H1 a (exo a C none))
theorem pe_new0 (D : Ok0 X.K X.mg x C) (hg : Gl X x) (he : PE X e ta)
    (hs : starEach [e] X.env = (false, eval e X.env) :: starEach [] X.env := by rfl)
    (hdb : (x == ("__debug__" : Str)) = false := by decide) :
    PE X (.Call (.Name x p) [e] [] pos) (tMk0 C ta) := pe_mk0 PySem.F.excBase_ValueError D.e D.g D.k.kC hg he hs hdb
theorem pmk_new0 (D : Ok0 X.K X.mg x C) (hg : Gl X x) (hdb : (x == ("__debug__" : Str)) = false := by decide) :
    PMk X (.Call (.Name x p) [.Constant (.str m) j p2] [] pos) (fun _ H Q => Q (.ref C) none H) :=
  pmk_own PySem.F.excBase_ValueError D.e D.g D.k.kC D.k.raises hg hdb
end

/-! ### isinstance of errors, by a table -/
def isOf (K : PySem.W.Frag) (C : Addr) : V → Option Bool
  | .ty n => PySem.W.kitOne K (.ref C) (.type n)
  | .ref D => PySem.W.kitOne K (.ref C) (.ref D)
  | _ => none
def rIsA (K : PySem.W.Frag) (pn : List (Addr × Obj)) (a C : Addr) : List V → Hp → VK → Prop := fun xs H Q =>
  ∃ c b, xs = [.ref a, c] ∧ ExcC K C ∧ XAt pn H a C ∧ isOf K C c = some b ∧ Q (.bl b) H
theorem call_isA {X : Cx} {K : PySem.W.Frag} {pn : List (Addr × Obj)} {a C : Addr} (eK : X.K = K) (ep : X.pn = pn) : CallR X (.builtin "isinstance") (rIsA K pn a C) := by
  subst eK
  subst ep
  refine call_imp call_isX ?_
  rintro xs H Q ⟨c, b, rfl, T, hx, e, q⟩
  cases c with
  | ty n => exact ⟨a, C, .ty n, .type n, b, rfl, .ty n, T, hx, e, q⟩
  | ref D => exact ⟨a, C, .ref D, .ref D, b, rfl, .own D, T, hx, e, q⟩
  | _ => cases e

theorem lookup1 {n : Str} {v : V} : List.lookup n [(n, v)] = some v := by simp [List.lookup]
/-! ### 'x' * int(b) -/
def bi (b : Bool) : Int := if b then 1 else 0
theorem bi_inj {a b : Bool} : bi a = bi b ↔ a = b := by
  cases a <;> cases b <;> decide
def ob (b : Bool) (z : Str) : Str := if b then z else ""
theorem len_ob (b : Bool) (z : Str) : (ob b z).length ≤ z.length := by
  unfold ob
  cases b
  · exact Nat.zero_le _
  · exact Nat.le_refl _
theorem len_ob1 (b : Bool) (z : Str) (n : Nat) (h : z.length ≤ n) : (ob b z).length ≤ n := Nat.le_trans (len_ob b z) h
section
variable {X : Cx}
def rIntX : List V → Hp → VK → Prop := fun xs H Q => ∃ k, xs = [.bl k] ∧ Q (.int (bi k)) H
theorem call_intX : CallR X (.type "int") rIntX := call_imp call_intB fun xs H Q ⟨k, h, q⟩ => ⟨k, h, q⟩
theorem rep_bi (b : Bool) (z : Str) : repS z (bi b) = ob b z := by
  cases b
  · simp [repS, Txt.mul, bi, ob]
    rfl
  · simp [repS, Txt.mul, bi, ob]
def rBit : R2 := fun x y H Q => ∃ z b, x = .str z ∧ y = .int (bi b) ∧ z.length ≤ 100 ∧ Q (.str (ob b z)) H
theorem op_bit : OpR X (binaryOp .Mult) rBit := by
  refine op_imp op_repS ?_
  rintro x y H Q ⟨z, b, rfl, rfl, hl, q⟩
  refine ⟨z, bi b, rfl, rfl, ⟨?_, ?_, ?_⟩, ?_⟩
  · cases b <;> decide
  · cases b <;> decide
  · rw [sizeLine_eq]
    cases b
    · show z.length * 0 ≤ _
      omega
    · show z.length * 1 ≤ _
      omega
  · rw [rep_bi]
    exact q
end
end LP

set_option Elab.async false
set_option linter.all false
set_option maxRecDepth 100000
set_option maxHeartbeats 4000000
set_option exponentiation.threshold 5000
namespace K02
open PySem PySem.Spec L2 LP
open PyProof.Rows hiding St
def top (i : Nat) : Stmt := PySem.Challenge.pw_lastprices_k02_errors_kept_and_caught.main.body.getD i (.Pass ⟨0, 0, 0, 0⟩)
abbrev s_dice : Stmt := top 19
abbrev N_dice : List Str := ["_law_script", "_law_spot", "_law_cell", "_law_great", "_law_left"]
abbrev P_dice : List Str := ["_law_script", "_law_spot"]
theorem sc_dice : FnScope N_dice P_dice (defScope s_dice) :=
  ⟨rfl, rfl, rfl, by decide +kernel, rfl, by decide +kernel, by decide +kernel⟩
abbrev s_roll : Stmt := top 20
abbrev N_roll : List Str := ["_law_dice_here", "_law_total", "_law_found", "_law_one", "_law_two"]
abbrev P_roll : List Str := ["_law_dice_here", "_law_total"]
theorem sc_roll : FnScope N_roll P_roll (defScope s_roll) :=
  ⟨rfl, rfl, rfl, by decide +kernel, rfl, by decide +kernel, by decide +kernel⟩
abbrev s_pick : Stmt := top 21
abbrev N_pick : List Str := ["_law_dice_here", "_law_items"]
abbrev P_pick : List Str := ["_law_dice_here", "_law_items"]
theorem sc_pick : FnScope N_pick P_pick (defScope s_pick) :=
  ⟨rfl, rfl, rfl, by decide +kernel, rfl, by decide +kernel, by decide +kernel⟩
abbrev s_own : Stmt := top 22
abbrev N_own : List Str := ["_law_error", "_law_found"]
abbrev P_own : List Str := ["_law_error"]
theorem sc_own : FnScope N_own P_own (defScope s_own) :=
  ⟨rfl, rfl, rfl, by decide +kernel, rfl, by decide +kernel, by decide +kernel⟩
abbrev s_whole : Stmt := top 23
abbrev N_whole : List Str := ["_law_error", "_law_found"]
abbrev P_whole : List Str := ["_law_error"]
theorem sc_whole : FnScope N_whole P_whole (defScope s_whole) :=
  ⟨rfl, rfl, rfl, by decide +kernel, rfl, by decide +kernel, by decide +kernel⟩
abbrev s_messages : Stmt := top 24
abbrev N_messages : List Str := ["_law_text", "_law_found"]
abbrev P_messages : List Str := ["_law_text"]
theorem sc_messages : FnScope N_messages P_messages (defScope s_messages) :=
  ⟨rfl, rfl, rfl, by decide +kernel, rfl, by decide +kernel, by decide +kernel⟩
abbrev s_kept : Stmt := top 25
abbrev N_kept : List Str := ["_law_value", "_law_index", "_law_parse", "_law_unknown", "_law_untaken", "_law_number", "_law_undo", "_law_limit", "_law_unstable", "_law_refused", "_law_found"]
abbrev P_kept : List Str := ["_law_value", "_law_index"]
theorem sc_kept : FnScope N_kept P_kept (defScope s_kept) :=
  ⟨rfl, rfl, rfl, by decide +kernel, rfl, by decide +kernel, by decide +kernel⟩
abbrev s_caught : Stmt := top 26
abbrev N_caught : List Str := ["_law_way", "_law_value", "e"]
abbrev P_caught : List Str := ["_law_way", "_law_value"]
theorem sc_caught : FnScope N_caught P_caught (defScope s_caught) :=
  ⟨rfl, rfl, rfl, by decide +kernel, rfl, by decide +kernel, by decide +kernel⟩
abbrev s_right : Stmt := top 27
abbrev N_right : List Str := ["_law_dice_here", "_law_odd", "_law_value", "_law_index", "_law_due", "_law_letter", "_law_told", "_law_way"]
abbrev P_right : List Str := ["_law_dice_here"]
theorem sc_right : FnScope N_right P_right (defScope s_right) :=
  ⟨rfl, rfl, rfl, by decide +kernel, rfl, by decide +kernel, by decide +kernel⟩
abbrev s_law : Stmt := top 28
abbrev N_law : List Str := ["_law_script", "_law_spot", "_law_dice_here", "_law_turn"]
abbrev P_law : List Str := ["_law_script"]
theorem sc_law : FnScope N_law P_law (defScope s_law) :=
  ⟨rfl, rfl, rfl, by decide +kernel, rfl, by decide +kernel, by decide +kernel⟩
structure Bt (mg : Str → Option Value) : Prop where
  ArithmeticError : mg "ArithmeticError" = none
  IndexError : mg "IndexError" = none
  KeyError : mg "KeyError" = none
  LookupError : mg "LookupError" = none
  OverflowError : mg "OverflowError" = none
  RuntimeError : mg "RuntimeError" = none
  ValueError : mg "ValueError" = none
  abs : mg "abs" = none
  int : mg "int" = none
  isinstance : mg "isinstance" = none
  len : mg "len" = none
  max : mg "max" = none
  min : mg "min" = none
  range : mg "range" = none
  repr : mg "repr" = none
abbrev s_ParseError : Stmt := mth (top 10) 0
abbrev P_ParseError : List Str := ["self", "number"]
theorem sc_ParseError : FnScope P_ParseError P_ParseError (defScope s_ParseError) :=
  ⟨rfl, rfl, rfl, by decide +kernel, rfl, by decide +kernel, by decide +kernel⟩
abbrev s_UnknownName : Stmt := mth (top 11) 0
abbrev P_UnknownName : List Str := ["self", "word"]
theorem sc_UnknownName : FnScope P_UnknownName P_UnknownName (defScope s_UnknownName) :=
  ⟨rfl, rfl, rfl, by decide +kernel, rfl, by decide +kernel, by decide +kernel⟩
abbrev s_NotTaken : Stmt := mth (top 12) 0
abbrev P_NotTaken : List Str := ["self", "untaken"]
theorem sc_NotTaken : FnScope P_NotTaken P_NotTaken (defScope s_NotTaken) :=
  ⟨rfl, rfl, rfl, by decide +kernel, rfl, by decide +kernel, by decide +kernel⟩
abbrev s_InvalidNumber : Stmt := mth (top 13) 0
abbrev P_InvalidNumber : List Str := ["self", "value"]
theorem sc_InvalidNumber : FnScope P_InvalidNumber P_InvalidNumber (defScope s_InvalidNumber) :=
  ⟨rfl, rfl, rfl, by decide +kernel, rfl, by decide +kernel, by decide +kernel⟩
abbrev s_NothingToUndo : Stmt := mth (top 14) 0
abbrev P_NothingToUndo : List Str := ["self", "many"]
theorem sc_NothingToUndo : FnScope P_NothingToUndo P_NothingToUndo (defScope s_NothingToUndo) :=
  ⟨rfl, rfl, rfl, by decide +kernel, rfl, by decide +kernel, by decide +kernel⟩
abbrev s_TooMany : Stmt := mth (top 15) 0
abbrev P_TooMany : List Str := ["self", "limit"]
theorem sc_TooMany : FnScope P_TooMany P_TooMany (defScope s_TooMany) :=
  ⟨rfl, rfl, rfl, by decide +kernel, rfl, by decide +kernel, by decide +kernel⟩
abbrev s_Unstable : Stmt := mth (top 16) 0
abbrev P_Unstable : List Str := ["self", "part"]
theorem sc_Unstable : FnScope P_Unstable P_Unstable (defScope s_Unstable) :=
  ⟨rfl, rfl, rfl, by decide +kernel, rfl, by decide +kernel, by decide +kernel⟩
abbrev s_Refused : Stmt := mth (top 17) 0
abbrev P_Refused : List Str := ["self", "pledge"]
theorem sc_Refused : FnScope P_Refused P_Refused (defScope s_Refused) :=
  ⟨rfl, rfl, rfl, by decide +kernel, rfl, by decide +kernel, by decide +kernel⟩
structure Ad where
  (a_dice : Addr)
  (d_dice : FuncData)
  (a_roll : Addr)
  (d_roll : FuncData)
  (a_pick : Addr)
  (d_pick : FuncData)
  (a_own : Addr)
  (d_own : FuncData)
  (a_whole : Addr)
  (d_whole : FuncData)
  (a_messages : Addr)
  (d_messages : FuncData)
  (a_kept : Addr)
  (d_kept : FuncData)
  (a_caught : Addr)
  (d_caught : FuncData)
  (a_right : Addr)
  (d_right : FuncData)
  (a_law : Addr)
  (d_law : FuncData)
  (c_InvalidMachine : Addr)
  (c_InvalidText : Addr)
  (c_InvalidPattern : Addr)
  (c_InvalidSquare : Addr)
  (c_InvalidCosts : Addr)
  (c_InvalidRow : Addr)
  (c_InvalidPaper : Addr)
  (c_InvalidOperation : Addr)
  (c_ParseError : Addr)
  (i_ParseError : Addr)
  (e_ParseError : FuncData)
  (c_UnknownName : Addr)
  (i_UnknownName : Addr)
  (e_UnknownName : FuncData)
  (c_NotTaken : Addr)
  (i_NotTaken : Addr)
  (e_NotTaken : FuncData)
  (c_InvalidNumber : Addr)
  (i_InvalidNumber : Addr)
  (e_InvalidNumber : FuncData)
  (c_NothingToUndo : Addr)
  (i_NothingToUndo : Addr)
  (e_NothingToUndo : FuncData)
  (c_TooMany : Addr)
  (i_TooMany : Addr)
  (e_TooMany : FuncData)
  (c_Unstable : Addr)
  (i_Unstable : Addr)
  (e_Unstable : FuncData)
  (c_Refused : Addr)
  (i_Refused : Addr)
  (e_Refused : FuncData)
  (c_PriceError : Addr)
structure Ds (K : PySem.W.Frag) (mg : Str → Option Value) (Z : Ad) : Prop where
  dice : Df K mg "_law_dice" s_dice P_dice Z.a_dice Z.d_dice
  roll : Df K mg "_law_roll" s_roll P_roll Z.a_roll Z.d_roll
  pick : Df K mg "_law_pick" s_pick P_pick Z.a_pick Z.d_pick
  own : Df K mg "_law_own" s_own P_own Z.a_own Z.d_own
  whole : Df K mg "_law_whole" s_whole P_whole Z.a_whole Z.d_whole
  messages : Df K mg "_law_messages" s_messages P_messages Z.a_messages Z.d_messages
  kept : Df K mg "_law_kept" s_kept P_kept Z.a_kept Z.d_kept
  caught : Df K mg "_law_caught" s_caught P_caught Z.a_caught Z.d_caught
  right : Df K mg "_law_right" s_right P_right Z.a_right Z.d_right
  law : Df K mg "law" s_law P_law Z.a_law Z.d_law
  InvalidMachine : Ok0 K mg "InvalidMachine" Z.c_InvalidMachine
  InvalidText : Ok0 K mg "InvalidText" Z.c_InvalidText
  InvalidPattern : Ok0 K mg "InvalidPattern" Z.c_InvalidPattern
  InvalidSquare : Ok0 K mg "InvalidSquare" Z.c_InvalidSquare
  InvalidCosts : Ok0 K mg "InvalidCosts" Z.c_InvalidCosts
  InvalidRow : Ok0 K mg "InvalidRow" Z.c_InvalidRow
  InvalidPaper : Ok0 K mg "InvalidPaper" Z.c_InvalidPaper
  InvalidOperation : Ok0 K mg "InvalidOperation" Z.c_InvalidOperation
  ParseError : Ok1 K mg "ParseError" Z.c_ParseError "number" s_ParseError P_ParseError Z.i_ParseError Z.e_ParseError
  UnknownName : Ok1 K mg "UnknownName" Z.c_UnknownName "word" s_UnknownName P_UnknownName Z.i_UnknownName Z.e_UnknownName
  NotTaken : Ok1 K mg "NotTaken" Z.c_NotTaken "untaken" s_NotTaken P_NotTaken Z.i_NotTaken Z.e_NotTaken
  InvalidNumber : Ok1 K mg "InvalidNumber" Z.c_InvalidNumber "value" s_InvalidNumber P_InvalidNumber Z.i_InvalidNumber Z.e_InvalidNumber
  NothingToUndo : Ok1 K mg "NothingToUndo" Z.c_NothingToUndo "many" s_NothingToUndo P_NothingToUndo Z.i_NothingToUndo Z.e_NothingToUndo
  TooMany : Ok1 K mg "TooMany" Z.c_TooMany "limit" s_TooMany P_TooMany Z.i_TooMany Z.e_TooMany
  Unstable : Ok1 K mg "Unstable" Z.c_Unstable "part" s_Unstable P_Unstable Z.i_Unstable Z.e_Unstable
  Refused : Ok1 K mg "Refused" Z.c_Refused "pledge" s_Refused P_Refused Z.i_Refused Z.e_Refused
  PriceError : Ok0 K mg "PriceError" Z.c_PriceError
def cls24 (Z : Ad) : List V := [.ref Z.c_InvalidMachine, .ref Z.c_InvalidText, .ref Z.c_InvalidPattern, .ref Z.c_InvalidSquare, .ref Z.c_InvalidCosts, .ref Z.c_InvalidRow, .ref Z.c_InvalidPaper, .ref Z.c_InvalidOperation, .ref Z.c_ParseError, .ref Z.c_UnknownName, .ref Z.c_NotTaken, .ref Z.c_InvalidNumber, .ref Z.c_NothingToUndo, .ref Z.c_TooMany, .ref Z.c_Unstable, .ref Z.c_Refused, .ref Z.c_PriceError, .ty "ValueError", .ty "KeyError", .ty "IndexError", .ty "LookupError", .ty "RuntimeError", .ty "OverflowError", .ty "ArithmeticError"]
structure Tb (K : PySem.W.Frag) (Z : Ad) : Prop where
  InvalidMachine : (cls24 Z).map (isOf K Z.c_InvalidMachine) = [true, false, false, false, false, false, false, false, false, false, false, false, false, false, false, false, true, true, false, false, false, false, false, false].map some
  InvalidText : (cls24 Z).map (isOf K Z.c_InvalidText) = [false, true, false, false, false, false, false, false, false, false, false, false, false, false, false, false, true, true, false, false, false, false, false, false].map some
  InvalidPattern : (cls24 Z).map (isOf K Z.c_InvalidPattern) = [false, false, true, false, false, false, false, false, false, false, false, false, false, false, false, false, true, true, false, false, false, false, false, false].map some
  InvalidSquare : (cls24 Z).map (isOf K Z.c_InvalidSquare) = [false, false, false, true, false, false, false, false, false, false, false, false, false, false, false, false, true, true, false, false, false, false, false, false].map some
  InvalidCosts : (cls24 Z).map (isOf K Z.c_InvalidCosts) = [false, false, false, false, true, false, false, false, false, false, false, false, false, false, false, false, true, true, false, false, false, false, false, false].map some
  InvalidRow : (cls24 Z).map (isOf K Z.c_InvalidRow) = [false, false, false, false, false, true, false, false, false, false, false, false, false, false, false, false, true, true, false, false, false, false, false, false].map some
  InvalidPaper : (cls24 Z).map (isOf K Z.c_InvalidPaper) = [false, false, false, false, false, false, true, false, false, false, false, false, false, false, false, false, true, true, false, false, false, false, false, false].map some
  InvalidOperation : (cls24 Z).map (isOf K Z.c_InvalidOperation) = [false, false, false, false, false, false, false, true, false, false, false, false, false, false, false, false, true, true, false, false, false, false, false, false].map some
  ParseError : (cls24 Z).map (isOf K Z.c_ParseError) = [false, false, false, false, false, false, false, false, true, false, false, false, false, false, false, false, true, true, false, false, false, false, false, false].map some
  UnknownName : (cls24 Z).map (isOf K Z.c_UnknownName) = [false, false, false, false, false, false, false, false, false, true, false, false, false, false, false, false, false, false, true, false, true, false, false, false].map some
  NotTaken : (cls24 Z).map (isOf K Z.c_NotTaken) = [false, false, false, false, false, false, false, false, false, false, true, false, false, false, false, false, false, false, false, false, true, false, false, false].map some
  InvalidNumber : (cls24 Z).map (isOf K Z.c_InvalidNumber) = [false, false, false, false, false, false, false, false, false, false, false, true, false, false, false, false, false, false, false, true, true, false, false, false].map some
  NothingToUndo : (cls24 Z).map (isOf K Z.c_NothingToUndo) = [false, false, false, false, false, false, false, false, false, false, false, false, true, false, false, false, false, false, false, false, false, true, false, false].map some
  TooMany : (cls24 Z).map (isOf K Z.c_TooMany) = [false, false, false, false, false, false, false, false, false, false, false, false, false, true, false, false, false, false, false, false, false, false, true, true].map some
  Unstable : (cls24 Z).map (isOf K Z.c_Unstable) = [false, false, false, false, false, false, false, false, false, false, false, false, false, false, true, false, false, false, false, false, false, false, false, true].map some
  Refused : (cls24 Z).map (isOf K Z.c_Refused) = [false, false, false, false, false, false, false, false, false, false, false, false, false, false, false, true, false, false, false, false, false, false, false, true].map some
  PriceError : (cls24 Z).map (isOf K Z.c_PriceError) = [false, false, false, false, false, false, false, false, false, false, false, false, false, false, false, false, true, true, false, false, false, false, false, false].map some
  x_InvalidCosts : [Z.c_ParseError, Z.c_PriceError].map (fun D => PySem.W.exmOne K (.ref Z.c_InvalidCosts) (.ref D)) = [some false, some true]
  x_Unstable : [Z.c_ParseError, Z.c_PriceError, Z.c_Refused, Z.c_Unstable].map (fun D => PySem.W.exmOne K (.ref Z.c_Unstable) (.ref D)) = [some false, some false, some false, some true]
  x_NotTaken : [Z.c_ParseError, Z.c_PriceError, Z.c_Refused, Z.c_Unstable, Z.c_NotTaken].map (fun D => PySem.W.exmOne K (.ref Z.c_NotTaken) (.ref D)) = [some false, some false, some false, some false, some true]
  x_ParseError : [Z.c_ParseError].map (fun D => PySem.W.exmOne K (.ref Z.c_ParseError) (.ref D)) = [some true]
theorem G_ParseError {P : Program} {w : World} {K : PySem.W.Frag} {mg : Str → Option Value} {base : Heap} {Z : Ad} (D : Ds K mg Z) : FnOk P w K mg base CX0 1 Z.i_ParseError Z.e_ParseError P_ParseError (spIni K Z.c_ParseError "number") :=
  ok_ini (x := "ParseError") D.ParseError.F D.ParseError.o sc_ParseError rfl (.inl rfl) (.inl rfl) (by decide) (by decide)
theorem G_UnknownName {P : Program} {w : World} {K : PySem.W.Frag} {mg : Str → Option Value} {base : Heap} {Z : Ad} (D : Ds K mg Z) : FnOk P w K mg base CX0 1 Z.i_UnknownName Z.e_UnknownName P_UnknownName (spIni K Z.c_UnknownName "word") :=
  ok_ini (x := "UnknownName") D.UnknownName.F D.UnknownName.o sc_UnknownName rfl (.inl rfl) (.inl rfl) (by decide) (by decide)
theorem G_NotTaken {P : Program} {w : World} {K : PySem.W.Frag} {mg : Str → Option Value} {base : Heap} {Z : Ad} (D : Ds K mg Z) : FnOk P w K mg base CX0 1 Z.i_NotTaken Z.e_NotTaken P_NotTaken (spIni K Z.c_NotTaken "untaken") :=
  ok_ini (x := "NotTaken") D.NotTaken.F D.NotTaken.o sc_NotTaken rfl (.inl rfl) (.inl rfl) (by decide) (by decide)
theorem G_InvalidNumber {P : Program} {w : World} {K : PySem.W.Frag} {mg : Str → Option Value} {base : Heap} {Z : Ad} (D : Ds K mg Z) : FnOk P w K mg base CX0 1 Z.i_InvalidNumber Z.e_InvalidNumber P_InvalidNumber (spIni K Z.c_InvalidNumber "value") :=
  ok_ini (x := "InvalidNumber") D.InvalidNumber.F D.InvalidNumber.o sc_InvalidNumber rfl (.inl rfl) (.inl rfl) (by decide) (by decide)
theorem G_NothingToUndo {P : Program} {w : World} {K : PySem.W.Frag} {mg : Str → Option Value} {base : Heap} {Z : Ad} (D : Ds K mg Z) : FnOk P w K mg base CX0 1 Z.i_NothingToUndo Z.e_NothingToUndo P_NothingToUndo (spIni K Z.c_NothingToUndo "many") :=
  ok_ini (x := "NothingToUndo") D.NothingToUndo.F D.NothingToUndo.o sc_NothingToUndo rfl (.inl rfl) (.inl rfl) (by decide) (by decide)
theorem G_TooMany {P : Program} {w : World} {K : PySem.W.Frag} {mg : Str → Option Value} {base : Heap} {Z : Ad} (D : Ds K mg Z) : FnOk P w K mg base CX0 1 Z.i_TooMany Z.e_TooMany P_TooMany (spIni K Z.c_TooMany "limit") :=
  ok_ini (x := "TooMany") D.TooMany.F D.TooMany.o sc_TooMany rfl (.inl rfl) (.inl rfl) (by decide) (by decide)
theorem G_Unstable {P : Program} {w : World} {K : PySem.W.Frag} {mg : Str → Option Value} {base : Heap} {Z : Ad} (D : Ds K mg Z) : FnOk P w K mg base CX0 1 Z.i_Unstable Z.e_Unstable P_Unstable (spIni K Z.c_Unstable "part") :=
  ok_ini (x := "Unstable") D.Unstable.F D.Unstable.o sc_Unstable rfl (.inl rfl) (.inl rfl) (by decide) (by decide)
theorem G_Refused {P : Program} {w : World} {K : PySem.W.Frag} {mg : Str → Option Value} {base : Heap} {Z : Ad} (D : Ds K mg Z) : FnOk P w K mg base CX0 1 Z.i_Refused Z.e_Refused P_Refused (spIni K Z.c_Refused "pledge") :=
  ok_ini (x := "Refused") D.Refused.F D.Refused.o sc_Refused rfl (.inl rfl) (.inl rfl) (by decide) (by decide)
local macro_rules | `(tactic| walk_at "rd") => `(tactic| try simp only [cx_K, cx_w, tRet, tSeq_eq, tAsg, tDrop, tIfS_eq, tNext, gName, gSub, tAndV, tOrV, tNotV, tB, tTest, tAnd, tOr, tNot, tIf, tCB, tCons, tNil, tVar, tC, tOp, tUn, tChain, rI0, rI, rU, tLst, tTup, tCall, tPar,   tFor_eq, tLc_eq, iRng1, iRng2, iList, iTup, iStr, iZip, tRevL, tDisp, tPairs, tYes, wipe, id, rNe, rEq, scal_str, rIxS, tSM, tLM, rIxM, rLenM, rCat, rInt, rIntB, rSetL, rAppend, rExtend, rAllM, rRepS, rRng2, rInRng, atI0, atI1, atI2, ixN30, ixN32, upd_same, upd_upd,   L2.start, List.map_cons, List.map_nil, List.length_cons, List.length_nil, List.reduceReplicate, List.replicate_succ, List.replicate_zero, Nat.reduceAdd, Nat.reduceSub, List.nil_append, List.cons_append, List.append_nil,   List.getElem?_cons_zero, List.getElem?_cons_succ, List.set_cons_zero, List.set_cons_succ, Int.zero_add,   Option.some.injEq, HO.lst.injEq, HO.tup.injEq, HO.rng.injEq, V.int.injEq, V.bl.injEq, V.str.injEq, V.ref.injEq, reduceCtorEq, exists_eq_left, exists_eq_left', exists_eq_right, exists_eq', exists_eq, exists_and_left, true_and, and_true, false_and, and_assoc, exists_false, List.cons.injEq, ↓reduceIte, if_true, if_false, Bool.false_eq_true, rIsA, rBit, rIntX, tMkV, tMk0, bi_inj, rCatX, tPar3, tXf, HO.xd.injEq, lookup1, tMkR, Ends.off, rReprZ, *])
local macro_rules | `(tactic| walk_at "go") => `(tactic| (refine later ?_; walk_at "rd"))
local macro_rules | `(tactic| walk_at "cj") => `(tactic| repeat (refine And.intro (by first | assumption | exact cpow60 | exact cpow59 | exact cpow17 | exact mul60 | decide | exact .inl ⟨by decide, by decide⟩ | exact .inr ⟨by decide, by decide⟩ | omega | exact ⟨by decide, by decide⟩) ?_))
/-! ### the dice -/
section
variable {P : Program} {w : World} {K : PySem.W.Frag} {mg : Str → Option Value} {base : Heap} {Z : Ad}
def spRoll : Sp := fun vs H Q _ => ∃ (d : Addr) (x y z n : Int), vs = [.ref d, .int n] ∧ H d = some (.lst [.int x, .int y, .int z]) ∧ 0 < n ∧ n.natAbs.log2 < 9000 ∧
  ∀ r x' y' z' : Int, 0 ≤ r → r < n → Q (.int r) (upd H d (.lst [.int x', .int y', .int z']))
theorem ok_roll (D : Ds K mg Z) (B : Bt mg) : FnOk P w K mg base CX0 1 Z.a_roll Z.d_roll P_roll spRoll := by
  refine D.roll.F.ok sc_roll (fun vs H Q E h => ?_) (fun cdv A outer s H vs Q E hr h => ?_)
  · obtain ⟨d, x, y, z, n, rfl, _⟩ := h
    rfl
  · obtain ⟨d, x, y, z, n, rfl, hd, hn, hlog, q⟩ := h
    refine ⟨_, (pss_cons (ps_if (pt_cmpR op_gt (pe_ix ix_M (pv 0) pe_int (fun _ _ => rfl)) pe_int (nomark _)) (pss_cons (ps_set (i := 2) sc_roll.nd rfl (Or.inl rfl) (pe_op op_mod (pe_callTy call_intI (by rfl) B.int (by decide +kernel) (pa_cons (pe_ix ix_M (pv 0) pe_int (fun _ _ => rfl)) pa_nil)) (pv 1)))
    (pss_cons (ps_asg (pe_op op_fdivW (pe_ix ix_M (pv 0) pe_int (fun _ _ => rfl)) (pv 1)) (pg_sub (pv 0) pe_int set_list))
    (pss_one (ps_ret (pv 2))))) pss_nil)
    (pss_cons (ps_asg (pe_op op_add (pe_ix ix_M (pv 0) pe_int (fun _ _ => rfl)) pe_int) (pg_sub (pv 0) pe_int set_list))
    (pss_cons (ps_set (i := 3) sc_roll.nd rfl (Or.inl rfl) (pe_op op_mod (pe_callTy call_intI (by rfl) B.int (by decide +kernel) (pa_cons (pe_op op_add (pe_ix ix_M (pv 0) pe_int (fun _ _ => rfl)) (pe_op op_mul pe_int (pe_ix ix_M (pv 0) pe_int (fun _ _ => rfl)))) pa_nil)) pe_int))
    (pss_cons (ps_set (i := 4) sc_roll.nd rfl (Or.inl rfl) (pe_op op_add (pe_op op_mul (pe_op op_mod (pe_callTy call_intI (by rfl) B.int (by decide +kernel) (pa_cons (pe_op op_add (pe_op op_mul (pv 3) (pv 3)) (pe_op op_mul pe_int (pe_ix ix_M (pv 0) pe_int (fun _ _ => rfl)))) pa_nil)) pe_int) pe_int) (pv 3)))
    (pss_one (ps_ret (pe_op op_mod (pe_callTy call_intI (by rfl) B.int (by decide +kernel) (pa_cons (pe_op op_fdivW (pv 4) pe_int) pa_nil)) (pv 1)))))))), ?_⟩
    walk_at "rd"
    have hdv : ∀ i : Int, CDivW i n := fun i => ⟨hn, hlog⟩
    have hm : ∀ i : Int, 0 ≤ i % n ∧ i % n < n := fun i => ⟨Int.emod_nonneg _ (by omega), Int.emod_lt_of_pos _ hn⟩
    refine ite2 (fun h => ?_) (fun h => ?_)
    · walk_at "go"
      walk_at "go"
      walk_at "go"
    · walk_at "go"
      walk_at "go"
      walk_at "go"
      refine ⟨.inl ⟨by decide, by decide⟩, by decide, ?_⟩
      have h1 := Int.emod_nonneg (y + 7907 * (z + 1)) (show (2305843009213693907 : Int) ≠ 0 by decide)
      have h2 := Int.emod_lt_of_pos (y + 7907 * (z + 1)) (show (0 : Int) < 2305843009213693907 by decide)
      generalize (y + 7907 * (z + 1)) % 2305843009213693907 = o at h1 h2 ⊢
      walk_at "go"
      have h3 := Int.emod_nonneg (o * o + 67 * (z + 1)) (show (2305843009213693921 : Int) ≠ 0 by decide)
      have h4 := Int.emod_lt_of_pos (o * o + 67 * (z + 1)) (show (0 : Int) < 2305843009213693921 by decide)
      refine ⟨.inl ⟨by omega, by omega⟩, .inl ⟨by decide, by decide⟩, by decide, .inr ⟨by decide, by decide⟩, ?_⟩
      walk_at "go"
      exact ⟨by decide, by decide⟩

def Items (H : Hp) (d : Addr) (it : V) (xs : List V) : Prop := (∃ l, it = .ref l ∧ l ≠ d ∧ H l = some (.lst xs)) ∨
  (∃ z : Str, it = .str z ∧ xs = z.cps.toList.map fun c => V.str ⟨#[c]⟩)
def spPick : Sp := fun vs H Q _ => ∃ (d : Addr) (x y z : Int) (it : V) (xs : List V), vs = [.ref d, it] ∧ H d = some (.lst [.int x, .int y, .int z]) ∧
  Items H d it xs ∧ 0 < xs.length ∧ xs.length ≤ 1000 ∧ ∀ v, v ∈ xs → ∀ x' y' z' : Int, Q v (upd H d (.lst [.int x', .int y', .int z']))
theorem ok_pick (D : Ds K mg Z) (B : Bt mg) : FnOk P w K mg base CX0 2 Z.a_pick Z.d_pick P_pick spPick := by
  have G_roll := ok_roll (P := P) (w := w) (base := base) D B
  refine D.pick.F.ok sc_pick (fun vs H Q E h => ?_) (fun cdv A outer s H vs Q E hr h => ?_)
  · obtain ⟨d, x, y, z, it, xs, rfl, _⟩ := h
    rfl
  · obtain ⟨d, x, y, z, it, xs, rfl, hd, hit, h0, h1, q⟩ := h
    refine ⟨_, (pss_one (ps_ret (pe_ix ix_seq (pv 1) (pe_df D.roll G_roll (hr.mono (by decide)) (by rfl) (pa_cons (pv 0) (pa_cons (pe_callB call_len (by rfl) B.len (by decide +kernel) (pa_cons (pv 1) pa_nil)) pa_nil))) (fun _ _ => rfl)))), ?_⟩
    have hlog : ((xs.length : Int)).natAbs.log2 < 9000 := Nat.lt_of_lt_of_le (log2_of (k := 10) (by omega) (by decide)) (by decide)
    have hat : ∀ r : Int, 0 ≤ r → r < (xs.length : Int) → ∃ v, v ∈ xs ∧ atI xs r = some v := by
      intro r r0 r1
      have hr' : r.toNat < xs.length := by omega
      refine ⟨xs[r.toNat], List.getElem_mem hr', ?_⟩
      exact L2.at_of (j := r.toNat) (by omega) (List.getElem?_eq_getElem hr')
    walk_at "rd"
    rcases hit with ⟨l, rfl, nl, hl⟩ | ⟨z', rfl, rfl⟩
    · refine ⟨xs.length, .inl ⟨xs, SqL.of hl, rfl⟩, ?_⟩
      refine ⟨d, x, y, z, _, rfl, hd, by omega, hlog, fun r x' y' z' r0 r1 => ?_⟩
      obtain ⟨v, hv, ha⟩ := hat r r0 r1
      exact .inl ⟨l, xs, r, v, rfl, rfl, SqL.of (by rw [upd_ne nl]; exact hl), ha, q v hv _ _ _⟩
    · rw [List.length_map] at h0 h1
      have ez : z'.length = z'.cps.toList.length := len_tl' z'
      have hz : z'.length ≤ sizeLine := Nat.le_trans (show z'.length ≤ 1000 by omega) (by decide)
      rw [List.length_map, ← ez] at hat hlog
      refine ⟨z'.length, ⟨hz, rfl⟩, ?_⟩
      refine ⟨d, x, y, z, _, rfl, hd, by omega, hlog, fun r x' y' w' r0 r1 => ?_⟩
      have hr' : r.toNat < z'.cps.toList.length := by omega
      have ha : atI z'.cps.toList r = some z'.cps.toList[r.toNat] := atI_of r0 hr'
      refine .inr (.inr ⟨z', r, z'.cps.toList[r.toNat], rfl, rfl, hz, ha, ?_⟩)
      exact q _ (List.mem_map.mpr ⟨_, List.getElem_mem hr', rfl⟩) _ _ _

def spDice (K : PySem.W.Frag) : Sp := fun vs H Q _ => ∃ (a : Addr) (ns : List Int) (i : Nat), vs = [.ref a, .int (i : Int)] ∧ SqL K H a (ns.map V.int) ∧
  ∀ (p : Addr) (x y : Int), H p = none → Q (.ref p) (upd H p (.lst [.int x, .int y, .int 0]))
theorem ok_dice (D : Ds K mg Z) (B : Bt mg) : FnOk P w K mg base CX0 1 Z.a_dice Z.d_dice P_dice (spDice K) := by
  refine D.dice.F.ok sc_dice (fun vs H Q E h => ?_) (fun cdv A outer s H vs Q E hr h => ?_)
  · obtain ⟨a, ns, i, rfl, _⟩ := h
    rfl
  · obtain ⟨a, ns, i, rfl, hS, q⟩ := h
    refine ⟨_, (pss_cons (ps_set (i := 2) sc_dice.nd rfl (Or.inl rfl) (pe_ifExp (pt_cmpR op_lt (pv 1) (pe_callB call_len_seq (by rfl) B.len (by decide +kernel) (pa_cons (pv 0) pa_nil)) (nomark _)) (pe_callTy call_intI (by rfl) B.int (by decide +kernel) (pa_cons (pe_ix ix_list (pv 0) (pv 1) (fun _ _ => rfl)) pa_nil)) (pe_op op_add (pe_op op_mul pe_int (pv 1)) pe_int)))
    (pss_cons (ps_set (i := 3) sc_dice.nd rfl (Or.inl rfl) (pe_op op_mod (pe_callB call_abs (by rfl) B.abs (by decide +kernel) (pa_cons (pv 2) pa_nil)) (pe_op op_pow pe_int pe_int)))
    (pss_cons (ps_set (i := 4) sc_dice.nd rfl (Or.inl rfl) (pe_callB (call_max2 rfl) (by rfl) B.max (by decide +kernel) (pa_cons pe_int (pa_cons (pe_op op_sub (pe_callB call_abs (by rfl) B.abs (by decide +kernel) (pa_cons (pv 2) pa_nil)) (pe_op op_pow pe_int pe_int)) pa_nil))))
    (pss_one (ps_ret (pe_lst (pa_cons (pe_op op_mod (pv 4) (pe_op op_mulW (pe_op op_pow pe_int pe_int) (pe_op op_pow pe_int pe_int))) (pa_cons (pe_op op_add (pe_op op_add (pe_op op_add (pe_op op_mul (pe_op op_mod (pv 3) pe_int) pe_int) (pe_op op_mul pe_int (pv 1))) (pe_op op_mul pe_int (pe_callTy call_intB (by rfl) B.int (by decide +kernel) (pa_cons (pe_cmpR op_lt (pv 2) pe_int (nomark _)) pa_nil)))) pe_int) (pa_cons pe_int pa_nil))))))))), ?_⟩
    walk_at "rd"
    refine ⟨_, .inl hS, ?_⟩
    rw [List.length_map]
    have cut : ∀ (A B : Prop) (c : Bool), (c = true → A) → (c = false → B) → if c = true then A else B := by
      intro A B c h1 h2
      cases c
      · exact h2 rfl
      · exact h1 rfl
    refine cut _ _ _ (fun h => ?_) (fun h => ?_)
    · have hi : i < ns.length := by have := of_decide_eq_true h; omega
      refine ⟨a, _, _, .int ns[i], rfl, rfl, hS, L2.at_of rfl (by rw [List.getElem?_map, List.getElem?_eq_getElem hi]; rfl), ?_⟩
      walk_at "rd"
      generalize ns[i] = c
      walk_at "go"
      refine ⟨cpow59, by decide, ?_⟩
      walk_at "go"
      refine ⟨cpow17, ?_⟩
      walk_at "go"
      walk_at "cj"
      exact fun p hp => q p _ _ hp
    · refine ⟨.inl ⟨by decide, by decide⟩, ?_⟩
      generalize 43 * (i : Int) + 7 = c
      walk_at "go"
      refine ⟨cpow59, by decide, ?_⟩
      walk_at "go"
      refine ⟨cpow17, ?_⟩
      walk_at "go"
      walk_at "cj"
      exact fun p hp => q p _ _ hp

end
/-! ### which class an error is of -/
section
variable {P : Program} {w : World} {K : PySem.W.Frag} {mg : Str → Option Value} {base : Heap} {Z : Ad}
/-- the 24 classes that are asked for, and the answers -/
def Ans (K : PySem.W.Frag) (Z : Ad) (C : Addr) (b : Nat → Bool) : Prop := (cls24 Z).map (isOf K C) = (List.range 24).map fun i => some (b i)
def ownT (b : Nat → Bool) : Str :=
  ob (b 0) "m" ++ ob (b 1) "t" ++ ob (b 2) "p" ++ ob (b 3) "s" ++ ob (b 4) "c" ++ ob (b 5) "r" ++ ob (b 6) "q" ++ ob (b 7) "o" ++ ob (b 8) "x" ++ ob (b 9) "U" ++ ob (b 10) "T" ++ ob (b 11) "N" ++ ob (b 12) "Z" ++ ob (b 13) "M" ++ ob (b 14) "S" ++ ob (b 15) "R"
def wholeT (b : Nat → Bool) : Str := ownT b ++ " " ++ ob (b 16) "base " ++ ob (b 17) "value " ++ ob (b 18) "key " ++ ob (b 19) "index " ++ ob (b 20) "lookup " ++ ob (b 21) "runtime " ++ ob (b 22) "overflow " ++ ob (b 23) "arithmetic "
local macro_rules | `(tactic| walk_at "bits") => `(tactic| repeat (refine And.intro (by first | decide | (simp only [Str.length_append, sizeLine_eq]; omega)) ?_))
theorem len_ownT (b : Nat → Bool) : (ownT b).length ≤ 16 := by
  have g0 := len_ob1 (b 0) "m" 1 (by decide)
  have g1 := len_ob1 (b 1) "t" 1 (by decide)
  have g2 := len_ob1 (b 2) "p" 1 (by decide)
  have g3 := len_ob1 (b 3) "s" 1 (by decide)
  have g4 := len_ob1 (b 4) "c" 1 (by decide)
  have g5 := len_ob1 (b 5) "r" 1 (by decide)
  have g6 := len_ob1 (b 6) "q" 1 (by decide)
  have g7 := len_ob1 (b 7) "o" 1 (by decide)
  have g8 := len_ob1 (b 8) "x" 1 (by decide)
  have g9 := len_ob1 (b 9) "U" 1 (by decide)
  have g10 := len_ob1 (b 10) "T" 1 (by decide)
  have g11 := len_ob1 (b 11) "N" 1 (by decide)
  have g12 := len_ob1 (b 12) "Z" 1 (by decide)
  have g13 := len_ob1 (b 13) "M" 1 (by decide)
  have g14 := len_ob1 (b 14) "S" 1 (by decide)
  have g15 := len_ob1 (b 15) "R" 1 (by decide)
  unfold ownT
  simp only [Str.length_append]
  omega
theorem len_wholeT (b : Nat → Bool) : (wholeT b).length ≤ 200 := by
  have g16 := len_ob1 (b 16) "base " 11 (by decide)
  have g17 := len_ob1 (b 17) "value " 11 (by decide)
  have g18 := len_ob1 (b 18) "key " 11 (by decide)
  have g19 := len_ob1 (b 19) "index " 11 (by decide)
  have g20 := len_ob1 (b 20) "lookup " 11 (by decide)
  have g21 := len_ob1 (b 21) "runtime " 11 (by decide)
  have g22 := len_ob1 (b 22) "overflow " 11 (by decide)
  have g23 := len_ob1 (b 23) "arithmetic " 11 (by decide)
  have g := len_ownT b
  have g' : (" " : Str).length = 1 := rfl
  unfold wholeT
  simp only [Str.length_append]
  omega
def spOwn (K : PySem.W.Frag) (Z : Ad) : Sp := fun vs H Q _ => ∃ a C b, vs = [.ref a] ∧ ExcC K C ∧ XAt [] H a C ∧ Ans K Z C b ∧ Q (.str (ownT b)) H
theorem ok_own (D : Ds K mg Z) (B : Bt mg) : FnOk P w K mg base CX0 1 Z.a_own Z.d_own P_own (spOwn K Z) := by
  refine D.own.F.ok sc_own (fun vs H Q E h => ?_) (fun cdv A outer s H vs Q E hr h => ?_)
  · obtain ⟨a, C, b, rfl, _⟩ := h
    rfl
  · obtain ⟨ea, eC, b, rfl, T, hx, hb, q⟩ := h
    refine ⟨_, (pss_cons (ps_set (i := 1) sc_own.nd rfl (Or.inl rfl) (pe_op op_add_str (pe_op op_bit pe_str (pe_callTy call_intX (by rfl) B.int (by decide +kernel) (pa_cons (pe_callB (call_isA (K := K) (pn := []) (a := ea) (C := eC) rfl rfl) (by rfl) B.isinstance (by decide +kernel) (pa_cons (pv 0) (pa_cons (pe_glob (v := .ref Z.c_InvalidMachine) (by rfl) D.InvalidMachine.g rfl) pa_nil))) pa_nil))) (pe_op op_bit pe_str (pe_callTy call_intX (by rfl) B.int (by decide +kernel) (pa_cons (pe_callB (call_isA (K := K) (pn := []) (a := ea) (C := eC) rfl rfl) (by rfl) B.isinstance (by decide +kernel) (pa_cons (pv 0) (pa_cons (pe_glob (v := .ref Z.c_InvalidText) (by rfl) D.InvalidText.g rfl) pa_nil))) pa_nil)))))
    (pss_cons (ps_set (i := 1) sc_own.nd rfl (Or.inl rfl) (pe_op op_add_str (pe_op op_add_str (pv 1) (pe_op op_bit pe_str (pe_callTy call_intX (by rfl) B.int (by decide +kernel) (pa_cons (pe_callB (call_isA (K := K) (pn := []) (a := ea) (C := eC) rfl rfl) (by rfl) B.isinstance (by decide +kernel) (pa_cons (pv 0) (pa_cons (pe_glob (v := .ref Z.c_InvalidPattern) (by rfl) D.InvalidPattern.g rfl) pa_nil))) pa_nil)))) (pe_op op_bit pe_str (pe_callTy call_intX (by rfl) B.int (by decide +kernel) (pa_cons (pe_callB (call_isA (K := K) (pn := []) (a := ea) (C := eC) rfl rfl) (by rfl) B.isinstance (by decide +kernel) (pa_cons (pv 0) (pa_cons (pe_glob (v := .ref Z.c_InvalidSquare) (by rfl) D.InvalidSquare.g rfl) pa_nil))) pa_nil)))))
    (pss_cons (ps_set (i := 1) sc_own.nd rfl (Or.inl rfl) (pe_op op_add_str (pe_op op_add_str (pv 1) (pe_op op_bit pe_str (pe_callTy call_intX (by rfl) B.int (by decide +kernel) (pa_cons (pe_callB (call_isA (K := K) (pn := []) (a := ea) (C := eC) rfl rfl) (by rfl) B.isinstance (by decide +kernel) (pa_cons (pv 0) (pa_cons (pe_glob (v := .ref Z.c_InvalidCosts) (by rfl) D.InvalidCosts.g rfl) pa_nil))) pa_nil)))) (pe_op op_bit pe_str (pe_callTy call_intX (by rfl) B.int (by decide +kernel) (pa_cons (pe_callB (call_isA (K := K) (pn := []) (a := ea) (C := eC) rfl rfl) (by rfl) B.isinstance (by decide +kernel) (pa_cons (pv 0) (pa_cons (pe_glob (v := .ref Z.c_InvalidRow) (by rfl) D.InvalidRow.g rfl) pa_nil))) pa_nil)))))
    (pss_cons (ps_set (i := 1) sc_own.nd rfl (Or.inl rfl) (pe_op op_add_str (pe_op op_add_str (pv 1) (pe_op op_bit pe_str (pe_callTy call_intX (by rfl) B.int (by decide +kernel) (pa_cons (pe_callB (call_isA (K := K) (pn := []) (a := ea) (C := eC) rfl rfl) (by rfl) B.isinstance (by decide +kernel) (pa_cons (pv 0) (pa_cons (pe_glob (v := .ref Z.c_InvalidPaper) (by rfl) D.InvalidPaper.g rfl) pa_nil))) pa_nil)))) (pe_op op_bit pe_str (pe_callTy call_intX (by rfl) B.int (by decide +kernel) (pa_cons (pe_callB (call_isA (K := K) (pn := []) (a := ea) (C := eC) rfl rfl) (by rfl) B.isinstance (by decide +kernel) (pa_cons (pv 0) (pa_cons (pe_glob (v := .ref Z.c_InvalidOperation) (by rfl) D.InvalidOperation.g rfl) pa_nil))) pa_nil)))))
    (pss_cons (ps_set (i := 1) sc_own.nd rfl (Or.inl rfl) (pe_op op_add_str (pe_op op_add_str (pv 1) (pe_op op_bit pe_str (pe_callTy call_intX (by rfl) B.int (by decide +kernel) (pa_cons (pe_callB (call_isA (K := K) (pn := []) (a := ea) (C := eC) rfl rfl) (by rfl) B.isinstance (by decide +kernel) (pa_cons (pv 0) (pa_cons (pe_glob (v := .ref Z.c_ParseError) (by rfl) D.ParseError.g rfl) pa_nil))) pa_nil)))) (pe_op op_bit pe_str (pe_callTy call_intX (by rfl) B.int (by decide +kernel) (pa_cons (pe_callB (call_isA (K := K) (pn := []) (a := ea) (C := eC) rfl rfl) (by rfl) B.isinstance (by decide +kernel) (pa_cons (pv 0) (pa_cons (pe_glob (v := .ref Z.c_UnknownName) (by rfl) D.UnknownName.g rfl) pa_nil))) pa_nil)))))
    (pss_cons (ps_set (i := 1) sc_own.nd rfl (Or.inl rfl) (pe_op op_add_str (pe_op op_add_str (pv 1) (pe_op op_bit pe_str (pe_callTy call_intX (by rfl) B.int (by decide +kernel) (pa_cons (pe_callB (call_isA (K := K) (pn := []) (a := ea) (C := eC) rfl rfl) (by rfl) B.isinstance (by decide +kernel) (pa_cons (pv 0) (pa_cons (pe_glob (v := .ref Z.c_NotTaken) (by rfl) D.NotTaken.g rfl) pa_nil))) pa_nil)))) (pe_op op_bit pe_str (pe_callTy call_intX (by rfl) B.int (by decide +kernel) (pa_cons (pe_callB (call_isA (K := K) (pn := []) (a := ea) (C := eC) rfl rfl) (by rfl) B.isinstance (by decide +kernel) (pa_cons (pv 0) (pa_cons (pe_glob (v := .ref Z.c_InvalidNumber) (by rfl) D.InvalidNumber.g rfl) pa_nil))) pa_nil)))))
    (pss_cons (ps_set (i := 1) sc_own.nd rfl (Or.inl rfl) (pe_op op_add_str (pe_op op_add_str (pv 1) (pe_op op_bit pe_str (pe_callTy call_intX (by rfl) B.int (by decide +kernel) (pa_cons (pe_callB (call_isA (K := K) (pn := []) (a := ea) (C := eC) rfl rfl) (by rfl) B.isinstance (by decide +kernel) (pa_cons (pv 0) (pa_cons (pe_glob (v := .ref Z.c_NothingToUndo) (by rfl) D.NothingToUndo.g rfl) pa_nil))) pa_nil)))) (pe_op op_bit pe_str (pe_callTy call_intX (by rfl) B.int (by decide +kernel) (pa_cons (pe_callB (call_isA (K := K) (pn := []) (a := ea) (C := eC) rfl rfl) (by rfl) B.isinstance (by decide +kernel) (pa_cons (pv 0) (pa_cons (pe_glob (v := .ref Z.c_TooMany) (by rfl) D.TooMany.g rfl) pa_nil))) pa_nil)))))
    (pss_one (ps_ret (pe_op op_add_str (pe_op op_add_str (pv 1) (pe_op op_bit pe_str (pe_callTy call_intX (by rfl) B.int (by decide +kernel) (pa_cons (pe_callB (call_isA (K := K) (pn := []) (a := ea) (C := eC) rfl rfl) (by rfl) B.isinstance (by decide +kernel) (pa_cons (pv 0) (pa_cons (pe_glob (v := .ref Z.c_Unstable) (by rfl) D.Unstable.g rfl) pa_nil))) pa_nil)))) (pe_op op_bit pe_str (pe_callTy call_intX (by rfl) B.int (by decide +kernel) (pa_cons (pe_callB (call_isA (K := K) (pn := []) (a := ea) (C := eC) rfl rfl) (by rfl) B.isinstance (by decide +kernel) (pa_cons (pv 0) (pa_cons (pe_glob (v := .ref Z.c_Refused) (by rfl) D.Refused.g rfl) pa_nil))) pa_nil))))))))))))), ?_⟩
    simp only [Ans, cls24, List.map_cons, List.map_nil, List.range, List.range.loop, List.cons.injEq, and_true] at hb
    obtain ⟨h0, h1, h2, h3, h4, h5, h6, h7, h8, h9, h10, h11, h12, h13, h14, h15, h16, h17, h18, h19, h20, h21, h22, h23⟩ := hb
    have g0 := len_ob1 (b 0) "m" 1 (by decide)
    have g1 := len_ob1 (b 1) "t" 1 (by decide)
    have g2 := len_ob1 (b 2) "p" 1 (by decide)
    have g3 := len_ob1 (b 3) "s" 1 (by decide)
    have g4 := len_ob1 (b 4) "c" 1 (by decide)
    have g5 := len_ob1 (b 5) "r" 1 (by decide)
    have g6 := len_ob1 (b 6) "q" 1 (by decide)
    have g7 := len_ob1 (b 7) "o" 1 (by decide)
    have g8 := len_ob1 (b 8) "x" 1 (by decide)
    have g9 := len_ob1 (b 9) "U" 1 (by decide)
    have g10 := len_ob1 (b 10) "T" 1 (by decide)
    have g11 := len_ob1 (b 11) "N" 1 (by decide)
    have g12 := len_ob1 (b 12) "Z" 1 (by decide)
    have g13 := len_ob1 (b 13) "M" 1 (by decide)
    have g14 := len_ob1 (b 14) "S" 1 (by decide)
    have g15 := len_ob1 (b 15) "R" 1 (by decide)
    walk_at "rd"
    walk_at "bits"
    iterate 7
      walk_at "go"
      walk_at "bits"
    exact q
/-- the same while an error is handled -/
def spOwnP (K : PySem.W.Frag) (Z : Ad) : Addr → Value → Option Addr → Sp := fun a0 c d vs H Q _ => ∃ C b, vs = [.ref a0] ∧ c = .ref C ∧ d = none ∧ ExcC K C ∧ Ans K Z C b ∧ Q (.str (ownT b)) H
theorem okP_own (D : Ds K mg Z) (B : Bt mg) : FnP P w K mg base CX0 1 Z.a_own Z.d_own P_own (spOwnP K Z) := by
  refine okP D.own.F sc_own (fun a c d vs H Q E h => ?_) (fun cdv A outer s H vs Q E p c d gd hr hz hf h => ?_)
  · obtain ⟨C, b, rfl, _⟩ := h
    rfl
  · obtain ⟨eC, b, rfl, rfl, rfl, T, hb, q⟩ := h
    obtain ⟨ea, oe⟩ := p
    have hx : XAt [(ea, oe)] H ea eC := .inr (.inr ⟨oe, List.mem_cons_self, hz, hf⟩)
    refine ⟨_, (pss_cons (ps_set (i := 1) sc_own.nd rfl (Or.inl rfl) (pe_op op_add_str (pe_op op_bit pe_str (pe_callTy call_intX (by rfl) B.int (by decide +kernel) (pa_cons (pe_callB (call_isA (K := K) (pn := [(ea, oe)]) (a := ea) (C := eC) rfl rfl) (by rfl) B.isinstance (by decide +kernel) (pa_cons (pv 0) (pa_cons (pe_glob (v := .ref Z.c_InvalidMachine) (by rfl) D.InvalidMachine.g rfl) pa_nil))) pa_nil))) (pe_op op_bit pe_str (pe_callTy call_intX (by rfl) B.int (by decide +kernel) (pa_cons (pe_callB (call_isA (K := K) (pn := [(ea, oe)]) (a := ea) (C := eC) rfl rfl) (by rfl) B.isinstance (by decide +kernel) (pa_cons (pv 0) (pa_cons (pe_glob (v := .ref Z.c_InvalidText) (by rfl) D.InvalidText.g rfl) pa_nil))) pa_nil)))))
    (pss_cons (ps_set (i := 1) sc_own.nd rfl (Or.inl rfl) (pe_op op_add_str (pe_op op_add_str (pv 1) (pe_op op_bit pe_str (pe_callTy call_intX (by rfl) B.int (by decide +kernel) (pa_cons (pe_callB (call_isA (K := K) (pn := [(ea, oe)]) (a := ea) (C := eC) rfl rfl) (by rfl) B.isinstance (by decide +kernel) (pa_cons (pv 0) (pa_cons (pe_glob (v := .ref Z.c_InvalidPattern) (by rfl) D.InvalidPattern.g rfl) pa_nil))) pa_nil)))) (pe_op op_bit pe_str (pe_callTy call_intX (by rfl) B.int (by decide +kernel) (pa_cons (pe_callB (call_isA (K := K) (pn := [(ea, oe)]) (a := ea) (C := eC) rfl rfl) (by rfl) B.isinstance (by decide +kernel) (pa_cons (pv 0) (pa_cons (pe_glob (v := .ref Z.c_InvalidSquare) (by rfl) D.InvalidSquare.g rfl) pa_nil))) pa_nil)))))
    (pss_cons (ps_set (i := 1) sc_own.nd rfl (Or.inl rfl) (pe_op op_add_str (pe_op op_add_str (pv 1) (pe_op op_bit pe_str (pe_callTy call_intX (by rfl) B.int (by decide +kernel) (pa_cons (pe_callB (call_isA (K := K) (pn := [(ea, oe)]) (a := ea) (C := eC) rfl rfl) (by rfl) B.isinstance (by decide +kernel) (pa_cons (pv 0) (pa_cons (pe_glob (v := .ref Z.c_InvalidCosts) (by rfl) D.InvalidCosts.g rfl) pa_nil))) pa_nil)))) (pe_op op_bit pe_str (pe_callTy call_intX (by rfl) B.int (by decide +kernel) (pa_cons (pe_callB (call_isA (K := K) (pn := [(ea, oe)]) (a := ea) (C := eC) rfl rfl) (by rfl) B.isinstance (by decide +kernel) (pa_cons (pv 0) (pa_cons (pe_glob (v := .ref Z.c_InvalidRow) (by rfl) D.InvalidRow.g rfl) pa_nil))) pa_nil)))))
    (pss_cons (ps_set (i := 1) sc_own.nd rfl (Or.inl rfl) (pe_op op_add_str (pe_op op_add_str (pv 1) (pe_op op_bit pe_str (pe_callTy call_intX (by rfl) B.int (by decide +kernel) (pa_cons (pe_callB (call_isA (K := K) (pn := [(ea, oe)]) (a := ea) (C := eC) rfl rfl) (by rfl) B.isinstance (by decide +kernel) (pa_cons (pv 0) (pa_cons (pe_glob (v := .ref Z.c_InvalidPaper) (by rfl) D.InvalidPaper.g rfl) pa_nil))) pa_nil)))) (pe_op op_bit pe_str (pe_callTy call_intX (by rfl) B.int (by decide +kernel) (pa_cons (pe_callB (call_isA (K := K) (pn := [(ea, oe)]) (a := ea) (C := eC) rfl rfl) (by rfl) B.isinstance (by decide +kernel) (pa_cons (pv 0) (pa_cons (pe_glob (v := .ref Z.c_InvalidOperation) (by rfl) D.InvalidOperation.g rfl) pa_nil))) pa_nil)))))
    (pss_cons (ps_set (i := 1) sc_own.nd rfl (Or.inl rfl) (pe_op op_add_str (pe_op op_add_str (pv 1) (pe_op op_bit pe_str (pe_callTy call_intX (by rfl) B.int (by decide +kernel) (pa_cons (pe_callB (call_isA (K := K) (pn := [(ea, oe)]) (a := ea) (C := eC) rfl rfl) (by rfl) B.isinstance (by decide +kernel) (pa_cons (pv 0) (pa_cons (pe_glob (v := .ref Z.c_ParseError) (by rfl) D.ParseError.g rfl) pa_nil))) pa_nil)))) (pe_op op_bit pe_str (pe_callTy call_intX (by rfl) B.int (by decide +kernel) (pa_cons (pe_callB (call_isA (K := K) (pn := [(ea, oe)]) (a := ea) (C := eC) rfl rfl) (by rfl) B.isinstance (by decide +kernel) (pa_cons (pv 0) (pa_cons (pe_glob (v := .ref Z.c_UnknownName) (by rfl) D.UnknownName.g rfl) pa_nil))) pa_nil)))))
    (pss_cons (ps_set (i := 1) sc_own.nd rfl (Or.inl rfl) (pe_op op_add_str (pe_op op_add_str (pv 1) (pe_op op_bit pe_str (pe_callTy call_intX (by rfl) B.int (by decide +kernel) (pa_cons (pe_callB (call_isA (K := K) (pn := [(ea, oe)]) (a := ea) (C := eC) rfl rfl) (by rfl) B.isinstance (by decide +kernel) (pa_cons (pv 0) (pa_cons (pe_glob (v := .ref Z.c_NotTaken) (by rfl) D.NotTaken.g rfl) pa_nil))) pa_nil)))) (pe_op op_bit pe_str (pe_callTy call_intX (by rfl) B.int (by decide +kernel) (pa_cons (pe_callB (call_isA (K := K) (pn := [(ea, oe)]) (a := ea) (C := eC) rfl rfl) (by rfl) B.isinstance (by decide +kernel) (pa_cons (pv 0) (pa_cons (pe_glob (v := .ref Z.c_InvalidNumber) (by rfl) D.InvalidNumber.g rfl) pa_nil))) pa_nil)))))
    (pss_cons (ps_set (i := 1) sc_own.nd rfl (Or.inl rfl) (pe_op op_add_str (pe_op op_add_str (pv 1) (pe_op op_bit pe_str (pe_callTy call_intX (by rfl) B.int (by decide +kernel) (pa_cons (pe_callB (call_isA (K := K) (pn := [(ea, oe)]) (a := ea) (C := eC) rfl rfl) (by rfl) B.isinstance (by decide +kernel) (pa_cons (pv 0) (pa_cons (pe_glob (v := .ref Z.c_NothingToUndo) (by rfl) D.NothingToUndo.g rfl) pa_nil))) pa_nil)))) (pe_op op_bit pe_str (pe_callTy call_intX (by rfl) B.int (by decide +kernel) (pa_cons (pe_callB (call_isA (K := K) (pn := [(ea, oe)]) (a := ea) (C := eC) rfl rfl) (by rfl) B.isinstance (by decide +kernel) (pa_cons (pv 0) (pa_cons (pe_glob (v := .ref Z.c_TooMany) (by rfl) D.TooMany.g rfl) pa_nil))) pa_nil)))))
    (pss_one (ps_ret (pe_op op_add_str (pe_op op_add_str (pv 1) (pe_op op_bit pe_str (pe_callTy call_intX (by rfl) B.int (by decide +kernel) (pa_cons (pe_callB (call_isA (K := K) (pn := [(ea, oe)]) (a := ea) (C := eC) rfl rfl) (by rfl) B.isinstance (by decide +kernel) (pa_cons (pv 0) (pa_cons (pe_glob (v := .ref Z.c_Unstable) (by rfl) D.Unstable.g rfl) pa_nil))) pa_nil)))) (pe_op op_bit pe_str (pe_callTy call_intX (by rfl) B.int (by decide +kernel) (pa_cons (pe_callB (call_isA (K := K) (pn := [(ea, oe)]) (a := ea) (C := eC) rfl rfl) (by rfl) B.isinstance (by decide +kernel) (pa_cons (pv 0) (pa_cons (pe_glob (v := .ref Z.c_Refused) (by rfl) D.Refused.g rfl) pa_nil))) pa_nil))))))))))))), ?_⟩
    simp only [Ans, cls24, List.map_cons, List.map_nil, List.range, List.range.loop, List.cons.injEq, and_true] at hb
    obtain ⟨h0, h1, h2, h3, h4, h5, h6, h7, h8, h9, h10, h11, h12, h13, h14, h15, h16, h17, h18, h19, h20, h21, h22, h23⟩ := hb
    have g0 := len_ob1 (b 0) "m" 1 (by decide)
    have g1 := len_ob1 (b 1) "t" 1 (by decide)
    have g2 := len_ob1 (b 2) "p" 1 (by decide)
    have g3 := len_ob1 (b 3) "s" 1 (by decide)
    have g4 := len_ob1 (b 4) "c" 1 (by decide)
    have g5 := len_ob1 (b 5) "r" 1 (by decide)
    have g6 := len_ob1 (b 6) "q" 1 (by decide)
    have g7 := len_ob1 (b 7) "o" 1 (by decide)
    have g8 := len_ob1 (b 8) "x" 1 (by decide)
    have g9 := len_ob1 (b 9) "U" 1 (by decide)
    have g10 := len_ob1 (b 10) "T" 1 (by decide)
    have g11 := len_ob1 (b 11) "N" 1 (by decide)
    have g12 := len_ob1 (b 12) "Z" 1 (by decide)
    have g13 := len_ob1 (b 13) "M" 1 (by decide)
    have g14 := len_ob1 (b 14) "S" 1 (by decide)
    have g15 := len_ob1 (b 15) "R" 1 (by decide)
    walk_at "rd"
    walk_at "bits"
    iterate 7
      walk_at "go"
      walk_at "bits"
    exact q
def spWhole (K : PySem.W.Frag) (Z : Ad) : Sp := fun vs H Q _ => ∃ a C b, vs = [.ref a] ∧ ExcC K C ∧ XAt [] H a C ∧ Ans K Z C b ∧ Q (.str (wholeT b)) H
theorem ok_whole (D : Ds K mg Z) (B : Bt mg) : FnOk P w K mg base CX0 2 Z.a_whole Z.d_whole P_whole (spWhole K Z) := by
  have G_own := ok_own (P := P) (w := w) (base := base) D B
  refine D.whole.F.ok sc_whole (fun vs H Q E h => ?_) (fun cdv A outer s H vs Q E hr h => ?_)
  · obtain ⟨a, C, b, rfl, _⟩ := h
    rfl
  · obtain ⟨ea, eC, b, rfl, T, hx, hb, q⟩ := h
    refine ⟨_, (pss_cons (ps_set (i := 1) sc_whole.nd rfl (Or.inl rfl) (pe_op op_add_str (pe_op op_add_str (pe_df D.own G_own (hr.mono (by decide)) (by rfl) (pa_cons (pv 0) pa_nil)) pe_str) (pe_op op_bit pe_str (pe_callTy call_intX (by rfl) B.int (by decide +kernel) (pa_cons (pe_callB (call_isA (K := K) (pn := []) (a := ea) (C := eC) rfl rfl) (by rfl) B.isinstance (by decide +kernel) (pa_cons (pv 0) (pa_cons (pe_glob (v := .ref Z.c_PriceError) (by rfl) D.PriceError.g rfl) pa_nil))) pa_nil)))))
    (pss_cons (ps_set (i := 1) sc_whole.nd rfl (Or.inl rfl) (pe_op op_add_str (pe_op op_add_str (pv 1) (pe_op op_bit pe_str (pe_callTy call_intX (by rfl) B.int (by decide +kernel) (pa_cons (pe_callB (call_isA (K := K) (pn := []) (a := ea) (C := eC) rfl rfl) (by rfl) B.isinstance (by decide +kernel) (pa_cons (pv 0) (pa_cons (pe_bltn (v := .ty "ValueError") (by rfl) B.ValueError (by decide +kernel) rfl) pa_nil))) pa_nil)))) (pe_op op_bit pe_str (pe_callTy call_intX (by rfl) B.int (by decide +kernel) (pa_cons (pe_callB (call_isA (K := K) (pn := []) (a := ea) (C := eC) rfl rfl) (by rfl) B.isinstance (by decide +kernel) (pa_cons (pv 0) (pa_cons (pe_bltn (v := .ty "KeyError") (by rfl) B.KeyError (by decide +kernel) rfl) pa_nil))) pa_nil)))))
    (pss_cons (ps_set (i := 1) sc_whole.nd rfl (Or.inl rfl) (pe_op op_add_str (pe_op op_add_str (pv 1) (pe_op op_bit pe_str (pe_callTy call_intX (by rfl) B.int (by decide +kernel) (pa_cons (pe_callB (call_isA (K := K) (pn := []) (a := ea) (C := eC) rfl rfl) (by rfl) B.isinstance (by decide +kernel) (pa_cons (pv 0) (pa_cons (pe_bltn (v := .ty "IndexError") (by rfl) B.IndexError (by decide +kernel) rfl) pa_nil))) pa_nil)))) (pe_op op_bit pe_str (pe_callTy call_intX (by rfl) B.int (by decide +kernel) (pa_cons (pe_callB (call_isA (K := K) (pn := []) (a := ea) (C := eC) rfl rfl) (by rfl) B.isinstance (by decide +kernel) (pa_cons (pv 0) (pa_cons (pe_bltn (v := .ty "LookupError") (by rfl) B.LookupError (by decide +kernel) rfl) pa_nil))) pa_nil)))))
    (pss_cons (ps_set (i := 1) sc_whole.nd rfl (Or.inl rfl) (pe_op op_add_str (pv 1) (pe_op op_bit pe_str (pe_callTy call_intX (by rfl) B.int (by decide +kernel) (pa_cons (pe_callB (call_isA (K := K) (pn := []) (a := ea) (C := eC) rfl rfl) (by rfl) B.isinstance (by decide +kernel) (pa_cons (pv 0) (pa_cons (pe_bltn (v := .ty "RuntimeError") (by rfl) B.RuntimeError (by decide +kernel) rfl) pa_nil))) pa_nil)))))
    (pss_cons (ps_set (i := 1) sc_whole.nd rfl (Or.inl rfl) (pe_op op_add_str (pv 1) (pe_op op_bit pe_str (pe_callTy call_intX (by rfl) B.int (by decide +kernel) (pa_cons (pe_callB (call_isA (K := K) (pn := []) (a := ea) (C := eC) rfl rfl) (by rfl) B.isinstance (by decide +kernel) (pa_cons (pv 0) (pa_cons (pe_bltn (v := .ty "OverflowError") (by rfl) B.OverflowError (by decide +kernel) rfl) pa_nil))) pa_nil)))))
    (pss_one (ps_ret (pe_op op_add_str (pv 1) (pe_op op_bit pe_str (pe_callTy call_intX (by rfl) B.int (by decide +kernel) (pa_cons (pe_callB (call_isA (K := K) (pn := []) (a := ea) (C := eC) rfl rfl) (by rfl) B.isinstance (by decide +kernel) (pa_cons (pv 0) (pa_cons (pe_bltn (v := .ty "ArithmeticError") (by rfl) B.ArithmeticError (by decide +kernel) rfl) pa_nil))) pa_nil))))))))))), ?_⟩
    have hb' := hb
    simp only [Ans, cls24, List.map_cons, List.map_nil, List.range, List.range.loop, List.cons.injEq, and_true] at hb'
    obtain ⟨h0, h1, h2, h3, h4, h5, h6, h7, h8, h9, h10, h11, h12, h13, h14, h15, h16, h17, h18, h19, h20, h21, h22, h23⟩ := hb'
    have g16 := len_ob1 (b 16) "base " 11 (by decide)
    have g17 := len_ob1 (b 17) "value " 11 (by decide)
    have g18 := len_ob1 (b 18) "key " 11 (by decide)
    have g19 := len_ob1 (b 19) "index " 11 (by decide)
    have g20 := len_ob1 (b 20) "lookup " 11 (by decide)
    have g21 := len_ob1 (b 21) "runtime " 11 (by decide)
    have g22 := len_ob1 (b 22) "overflow " 11 (by decide)
    have g23 := len_ob1 (b 23) "arithmetic " 11 (by decide)
    have g := len_ownT b
    have g' : (" " : Str).length = 1 := rfl
    walk_at "rd"
    refine ⟨ea, eC, b, rfl, T, hx, hb, ?_⟩
    generalize eo : ownT b = o at g
    walk_at "rd"
    walk_at "bits"
    iterate 5
      walk_at "go"
      walk_at "bits"
    unfold wholeT at q
    rw [eo] at q
    exact q
end
/-! ### errors with a message -/
section
variable {P : Program} {w : World} {K : PySem.W.Frag} {mg : Str → Option Value} {base : Heap} {Z : Ad}
/-- the answers for the class with the row l -/
def rowB (l : List Bool) : Nat → Bool := fun i => l.getD i false
theorem ans_row {C : Addr} {l : List Bool} (h : (cls24 Z).map (isOf K C) = l.map some) (hl : l.length = 24) : Ans K Z C (rowB l) := by
  unfold Ans
  rw [h]
  refine List.ext_getElem (by simp [hl]) (fun i h1 h2 => ?_)
  simp [rowB]
  rw [List.getElem?_eq_getElem (by simpa using h1)]
  rfl
def msgT : List V := [.str "m base value ", .str "t base value ", .str "p base value ", .str "s base value ", .str "c base value ", .str "r base value ", .str "q base value ", .str "o base value ", .str " base value "]
theorem whole0 {C : Addr} {l : List Bool} {t : Str} (hE : ExcC K C) (h : (cls24 Z).map (isOf K C) = l.map some) (hl : l.length = 24) (ht : wholeT (rowB l) = t)
    {H : Hp} {a : Addr} {Q : VK} (q : ∀ H', H' = upd H a (exo a C none) → Q (.str t) H') : spWhole K Z [.ref a] (upd H a (exo a C none)) Q E0 :=
  ⟨a, C, rowB l, rfl, hE, .inl upd_same, ans_row h hl, by rw [ht]; exact q _ rfl⟩
def spMsg : Sp := fun vs H Q _ => ∃ t, vs = [.str t] ∧ ∀ p H', H p = none → Same H H' → H' p = some (.lst msgT) → Q (.ref p) H'
theorem ok_messages (D : Ds K mg Z) (B : Bt mg) (T : Tb K Z) : FnOk P w K mg base CX0 3 Z.a_messages Z.d_messages P_messages spMsg := by
  have G_whole := ok_whole (P := P) (w := w) (base := base) D B
  refine D.messages.F.ok sc_messages (fun vs H Q E h => ?_) (fun cdv A outer s H vs Q E hr h => ?_)
  · obtain ⟨t, rfl, _⟩ := h
    rfl
  · obtain ⟨t, rfl, q⟩ := h
    refine ⟨_, (pss_cons (ps_set (i := 1) sc_messages.nd rfl (Or.inl rfl) (pe_lst (pa_cons (pe_df D.whole G_whole (hr.mono (by decide)) (by rfl) (pa_cons (pe_new0 D.InvalidMachine (by rfl) (pv 0)) pa_nil)) (pa_cons (pe_df D.whole G_whole (hr.mono (by decide)) (by rfl) (pa_cons (pe_new0 D.InvalidText (by rfl) (pv 0)) pa_nil)) (pa_cons (pe_df D.whole G_whole (hr.mono (by decide)) (by rfl) (pa_cons (pe_new0 D.InvalidPattern (by rfl) (pv 0)) pa_nil)) pa_nil)))))
    (pss_cons (ps_set (i := 1) sc_messages.nd rfl (Or.inl rfl) (pe_op op_cat (pv 1) (pe_lst (pa_cons (pe_df D.whole G_whole (hr.mono (by decide)) (by rfl) (pa_cons (pe_new0 D.InvalidSquare (by rfl) (pv 0)) pa_nil)) (pa_cons (pe_df D.whole G_whole (hr.mono (by decide)) (by rfl) (pa_cons (pe_new0 D.InvalidCosts (by rfl) (pv 0)) pa_nil)) (pa_cons (pe_df D.whole G_whole (hr.mono (by decide)) (by rfl) (pa_cons (pe_new0 D.InvalidRow (by rfl) (pv 0)) pa_nil)) pa_nil))))))
    (pss_cons (ps_set (i := 1) sc_messages.nd rfl (Or.inl rfl) (pe_op op_cat (pv 1) (pe_lst (pa_cons (pe_df D.whole G_whole (hr.mono (by decide)) (by rfl) (pa_cons (pe_new0 D.InvalidPaper (by rfl) (pv 0)) pa_nil)) (pa_cons (pe_df D.whole G_whole (hr.mono (by decide)) (by rfl) (pa_cons (pe_new0 D.InvalidOperation (by rfl) (pv 0)) pa_nil)) pa_nil)))))
    (pss_one (ps_ret (pe_op op_cat (pv 1) (pe_lst (pa_cons (pe_df D.whole G_whole (hr.mono (by decide)) (by rfl) (pa_cons (pe_new0 D.PriceError (by rfl) (pv 0)) pa_nil)) pa_nil)))))))), ?_⟩
    walk_at "rd"
    intro a n
    refine whole0 D.InvalidMachine.k.ec T.InvalidMachine rfl (t := "m base value ") (by decide +kernel) ?_
    rintro H1 rfl
    have e := Same.new (o := exo a Z.c_InvalidMachine none) n
    have S := e
    generalize upd _ a (exo a Z.c_InvalidMachine none) = H1 at S ⊢
    clear e n
    intro a n
    refine whole0 D.InvalidText.k.ec T.InvalidText rfl (t := "t base value ") (by decide +kernel) ?_
    rintro H1 rfl
    have e := Same.new (o := exo a Z.c_InvalidText none) n
    have S := S.trans e
    generalize upd _ a (exo a Z.c_InvalidText none) = H1 at S ⊢
    clear e n
    intro a n
    refine whole0 D.InvalidPattern.k.ec T.InvalidPattern rfl (t := "p base value ") (by decide +kernel) ?_
    rintro H1 rfl
    have e := Same.new (o := exo a Z.c_InvalidPattern none) n
    have S := S.trans e
    generalize upd _ a (exo a Z.c_InvalidPattern none) = H1 at S ⊢
    clear e n
    refine ⟨by decide, fun p1 n => ?_⟩
    have e := Same.new (o := .lst [.str "m base value ", .str "t base value ", .str "p base value "]) n
    have S := S.trans e
    have L : upd H1 p1 (.lst [.str "m base value ", .str "t base value ", .str "p base value "]) p1 = some (.lst [.str "m base value ", .str "t base value ", .str "p base value "]) := upd_same
    generalize upd _ p1 (.lst [.str "m base value ", .str "t base value ", .str "p base value "]) = H1 at S L ⊢
    clear e n
    walk_at "go"
    intro a n
    refine whole0 D.InvalidSquare.k.ec T.InvalidSquare rfl (t := "s base value ") (by decide +kernel) ?_
    rintro H1 rfl
    have e := Same.new (o := exo a Z.c_InvalidSquare none) n
    have S := S.trans e
    have L := e _ _ L
    generalize upd _ a (exo a Z.c_InvalidSquare none) = H1 at S L ⊢
    clear e n
    intro a n
    refine whole0 D.InvalidCosts.k.ec T.InvalidCosts rfl (t := "c base value ") (by decide +kernel) ?_
    rintro H1 rfl
    have e := Same.new (o := exo a Z.c_InvalidCosts none) n
    have S := S.trans e
    have L := e _ _ L
    generalize upd _ a (exo a Z.c_InvalidCosts none) = H1 at S L ⊢
    clear e n
    intro a n
    refine whole0 D.InvalidRow.k.ec T.InvalidRow rfl (t := "r base value ") (by decide +kernel) ?_
    rintro H1 rfl
    have e := Same.new (o := exo a Z.c_InvalidRow none) n
    have S := S.trans e
    have L := e _ _ L
    generalize upd _ a (exo a Z.c_InvalidRow none) = H1 at S L ⊢
    clear e n
    refine ⟨by decide, fun b n => ?_⟩
    have e := Same.new (o := .lst [.str "s base value ", .str "c base value ", .str "r base value "]) n
    have S := S.trans e
    have L := e _ _ L
    have M : upd H1 b (.lst [.str "s base value ", .str "c base value ", .str "r base value "]) b = some (.lst [.str "s base value ", .str "c base value ", .str "r base value "]) := upd_same
    generalize upd _ b (.lst [.str "s base value ", .str "c base value ", .str "r base value "]) = H1 at S L M ⊢
    clear e n
    refine ⟨_, L, by decide, fun p2 n => ?_⟩
    have e := Same.new (o := .lst ([.str "m base value ", .str "t base value ", .str "p base value "] ++ [.str "s base value ", .str "c base value ", .str "r base value "])) n
    have S := S.trans e
    have L : upd H1 p2 (.lst ([.str "m base value ", .str "t base value ", .str "p base value "] ++ [.str "s base value ", .str "c base value ", .str "r base value "])) p2 = some (.lst [.str "m base value ", .str "t base value ", .str "p base value ", .str "s base value ", .str "c base value ", .str "r base value "]) := upd_same
    generalize upd _ p2 (.lst ([.str "m base value ", .str "t base value ", .str "p base value "] ++ [.str "s base value ", .str "c base value ", .str "r base value "])) = H1 at S L ⊢
    clear e n
    walk_at "go"
    intro a n
    refine whole0 D.InvalidPaper.k.ec T.InvalidPaper rfl (t := "q base value ") (by decide +kernel) ?_
    rintro H1 rfl
    have e := Same.new (o := exo a Z.c_InvalidPaper none) n
    have S := S.trans e
    have L := e _ _ L
    generalize upd _ a (exo a Z.c_InvalidPaper none) = H1 at S L ⊢
    clear e n
    intro a n
    refine whole0 D.InvalidOperation.k.ec T.InvalidOperation rfl (t := "o base value ") (by decide +kernel) ?_
    rintro H1 rfl
    have e := Same.new (o := exo a Z.c_InvalidOperation none) n
    have S := S.trans e
    have L := e _ _ L
    generalize upd _ a (exo a Z.c_InvalidOperation none) = H1 at S L ⊢
    clear e n
    refine ⟨by decide, fun b n => ?_⟩
    have e := Same.new (o := .lst [.str "q base value ", .str "o base value "]) n
    have S := S.trans e
    have L := e _ _ L
    have M : upd H1 b (.lst [.str "q base value ", .str "o base value "]) b = some (.lst [.str "q base value ", .str "o base value "]) := upd_same
    generalize upd _ b (.lst [.str "q base value ", .str "o base value "]) = H1 at S L M ⊢
    clear e n
    refine ⟨_, L, by decide, fun p3 n => ?_⟩
    have e := Same.new (o := .lst ([.str "m base value ", .str "t base value ", .str "p base value ", .str "s base value ", .str "c base value ", .str "r base value "] ++ [.str "q base value ", .str "o base value "])) n
    have S := S.trans e
    have L : upd H1 p3 (.lst ([.str "m base value ", .str "t base value ", .str "p base value ", .str "s base value ", .str "c base value ", .str "r base value "] ++ [.str "q base value ", .str "o base value "])) p3 = some (.lst [.str "m base value ", .str "t base value ", .str "p base value ", .str "s base value ", .str "c base value ", .str "r base value ", .str "q base value ", .str "o base value "]) := upd_same
    generalize upd _ p3 (.lst ([.str "m base value ", .str "t base value ", .str "p base value ", .str "s base value ", .str "c base value ", .str "r base value "] ++ [.str "q base value ", .str "o base value "])) = H1 at S L ⊢
    clear e n
    walk_at "go"
    intro a n
    refine whole0 D.PriceError.k.ec T.PriceError rfl (t := " base value ") (by decide +kernel) ?_
    rintro H1 rfl
    have e := Same.new (o := exo a Z.c_PriceError none) n
    have S := S.trans e
    have L := e _ _ L
    generalize upd _ a (exo a Z.c_PriceError none) = H1 at S L ⊢
    clear e n
    refine ⟨by decide, fun b n => ?_⟩
    have e := Same.new (o := .lst [.str " base value "]) n
    have S := S.trans e
    have L := e _ _ L
    have M : upd H1 b (.lst [.str " base value "]) b = some (.lst [.str " base value "]) := upd_same
    generalize upd _ b (.lst [.str " base value "]) = H1 at S L M ⊢
    clear e n
    refine ⟨_, L, by decide, fun p4 n => ?_⟩
    have f := S.free n
    have e := Same.new (o := .lst ([.str "m base value ", .str "t base value ", .str "p base value ", .str "s base value ", .str "c base value ", .str "r base value ", .str "q base value ", .str "o base value "] ++ [.str " base value "])) n
    have S := S.trans e
    have L : upd H1 p4 (.lst ([.str "m base value ", .str "t base value ", .str "p base value ", .str "s base value ", .str "c base value ", .str "r base value ", .str "q base value ", .str "o base value "] ++ [.str " base value "])) p4 = some (.lst [.str "m base value ", .str "t base value ", .str "p base value ", .str "s base value ", .str "c base value ", .str "r base value ", .str "q base value ", .str "o base value ", .str " base value "]) := upd_same
    generalize upd _ p4 (.lst ([.str "m base value ", .str "t base value ", .str "p base value ", .str "s base value ", .str "c base value ", .str "r base value ", .str "q base value ", .str "o base value "] ++ [.str " base value "])) = H1 at S L ⊢
    clear e n
    exact q _ _ f S L
end
/-! ### errors that keep something -/
section
variable {P : Program} {w : World} {K : PySem.W.Frag} {mg : Str → Option Value} {base : Heap} {Z : Ad}
theorem whole1 {C : Addr} {l : List Bool} {t : Str} (hE : ExcC K C) (h : (cls24 Z).map (isOf K C) = l.map some) (hl : l.length = 24) (ht : wholeT (rowB l) = t)
    {H : Hp} {a d : Addr} {fs : List (Str × V)} {Q : VK} (e1 : H a = some (exo a C (some d))) (e2 : H d = some (exd d fs)) (q : Q (.str t) H) : spWhole K Z [.ref a] H Q E0 :=
  ⟨a, C, rowB l, rfl, hE, .inr (.inl ⟨d, fs, e1, e2⟩), ans_row h hl, by rw [ht]; exact q⟩
theorem xv_go {n : Str} {i : Nat} {σ : St} {H : Hp} {Q : VK} {a C d : Addr} {y : V} (hσ : σ[i]? = some (some (.ref a))) (T : XfC K C) (no : PySem.W.findIn K (.ref C) n = some none)
    (e1 : H a = some (exo a C (some d))) (e2 : H d = some (exd d [(n, y)])) (q : Q y H) : tXv K n (tVar i) σ H Q :=
  ⟨.ref a, hσ, a, C, d, _, y, rfl, T, no, e1, e2, by simp [List.lookup], q⟩
/-- a list of pairs of a text and a value -/
def Rows (H : Hp) (p : Addr) (rows : List (Str × V)) : Prop := ∃ ts : List Addr, H p = some (.lst (ts.map V.ref)) ∧
  Paired (fun (t : Addr) (r : Str × V) => H t = some (.tup [.str r.1, r.2])) ts rows
def rowsOf (v i : V) : List (Str × V) := [("x base value ", i), ("U key lookup ", v), ("T lookup ", v), ("N index lookup ", v), ("Z runtime ", v), ("M overflow arithmetic ", v), ("S arithmetic ", v), ("R arithmetic ", v)]
def spKept : Sp := fun vs H Q _ => ∃ v i, vs = [v, i] ∧ ∀ p H', p ≠ sysModules → Same H H' → Rows H' p (rowsOf v i) → Q (.ref p) H'
theorem ok_kept (D : Ds K mg Z) (B : Bt mg) (T : Tb K Z) : FnOk P w K mg base CX0 3 Z.a_kept Z.d_kept P_kept spKept := by
  have G_whole := ok_whole (P := P) (w := w) (base := base) D B
  have G_ParseError := G_ParseError (P := P) (w := w) (base := base) D
  have G_UnknownName := G_UnknownName (P := P) (w := w) (base := base) D
  have G_NotTaken := G_NotTaken (P := P) (w := w) (base := base) D
  have G_InvalidNumber := G_InvalidNumber (P := P) (w := w) (base := base) D
  have G_NothingToUndo := G_NothingToUndo (P := P) (w := w) (base := base) D
  have G_TooMany := G_TooMany (P := P) (w := w) (base := base) D
  have G_Unstable := G_Unstable (P := P) (w := w) (base := base) D
  have G_Refused := G_Refused (P := P) (w := w) (base := base) D
  refine D.kept.F.ok sc_kept (fun vs H Q E h => ?_) (fun cdv A outer s H vs Q E hr h => ?_)
  · obtain ⟨v, i, rfl, _⟩ := h
    rfl
  · obtain ⟨v, i, rfl, q⟩ := h
    refine ⟨_, (pss_cons (ps_par3 (i := 2) (j := 3) (l := 4) (by rfl) sc_kept.nd rfl rfl rfl (by decide) (by decide) (by decide) rfl rfl rfl (pa_cons (pe_new1 D.ParseError G_ParseError (hr.mono (by decide)) (by rfl) (pa_cons (pv 1) pa_nil)) (pa_cons (pe_new1 D.UnknownName G_UnknownName (hr.mono (by decide)) (by rfl) (pa_cons (pv 0) pa_nil)) (pa_cons (pe_new1 D.NotTaken G_NotTaken (hr.mono (by decide)) (by rfl) (pa_cons (pv 0) pa_nil)) pa_nil))) (by rfl))
    (pss_cons (ps_par3 (i := 5) (j := 6) (l := 7) (by rfl) sc_kept.nd rfl rfl rfl (by decide) (by decide) (by decide) rfl rfl rfl (pa_cons (pe_new1 D.InvalidNumber G_InvalidNumber (hr.mono (by decide)) (by rfl) (pa_cons (pv 0) pa_nil)) (pa_cons (pe_new1 D.NothingToUndo G_NothingToUndo (hr.mono (by decide)) (by rfl) (pa_cons (pv 0) pa_nil)) (pa_cons (pe_new1 D.TooMany G_TooMany (hr.mono (by decide)) (by rfl) (pa_cons (pv 0) pa_nil)) pa_nil))) (by rfl))
    (pss_cons (ps_par (i := 8) (j := 9) (by rfl) sc_kept.nd rfl rfl (by decide) rfl rfl (pa_cons (pe_new1 D.Unstable G_Unstable (hr.mono (by decide)) (by rfl) (pa_cons (pv 0) pa_nil)) (pa_cons (pe_new1 D.Refused G_Refused (hr.mono (by decide)) (by rfl) (pa_cons (pv 0) pa_nil)) pa_nil)) (by rfl))
    (pss_cons (ps_set (i := 10) sc_kept.nd rfl (Or.inl rfl) (pe_lst (pa_cons (pe_tup (pa_cons (pe_df D.whole G_whole (hr.mono (by decide)) (by rfl) (pa_cons (pv 2) pa_nil)) (pa_cons (pe_xv (pv 2)) pa_nil))) (pa_cons (pe_tup (pa_cons (pe_df D.whole G_whole (hr.mono (by decide)) (by rfl) (pa_cons (pv 3) pa_nil)) (pa_cons (pe_xv (pv 3)) pa_nil))) pa_nil))))
    (pss_cons (ps_set (i := 10) sc_kept.nd rfl (Or.inl rfl) (pe_op op_cat (pv 10) (pe_lst (pa_cons (pe_tup (pa_cons (pe_df D.whole G_whole (hr.mono (by decide)) (by rfl) (pa_cons (pv 4) pa_nil)) (pa_cons (pe_xv (pv 4)) pa_nil))) (pa_cons (pe_tup (pa_cons (pe_df D.whole G_whole (hr.mono (by decide)) (by rfl) (pa_cons (pv 5) pa_nil)) (pa_cons (pe_xv (pv 5)) pa_nil))) pa_nil)))))
    (pss_cons (ps_set (i := 10) sc_kept.nd rfl (Or.inl rfl) (pe_op op_cat (pv 10) (pe_lst (pa_cons (pe_tup (pa_cons (pe_df D.whole G_whole (hr.mono (by decide)) (by rfl) (pa_cons (pv 6) pa_nil)) (pa_cons (pe_xv (pv 6)) pa_nil))) (pa_cons (pe_tup (pa_cons (pe_df D.whole G_whole (hr.mono (by decide)) (by rfl) (pa_cons (pv 7) pa_nil)) (pa_cons (pe_xv (pv 7)) pa_nil))) pa_nil)))))
    (pss_one (ps_ret (pe_op op_catX (pv 10) (pe_lst (pa_cons (pe_tup (pa_cons (pe_df D.whole G_whole (hr.mono (by decide)) (by rfl) (pa_cons (pv 8) pa_nil)) (pa_cons (pe_xv (pv 8)) pa_nil))) (pa_cons (pe_tup (pa_cons (pe_df D.whole G_whole (hr.mono (by decide)) (by rfl) (pa_cons (pv 9) pa_nil)) (pa_cons (pe_xv (pv 9)) pa_nil))) pa_nil)))))))))))), ?_⟩
    walk_at "rd"
    intro a0 d0 n n' ne
    have e := (Same.new (o := exd d0 [("number", i)]) n').trans (Same.new (p := a0) (o := exo a0 Z.c_ParseError (some d0)) (by rw [upd_ne (Ne.symm ne)]; exact n))
    have S := e
    have E0 : upd (upd H d0 (exd d0 [("number", i)])) a0 (exo a0 Z.c_ParseError (some d0)) a0 = some (exo a0 Z.c_ParseError (some d0)) := upd_same
    have X0 : upd (upd H d0 (exd d0 [("number", i)])) a0 (exo a0 Z.c_ParseError (some d0)) d0 = some (exd d0 [("number", i)]) := by rw [upd_ne ne, upd_same]
    generalize upd (upd H d0 (exd d0 [("number", i)])) a0 (exo a0 Z.c_ParseError (some d0)) = H1 at S E0 X0 ⊢
    clear e n n' ne
    intro a1 d1 n n' ne
    have e := (Same.new (o := exd d1 [("word", v)]) n').trans (Same.new (p := a1) (o := exo a1 Z.c_UnknownName (some d1)) (by rw [upd_ne (Ne.symm ne)]; exact n))
    have S := S.trans e
    have E0 := e _ _ E0
    have X0 := e _ _ X0
    have E1 : upd (upd H1 d1 (exd d1 [("word", v)])) a1 (exo a1 Z.c_UnknownName (some d1)) a1 = some (exo a1 Z.c_UnknownName (some d1)) := upd_same
    have X1 : upd (upd H1 d1 (exd d1 [("word", v)])) a1 (exo a1 Z.c_UnknownName (some d1)) d1 = some (exd d1 [("word", v)]) := by rw [upd_ne ne, upd_same]
    generalize upd (upd H1 d1 (exd d1 [("word", v)])) a1 (exo a1 Z.c_UnknownName (some d1)) = H1 at S E0 X0 E1 X1 ⊢
    clear e n n' ne
    intro a2 d2 n n' ne
    have e := (Same.new (o := exd d2 [("untaken", v)]) n').trans (Same.new (p := a2) (o := exo a2 Z.c_NotTaken (some d2)) (by rw [upd_ne (Ne.symm ne)]; exact n))
    have S := S.trans e
    have E0 := e _ _ E0
    have X0 := e _ _ X0
    have E1 := e _ _ E1
    have X1 := e _ _ X1
    have E2 : upd (upd H1 d2 (exd d2 [("untaken", v)])) a2 (exo a2 Z.c_NotTaken (some d2)) a2 = some (exo a2 Z.c_NotTaken (some d2)) := upd_same
    have X2 : upd (upd H1 d2 (exd d2 [("untaken", v)])) a2 (exo a2 Z.c_NotTaken (some d2)) d2 = some (exd d2 [("untaken", v)]) := by rw [upd_ne ne, upd_same]
    generalize upd (upd H1 d2 (exd d2 [("untaken", v)])) a2 (exo a2 Z.c_NotTaken (some d2)) = H1 at S E0 X0 E1 X1 E2 X2 ⊢
    clear e n n' ne
    walk_at "go"
    intro a3 d3 n n' ne
    have e := (Same.new (o := exd d3 [("value", v)]) n').trans (Same.new (p := a3) (o := exo a3 Z.c_InvalidNumber (some d3)) (by rw [upd_ne (Ne.symm ne)]; exact n))
    have S := S.trans e
    have E0 := e _ _ E0
    have X0 := e _ _ X0
    have E1 := e _ _ E1
    have X1 := e _ _ X1
    have E2 := e _ _ E2
    have X2 := e _ _ X2
    have E3 : upd (upd H1 d3 (exd d3 [("value", v)])) a3 (exo a3 Z.c_InvalidNumber (some d3)) a3 = some (exo a3 Z.c_InvalidNumber (some d3)) := upd_same
    have X3 : upd (upd H1 d3 (exd d3 [("value", v)])) a3 (exo a3 Z.c_InvalidNumber (some d3)) d3 = some (exd d3 [("value", v)]) := by rw [upd_ne ne, upd_same]
    generalize upd (upd H1 d3 (exd d3 [("value", v)])) a3 (exo a3 Z.c_InvalidNumber (some d3)) = H1 at S E0 X0 E1 X1 E2 X2 E3 X3 ⊢
    clear e n n' ne
    intro a4 d4 n n' ne
    have e := (Same.new (o := exd d4 [("many", v)]) n').trans (Same.new (p := a4) (o := exo a4 Z.c_NothingToUndo (some d4)) (by rw [upd_ne (Ne.symm ne)]; exact n))
    have S := S.trans e
    have E0 := e _ _ E0
    have X0 := e _ _ X0
    have E1 := e _ _ E1
    have X1 := e _ _ X1
    have E2 := e _ _ E2
    have X2 := e _ _ X2
    have E3 := e _ _ E3
    have X3 := e _ _ X3
    have E4 : upd (upd H1 d4 (exd d4 [("many", v)])) a4 (exo a4 Z.c_NothingToUndo (some d4)) a4 = some (exo a4 Z.c_NothingToUndo (some d4)) := upd_same
    have X4 : upd (upd H1 d4 (exd d4 [("many", v)])) a4 (exo a4 Z.c_NothingToUndo (some d4)) d4 = some (exd d4 [("many", v)]) := by rw [upd_ne ne, upd_same]
    generalize upd (upd H1 d4 (exd d4 [("many", v)])) a4 (exo a4 Z.c_NothingToUndo (some d4)) = H1 at S E0 X0 E1 X1 E2 X2 E3 X3 E4 X4 ⊢
    clear e n n' ne
    intro a5 d5 n n' ne
    have e := (Same.new (o := exd d5 [("limit", v)]) n').trans (Same.new (p := a5) (o := exo a5 Z.c_TooMany (some d5)) (by rw [upd_ne (Ne.symm ne)]; exact n))
    have S := S.trans e
    have E0 := e _ _ E0
    have X0 := e _ _ X0
    have E1 := e _ _ E1
    have X1 := e _ _ X1
    have E2 := e _ _ E2
    have X2 := e _ _ X2
    have E3 := e _ _ E3
    have X3 := e _ _ X3
    have E4 := e _ _ E4
    have X4 := e _ _ X4
    have E5 : upd (upd H1 d5 (exd d5 [("limit", v)])) a5 (exo a5 Z.c_TooMany (some d5)) a5 = some (exo a5 Z.c_TooMany (some d5)) := upd_same
    have X5 : upd (upd H1 d5 (exd d5 [("limit", v)])) a5 (exo a5 Z.c_TooMany (some d5)) d5 = some (exd d5 [("limit", v)]) := by rw [upd_ne ne, upd_same]
    generalize upd (upd H1 d5 (exd d5 [("limit", v)])) a5 (exo a5 Z.c_TooMany (some d5)) = H1 at S E0 X0 E1 X1 E2 X2 E3 X3 E4 X4 E5 X5 ⊢
    clear e n n' ne
    walk_at "go"
    intro a6 d6 n n' ne
    have e := (Same.new (o := exd d6 [("part", v)]) n').trans (Same.new (p := a6) (o := exo a6 Z.c_Unstable (some d6)) (by rw [upd_ne (Ne.symm ne)]; exact n))
    have S := S.trans e
    have E0 := e _ _ E0
    have X0 := e _ _ X0
    have E1 := e _ _ E1
    have X1 := e _ _ X1
    have E2 := e _ _ E2
    have X2 := e _ _ X2
    have E3 := e _ _ E3
    have X3 := e _ _ X3
    have E4 := e _ _ E4
    have X4 := e _ _ X4
    have E5 := e _ _ E5
    have X5 := e _ _ X5
    have E6 : upd (upd H1 d6 (exd d6 [("part", v)])) a6 (exo a6 Z.c_Unstable (some d6)) a6 = some (exo a6 Z.c_Unstable (some d6)) := upd_same
    have X6 : upd (upd H1 d6 (exd d6 [("part", v)])) a6 (exo a6 Z.c_Unstable (some d6)) d6 = some (exd d6 [("part", v)]) := by rw [upd_ne ne, upd_same]
    generalize upd (upd H1 d6 (exd d6 [("part", v)])) a6 (exo a6 Z.c_Unstable (some d6)) = H1 at S E0 X0 E1 X1 E2 X2 E3 X3 E4 X4 E5 X5 E6 X6 ⊢
    clear e n n' ne
    intro a7 d7 n n' ne
    have e := (Same.new (o := exd d7 [("pledge", v)]) n').trans (Same.new (p := a7) (o := exo a7 Z.c_Refused (some d7)) (by rw [upd_ne (Ne.symm ne)]; exact n))
    have S := S.trans e
    have E0 := e _ _ E0
    have X0 := e _ _ X0
    have E1 := e _ _ E1
    have X1 := e _ _ X1
    have E2 := e _ _ E2
    have X2 := e _ _ X2
    have E3 := e _ _ E3
    have X3 := e _ _ X3
    have E4 := e _ _ E4
    have X4 := e _ _ X4
    have E5 := e _ _ E5
    have X5 := e _ _ X5
    have E6 := e _ _ E6
    have X6 := e _ _ X6
    have E7 : upd (upd H1 d7 (exd d7 [("pledge", v)])) a7 (exo a7 Z.c_Refused (some d7)) a7 = some (exo a7 Z.c_Refused (some d7)) := upd_same
    have X7 : upd (upd H1 d7 (exd d7 [("pledge", v)])) a7 (exo a7 Z.c_Refused (some d7)) d7 = some (exd d7 [("pledge", v)]) := by rw [upd_ne ne, upd_same]
    generalize upd (upd H1 d7 (exd d7 [("pledge", v)])) a7 (exo a7 Z.c_Refused (some d7)) = H1 at S E0 X0 E1 X1 E2 X2 E3 X3 E4 X4 E5 X5 E6 X6 E7 X7 ⊢
    clear e n n' ne
    walk_at "go"
    refine whole1 D.ParseError.k.ec T.ParseError rfl (t := "x base value ") (by decide +kernel) E0 X0 ?_
    refine xv_go rfl D.ParseError.k.xf D.ParseError.o.no E0 X0 ?_
    refine ⟨by decide, fun t0 n => ?_⟩
    have e := Same.new (o := .tup [.str "x base value ", i]) n
    have S := S.trans e
    have E0 := e _ _ E0
    have X0 := e _ _ X0
    have E1 := e _ _ E1
    have X1 := e _ _ X1
    have E2 := e _ _ E2
    have X2 := e _ _ X2
    have E3 := e _ _ E3
    have X3 := e _ _ X3
    have E4 := e _ _ E4
    have X4 := e _ _ X4
    have E5 := e _ _ E5
    have X5 := e _ _ X5
    have E6 := e _ _ E6
    have X6 := e _ _ X6
    have E7 := e _ _ E7
    have X7 := e _ _ X7
    have U0 : upd H1 t0 (.tup [.str "x base value ", i]) t0 = some (.tup [.str "x base value ", i]) := upd_same
    generalize upd H1 t0 (.tup [.str "x base value ", i]) = H1 at S E0 X0 E1 X1 E2 X2 E3 X3 E4 X4 E5 X5 E6 X6 E7 X7 U0 ⊢
    clear e n
    refine whole1 D.UnknownName.k.ec T.UnknownName rfl (t := "U key lookup ") (by decide +kernel) E1 X1 ?_
    refine xv_go rfl D.UnknownName.k.xf D.UnknownName.o.no E1 X1 ?_
    refine ⟨by decide, fun t1 n => ?_⟩
    have e := Same.new (o := .tup [.str "U key lookup ", v]) n
    have S := S.trans e
    have E0 := e _ _ E0
    have X0 := e _ _ X0
    have E1 := e _ _ E1
    have X1 := e _ _ X1
    have E2 := e _ _ E2
    have X2 := e _ _ X2
    have E3 := e _ _ E3
    have X3 := e _ _ X3
    have E4 := e _ _ E4
    have X4 := e _ _ X4
    have E5 := e _ _ E5
    have X5 := e _ _ X5
    have E6 := e _ _ E6
    have X6 := e _ _ X6
    have E7 := e _ _ E7
    have X7 := e _ _ X7
    have U0 := e _ _ U0
    have U1 : upd H1 t1 (.tup [.str "U key lookup ", v]) t1 = some (.tup [.str "U key lookup ", v]) := upd_same
    generalize upd H1 t1 (.tup [.str "U key lookup ", v]) = H1 at S E0 X0 E1 X1 E2 X2 E3 X3 E4 X4 E5 X5 E6 X6 E7 X7 U0 U1 ⊢
    clear e n
    refine ⟨by decide, fun b0 n => ?_⟩
    have e := Same.new (o := .lst [.ref t0, .ref t1]) n
    have S := S.trans e
    have E0 := e _ _ E0
    have X0 := e _ _ X0
    have E1 := e _ _ E1
    have X1 := e _ _ X1
    have E2 := e _ _ E2
    have X2 := e _ _ X2
    have E3 := e _ _ E3
    have X3 := e _ _ X3
    have E4 := e _ _ E4
    have X4 := e _ _ X4
    have E5 := e _ _ E5
    have X5 := e _ _ X5
    have E6 := e _ _ E6
    have X6 := e _ _ X6
    have E7 := e _ _ E7
    have X7 := e _ _ X7
    have U0 := e _ _ U0
    have U1 := e _ _ U1
    have L0 : upd H1 b0 (.lst [.ref t0, .ref t1]) b0 = some (.lst [.ref t0, .ref t1]) := upd_same
    generalize upd H1 b0 (.lst [.ref t0, .ref t1]) = H1 at S E0 X0 E1 X1 E2 X2 E3 X3 E4 X4 E5 X5 E6 X6 E7 X7 U0 U1 L0 ⊢
    clear e n
    walk_at "go"
    refine whole1 D.NotTaken.k.ec T.NotTaken rfl (t := "T lookup ") (by decide +kernel) E2 X2 ?_
    refine xv_go rfl D.NotTaken.k.xf D.NotTaken.o.no E2 X2 ?_
    refine ⟨by decide, fun t2 n => ?_⟩
    have e := Same.new (o := .tup [.str "T lookup ", v]) n
    have S := S.trans e
    have E0 := e _ _ E0
    have X0 := e _ _ X0
    have E1 := e _ _ E1
    have X1 := e _ _ X1
    have E2 := e _ _ E2
    have X2 := e _ _ X2
    have E3 := e _ _ E3
    have X3 := e _ _ X3
    have E4 := e _ _ E4
    have X4 := e _ _ X4
    have E5 := e _ _ E5
    have X5 := e _ _ X5
    have E6 := e _ _ E6
    have X6 := e _ _ X6
    have E7 := e _ _ E7
    have X7 := e _ _ X7
    have U0 := e _ _ U0
    have U1 := e _ _ U1
    have L0 := e _ _ L0
    have U2 : upd H1 t2 (.tup [.str "T lookup ", v]) t2 = some (.tup [.str "T lookup ", v]) := upd_same
    generalize upd H1 t2 (.tup [.str "T lookup ", v]) = H1 at S E0 X0 E1 X1 E2 X2 E3 X3 E4 X4 E5 X5 E6 X6 E7 X7 U0 U1 L0 U2 ⊢
    clear e n
    refine whole1 D.InvalidNumber.k.ec T.InvalidNumber rfl (t := "N index lookup ") (by decide +kernel) E3 X3 ?_
    refine xv_go rfl D.InvalidNumber.k.xf D.InvalidNumber.o.no E3 X3 ?_
    refine ⟨by decide, fun t3 n => ?_⟩
    have e := Same.new (o := .tup [.str "N index lookup ", v]) n
    have S := S.trans e
    have E0 := e _ _ E0
    have X0 := e _ _ X0
    have E1 := e _ _ E1
    have X1 := e _ _ X1
    have E2 := e _ _ E2
    have X2 := e _ _ X2
    have E3 := e _ _ E3
    have X3 := e _ _ X3
    have E4 := e _ _ E4
    have X4 := e _ _ X4
    have E5 := e _ _ E5
    have X5 := e _ _ X5
    have E6 := e _ _ E6
    have X6 := e _ _ X6
    have E7 := e _ _ E7
    have X7 := e _ _ X7
    have U0 := e _ _ U0
    have U1 := e _ _ U1
    have L0 := e _ _ L0
    have U2 := e _ _ U2
    have U3 : upd H1 t3 (.tup [.str "N index lookup ", v]) t3 = some (.tup [.str "N index lookup ", v]) := upd_same
    generalize upd H1 t3 (.tup [.str "N index lookup ", v]) = H1 at S E0 X0 E1 X1 E2 X2 E3 X3 E4 X4 E5 X5 E6 X6 E7 X7 U0 U1 L0 U2 U3 ⊢
    clear e n
    refine ⟨by decide, fun b1 n => ?_⟩
    have e := Same.new (o := .lst [.ref t2, .ref t3]) n
    have S := S.trans e
    have E0 := e _ _ E0
    have X0 := e _ _ X0
    have E1 := e _ _ E1
    have X1 := e _ _ X1
    have E2 := e _ _ E2
    have X2 := e _ _ X2
    have E3 := e _ _ E3
    have X3 := e _ _ X3
    have E4 := e _ _ E4
    have X4 := e _ _ X4
    have E5 := e _ _ E5
    have X5 := e _ _ X5
    have E6 := e _ _ E6
    have X6 := e _ _ X6
    have E7 := e _ _ E7
    have X7 := e _ _ X7
    have U0 := e _ _ U0
    have U1 := e _ _ U1
    have L0 := e _ _ L0
    have U2 := e _ _ U2
    have U3 := e _ _ U3
    have L1 : upd H1 b1 (.lst [.ref t2, .ref t3]) b1 = some (.lst [.ref t2, .ref t3]) := upd_same
    generalize upd H1 b1 (.lst [.ref t2, .ref t3]) = H1 at S E0 X0 E1 X1 E2 X2 E3 X3 E4 X4 E5 X5 E6 X6 E7 X7 U0 U1 L0 U2 U3 L1 ⊢
    clear e n
    refine ⟨_, L0, by simp only [List.length_cons, List.length_nil]; decide, fun p1 n => ?_⟩
    have e := Same.new (o := .lst ([.ref t0, .ref t1] ++ [.ref t2, .ref t3])) n
    have S := S.trans e
    have E0 := e _ _ E0
    have X0 := e _ _ X0
    have E1 := e _ _ E1
    have X1 := e _ _ X1
    have E2 := e _ _ E2
    have X2 := e _ _ X2
    have E3 := e _ _ E3
    have X3 := e _ _ X3
    have E4 := e _ _ E4
    have X4 := e _ _ X4
    have E5 := e _ _ E5
    have X5 := e _ _ X5
    have E6 := e _ _ E6
    have X6 := e _ _ X6
    have E7 := e _ _ E7
    have X7 := e _ _ X7
    have U0 := e _ _ U0
    have U1 := e _ _ U1
    have L0 := e _ _ L0
    have U2 := e _ _ U2
    have U3 := e _ _ U3
    have L1 := e _ _ L1
    have M1 : upd H1 p1 (.lst ([.ref t0, .ref t1] ++ [.ref t2, .ref t3])) p1 = some (.lst [.ref t0, .ref t1, .ref t2, .ref t3]) := upd_same
    generalize upd H1 p1 (.lst ([.ref t0, .ref t1] ++ [.ref t2, .ref t3])) = H1 at S E0 X0 E1 X1 E2 X2 E3 X3 E4 X4 E5 X5 E6 X6 E7 X7 U0 U1 L0 U2 U3 L1 M1 ⊢
    clear e n
    walk_at "go"
    refine whole1 D.NothingToUndo.k.ec T.NothingToUndo rfl (t := "Z runtime ") (by decide +kernel) E4 X4 ?_
    refine xv_go rfl D.NothingToUndo.k.xf D.NothingToUndo.o.no E4 X4 ?_
    refine ⟨by decide, fun t4 n => ?_⟩
    have e := Same.new (o := .tup [.str "Z runtime ", v]) n
    have S := S.trans e
    have E0 := e _ _ E0
    have X0 := e _ _ X0
    have E1 := e _ _ E1
    have X1 := e _ _ X1
    have E2 := e _ _ E2
    have X2 := e _ _ X2
    have E3 := e _ _ E3
    have X3 := e _ _ X3
    have E4 := e _ _ E4
    have X4 := e _ _ X4
    have E5 := e _ _ E5
    have X5 := e _ _ X5
    have E6 := e _ _ E6
    have X6 := e _ _ X6
    have E7 := e _ _ E7
    have X7 := e _ _ X7
    have U0 := e _ _ U0
    have U1 := e _ _ U1
    have L0 := e _ _ L0
    have U2 := e _ _ U2
    have U3 := e _ _ U3
    have L1 := e _ _ L1
    have M1 := e _ _ M1
    have U4 : upd H1 t4 (.tup [.str "Z runtime ", v]) t4 = some (.tup [.str "Z runtime ", v]) := upd_same
    generalize upd H1 t4 (.tup [.str "Z runtime ", v]) = H1 at S E0 X0 E1 X1 E2 X2 E3 X3 E4 X4 E5 X5 E6 X6 E7 X7 U0 U1 L0 U2 U3 L1 M1 U4 ⊢
    clear e n
    refine whole1 D.TooMany.k.ec T.TooMany rfl (t := "M overflow arithmetic ") (by decide +kernel) E5 X5 ?_
    refine xv_go rfl D.TooMany.k.xf D.TooMany.o.no E5 X5 ?_
    refine ⟨by decide, fun t5 n => ?_⟩
    have e := Same.new (o := .tup [.str "M overflow arithmetic ", v]) n
    have S := S.trans e
    have E0 := e _ _ E0
    have X0 := e _ _ X0
    have E1 := e _ _ E1
    have X1 := e _ _ X1
    have E2 := e _ _ E2
    have X2 := e _ _ X2
    have E3 := e _ _ E3
    have X3 := e _ _ X3
    have E4 := e _ _ E4
    have X4 := e _ _ X4
    have E5 := e _ _ E5
    have X5 := e _ _ X5
    have E6 := e _ _ E6
    have X6 := e _ _ X6
    have E7 := e _ _ E7
    have X7 := e _ _ X7
    have U0 := e _ _ U0
    have U1 := e _ _ U1
    have L0 := e _ _ L0
    have U2 := e _ _ U2
    have U3 := e _ _ U3
    have L1 := e _ _ L1
    have M1 := e _ _ M1
    have U4 := e _ _ U4
    have U5 : upd H1 t5 (.tup [.str "M overflow arithmetic ", v]) t5 = some (.tup [.str "M overflow arithmetic ", v]) := upd_same
    generalize upd H1 t5 (.tup [.str "M overflow arithmetic ", v]) = H1 at S E0 X0 E1 X1 E2 X2 E3 X3 E4 X4 E5 X5 E6 X6 E7 X7 U0 U1 L0 U2 U3 L1 M1 U4 U5 ⊢
    clear e n
    refine ⟨by decide, fun b2 n => ?_⟩
    have e := Same.new (o := .lst [.ref t4, .ref t5]) n
    have S := S.trans e
    have E0 := e _ _ E0
    have X0 := e _ _ X0
    have E1 := e _ _ E1
    have X1 := e _ _ X1
    have E2 := e _ _ E2
    have X2 := e _ _ X2
    have E3 := e _ _ E3
    have X3 := e _ _ X3
    have E4 := e _ _ E4
    have X4 := e _ _ X4
    have E5 := e _ _ E5
    have X5 := e _ _ X5
    have E6 := e _ _ E6
    have X6 := e _ _ X6
    have E7 := e _ _ E7
    have X7 := e _ _ X7
    have U0 := e _ _ U0
    have U1 := e _ _ U1
    have L0 := e _ _ L0
    have U2 := e _ _ U2
    have U3 := e _ _ U3
    have L1 := e _ _ L1
    have M1 := e _ _ M1
    have U4 := e _ _ U4
    have U5 := e _ _ U5
    have L2 : upd H1 b2 (.lst [.ref t4, .ref t5]) b2 = some (.lst [.ref t4, .ref t5]) := upd_same
    generalize upd H1 b2 (.lst [.ref t4, .ref t5]) = H1 at S E0 X0 E1 X1 E2 X2 E3 X3 E4 X4 E5 X5 E6 X6 E7 X7 U0 U1 L0 U2 U3 L1 M1 U4 U5 L2 ⊢
    clear e n
    refine ⟨_, M1, by simp only [List.length_cons, List.length_nil]; decide, fun p2 n => ?_⟩
    have e := Same.new (o := .lst ([.ref t0, .ref t1, .ref t2, .ref t3] ++ [.ref t4, .ref t5])) n
    have S := S.trans e
    have E0 := e _ _ E0
    have X0 := e _ _ X0
    have E1 := e _ _ E1
    have X1 := e _ _ X1
    have E2 := e _ _ E2
    have X2 := e _ _ X2
    have E3 := e _ _ E3
    have X3 := e _ _ X3
    have E4 := e _ _ E4
    have X4 := e _ _ X4
    have E5 := e _ _ E5
    have X5 := e _ _ X5
    have E6 := e _ _ E6
    have X6 := e _ _ X6
    have E7 := e _ _ E7
    have X7 := e _ _ X7
    have U0 := e _ _ U0
    have U1 := e _ _ U1
    have L0 := e _ _ L0
    have U2 := e _ _ U2
    have U3 := e _ _ U3
    have L1 := e _ _ L1
    have M1 := e _ _ M1
    have U4 := e _ _ U4
    have U5 := e _ _ U5
    have L2 := e _ _ L2
    have M2 : upd H1 p2 (.lst ([.ref t0, .ref t1, .ref t2, .ref t3] ++ [.ref t4, .ref t5])) p2 = some (.lst [.ref t0, .ref t1, .ref t2, .ref t3, .ref t4, .ref t5]) := upd_same
    generalize upd H1 p2 (.lst ([.ref t0, .ref t1, .ref t2, .ref t3] ++ [.ref t4, .ref t5])) = H1 at S E0 X0 E1 X1 E2 X2 E3 X3 E4 X4 E5 X5 E6 X6 E7 X7 U0 U1 L0 U2 U3 L1 M1 U4 U5 L2 M2 ⊢
    clear e n
    walk_at "go"
    refine whole1 D.Unstable.k.ec T.Unstable rfl (t := "S arithmetic ") (by decide +kernel) E6 X6 ?_
    refine xv_go rfl D.Unstable.k.xf D.Unstable.o.no E6 X6 ?_
    refine ⟨by decide, fun t6 n => ?_⟩
    have e := Same.new (o := .tup [.str "S arithmetic ", v]) n
    have S := S.trans e
    have E0 := e _ _ E0
    have X0 := e _ _ X0
    have E1 := e _ _ E1
    have X1 := e _ _ X1
    have E2 := e _ _ E2
    have X2 := e _ _ X2
    have E3 := e _ _ E3
    have X3 := e _ _ X3
    have E4 := e _ _ E4
    have X4 := e _ _ X4
    have E5 := e _ _ E5
    have X5 := e _ _ X5
    have E6 := e _ _ E6
    have X6 := e _ _ X6
    have E7 := e _ _ E7
    have X7 := e _ _ X7
    have U0 := e _ _ U0
    have U1 := e _ _ U1
    have L0 := e _ _ L0
    have U2 := e _ _ U2
    have U3 := e _ _ U3
    have L1 := e _ _ L1
    have M1 := e _ _ M1
    have U4 := e _ _ U4
    have U5 := e _ _ U5
    have L2 := e _ _ L2
    have M2 := e _ _ M2
    have U6 : upd H1 t6 (.tup [.str "S arithmetic ", v]) t6 = some (.tup [.str "S arithmetic ", v]) := upd_same
    generalize upd H1 t6 (.tup [.str "S arithmetic ", v]) = H1 at S E0 X0 E1 X1 E2 X2 E3 X3 E4 X4 E5 X5 E6 X6 E7 X7 U0 U1 L0 U2 U3 L1 M1 U4 U5 L2 M2 U6 ⊢
    clear e n
    refine whole1 D.Refused.k.ec T.Refused rfl (t := "R arithmetic ") (by decide +kernel) E7 X7 ?_
    refine xv_go rfl D.Refused.k.xf D.Refused.o.no E7 X7 ?_
    refine ⟨by decide, fun t7 n => ?_⟩
    have e := Same.new (o := .tup [.str "R arithmetic ", v]) n
    have S := S.trans e
    have E0 := e _ _ E0
    have X0 := e _ _ X0
    have E1 := e _ _ E1
    have X1 := e _ _ X1
    have E2 := e _ _ E2
    have X2 := e _ _ X2
    have E3 := e _ _ E3
    have X3 := e _ _ X3
    have E4 := e _ _ E4
    have X4 := e _ _ X4
    have E5 := e _ _ E5
    have X5 := e _ _ X5
    have E6 := e _ _ E6
    have X6 := e _ _ X6
    have E7 := e _ _ E7
    have X7 := e _ _ X7
    have U0 := e _ _ U0
    have U1 := e _ _ U1
    have L0 := e _ _ L0
    have U2 := e _ _ U2
    have U3 := e _ _ U3
    have L1 := e _ _ L1
    have M1 := e _ _ M1
    have U4 := e _ _ U4
    have U5 := e _ _ U5
    have L2 := e _ _ L2
    have M2 := e _ _ M2
    have U6 := e _ _ U6
    have U7 : upd H1 t7 (.tup [.str "R arithmetic ", v]) t7 = some (.tup [.str "R arithmetic ", v]) := upd_same
    generalize upd H1 t7 (.tup [.str "R arithmetic ", v]) = H1 at S E0 X0 E1 X1 E2 X2 E3 X3 E4 X4 E5 X5 E6 X6 E7 X7 U0 U1 L0 U2 U3 L1 M1 U4 U5 L2 M2 U6 U7 ⊢
    clear e n
    refine ⟨by decide, fun b3 n => ?_⟩
    have e := Same.new (o := .lst [.ref t6, .ref t7]) n
    have S := S.trans e
    have E0 := e _ _ E0
    have X0 := e _ _ X0
    have E1 := e _ _ E1
    have X1 := e _ _ X1
    have E2 := e _ _ E2
    have X2 := e _ _ X2
    have E3 := e _ _ E3
    have X3 := e _ _ X3
    have E4 := e _ _ E4
    have X4 := e _ _ X4
    have E5 := e _ _ E5
    have X5 := e _ _ X5
    have E6 := e _ _ E6
    have X6 := e _ _ X6
    have E7 := e _ _ E7
    have X7 := e _ _ X7
    have U0 := e _ _ U0
    have U1 := e _ _ U1
    have L0 := e _ _ L0
    have U2 := e _ _ U2
    have U3 := e _ _ U3
    have L1 := e _ _ L1
    have M1 := e _ _ M1
    have U4 := e _ _ U4
    have U5 := e _ _ U5
    have L2 := e _ _ L2
    have M2 := e _ _ M2
    have U6 := e _ _ U6
    have U7 := e _ _ U7
    have L3 : upd H1 b3 (.lst [.ref t6, .ref t7]) b3 = some (.lst [.ref t6, .ref t7]) := upd_same
    generalize upd H1 b3 (.lst [.ref t6, .ref t7]) = H1 at S E0 X0 E1 X1 E2 X2 E3 X3 E4 X4 E5 X5 E6 X6 E7 X7 U0 U1 L0 U2 U3 L1 M1 U4 U5 L2 M2 U6 U7 L3 ⊢
    clear e n
    refine ⟨_, M2, by simp only [List.length_cons, List.length_nil]; decide, fun p3 np n => ?_⟩
    have e := Same.new (o := .lst ([.ref t0, .ref t1, .ref t2, .ref t3, .ref t4, .ref t5] ++ [.ref t6, .ref t7])) n
    have S := S.trans e
    have E0 := e _ _ E0
    have X0 := e _ _ X0
    have E1 := e _ _ E1
    have X1 := e _ _ X1
    have E2 := e _ _ E2
    have X2 := e _ _ X2
    have E3 := e _ _ E3
    have X3 := e _ _ X3
    have E4 := e _ _ E4
    have X4 := e _ _ X4
    have E5 := e _ _ E5
    have X5 := e _ _ X5
    have E6 := e _ _ E6
    have X6 := e _ _ X6
    have E7 := e _ _ E7
    have X7 := e _ _ X7
    have U0 := e _ _ U0
    have U1 := e _ _ U1
    have L0 := e _ _ L0
    have U2 := e _ _ U2
    have U3 := e _ _ U3
    have L1 := e _ _ L1
    have M1 := e _ _ M1
    have U4 := e _ _ U4
    have U5 := e _ _ U5
    have L2 := e _ _ L2
    have M2 := e _ _ M2
    have U6 := e _ _ U6
    have U7 := e _ _ U7
    have L3 := e _ _ L3
    have M3 : upd H1 p3 (.lst ([.ref t0, .ref t1, .ref t2, .ref t3, .ref t4, .ref t5] ++ [.ref t6, .ref t7])) p3 = some (.lst [.ref t0, .ref t1, .ref t2, .ref t3, .ref t4, .ref t5, .ref t6, .ref t7]) := upd_same
    generalize upd H1 p3 (.lst ([.ref t0, .ref t1, .ref t2, .ref t3, .ref t4, .ref t5] ++ [.ref t6, .ref t7])) = H1 at S E0 X0 E1 X1 E2 X2 E3 X3 E4 X4 E5 X5 E6 X6 E7 X7 U0 U1 L0 U2 U3 L1 M1 U4 U5 L2 M2 U6 U7 L3 M3 ⊢
    clear e n
    exact q _ _ np S ⟨[t0, t1, t2, t3, t4, t5, t6, t7], M3, .cons U0 (.cons U1 (.cons U2 (.cons U3 (.cons U4 (.cons U5 (.cons U6 (.cons U7 .nil)))))))⟩
end
/-! ### errors that are caught -/
section
variable {P : Program} {w : World} {K : PySem.W.Frag} {mg : Str → Option Value} {base : Heap} {Z : Ad}
/-- data that can be shown shortly -/
structure Shw (H : Hp) (v : V) (d : PyData) : Prop where
  dd : Dd (d.hasDict = true) H v d
  sh : d.showable = true
  dp : d.depth ≤ 20
  ln : d.shown.length ≤ 1000
  lv : d.leavesShort 100 = true
  wt : d.weight ≤ 2000
theorem Shw.same {H H' : Hp} {v : V} {d : PyData} (h : Shw H v d) (e : Same H H') : Shw H' v d := ⟨Dd.same e _ _ h.dd, h.sh, h.dp, h.ln, h.lv, h.wt⟩
theorem wCl_no {Wout : WX} {D : Ends} {c cls : Value} {d : Option Addr} {i : Nat} {ts : Ts3} {r : List (Value × Option Nat × Ts3)} {σ : St} {H : Hp}
    (h : PySem.W.exmOne K cls c = some false) (q : wCl K Wout D r cls d σ H) : wCl K Wout D ((c, some i, ts) :: r) cls d σ H :=
  ⟨false, h, fun z => Bool.noConfusion z, fun _ => q⟩
theorem wCl_yes {Wout : WX} {D : Ends} {c cls : Value} {d : Option Addr} {i : Nat} {ts : Ts3} {r : List (Value × Option Nat × Ts3)} {σ : St} {H : Hp}
    (h : PySem.W.exmOne K cls c = some true) (q : ∀ a, H a = none → ts a cls d (Ends.off D i) (σ.set i (some (.ref a))) H) : wCl K Wout D ((c, some i, ts) :: r) cls d σ H :=
  ⟨true, h, fun _ => q, fun z => Bool.noConfusion z⟩
def caughtT (x : Int) (d : PyData) : Str := if x = 0 then "base c" else if x = 1 then "unstable " ++ d.shown else if x = 2 then "untaken " ++ d.shown else "parse None"
def spCaught : Sp := fun vs H Q _ => ∃ x v d, vs = [.int x, v] ∧ Shw H v d ∧ ∀ H', Same H H' → Q (.str (caughtT x d)) H'
theorem ok_caught (D : Ds K mg Z) (B : Bt mg) (T : Tb K Z) : FnG P w K mg base CX0 4 Z.a_caught Z.d_caught P_caught spCaught := by
  have GP_own := okP_own (P := P) (w := w) (base := base) D B
  have G_ParseError := G_ParseError (P := P) (w := w) (base := base) D
  have G_NotTaken := G_NotTaken (P := P) (w := w) (base := base) D
  have G_Unstable := G_Unstable (P := P) (w := w) (base := base) D
  have e1 := T.x_InvalidCosts
  have e2 := T.x_Unstable
  have e3 := T.x_NotTaken
  have e4 := T.x_ParseError
  simp only [List.map_cons, List.map_nil, List.cons.injEq, and_true] at e1 e2 e3 e4
  refine okG D.caught.F sc_caught (fun vs H Q E h => ?_) (fun cdv A outer s H vs Q E gd hr h => ?_)
  · obtain ⟨x, v, d, rfl, _⟩ := h
    rfl
  · obtain ⟨x, v, dv, rfl, hs, q⟩ := h
    refine ⟨_, (pss_one (ps_try3 rfl rfl takes_none5 (fun W pn xe tk _ => (pss_cons (ps_if (pt_cmpR op_eq (pv 0) pe_int (nomark _)) (pss_one (ps_raise rfl tk (pmk_new0 D.InvalidCosts (by rfl)))) pss_nil)
    (pss_cons (ps_if (pt_cmpR op_eq (pv 0) pe_int (nomark _)) (pss_one (ps_raise rfl tk (pmk_new1 D.Unstable G_Unstable (hr.mono (by decide)) (by rfl) (pa_cons (pv 1) pa_nil)))) pss_nil)
    (pss_cons (ps_if (pt_cmpR op_eq (pv 0) pe_int (nomark _)) (pss_one (ps_raise rfl tk (pmk_new1 D.NotTaken G_NotTaken (hr.mono (by decide)) (by rfl) (pa_cons (pv 1) pa_nil)))) pss_nil)
    (pss_one (ps_raise rfl tk (pmk_new1 D.ParseError G_ParseError (hr.mono (by decide)) (by rfl) (pa_cons pe_non pa_nil))))))))
      (Cls3.named (i := 2) sc_caught.nd rfl rfl ⟨by rfl, by decide, .inl D.ParseError.g⟩ (fun a oe cls d pn hz hf => (pss_one (ps_ret (pe_op op_add_str pe_str (pe_callB (call_reprZ gd hr.units) (by rfl) B.repr (by decide +kernel) (pa_cons (pe_xf (C := Z.c_ParseError) D.ParseError.k.xf D.ParseError.o.no hz hf (pv 2)) pa_nil))))))
      (Cls3.named (i := 2) sc_caught.nd rfl rfl ⟨by rfl, by decide, .inl D.PriceError.g⟩ (fun a oe cls d pn hz hf => (pss_one (ps_ret (pe_op op_add_str pe_str (pe_dfP (a := a) (oe := oe) (c := cls) (d := d) D.own GP_own gd ⟨(Room.mono (j := 1) hr (by decide)).dp, (Room.mono (j := 1) hr (by decide)).un⟩ List.mem_cons_self hz hf (by rfl) (pa_cons (pv 2) pa_nil))))))
      (Cls3.named (i := 2) sc_caught.nd rfl rfl ⟨by rfl, by decide, .inl D.Refused.g⟩ (fun a oe cls d pn hz hf => (pss_one (ps_ret (pe_op op_add_str pe_str (pe_callB (call_reprZ gd hr.units) (by rfl) B.repr (by decide +kernel) (pa_cons (pe_xf (C := Z.c_Refused) D.Refused.k.xf D.Refused.o.no hz hf (pv 2)) pa_nil))))))
      (Cls3.named (i := 2) sc_caught.nd rfl rfl ⟨by rfl, by decide, .inl D.Unstable.g⟩ (fun a oe cls d pn hz hf => (pss_one (ps_ret (pe_op op_add_str pe_str (pe_callB (call_reprZ gd hr.units) (by rfl) B.repr (by decide +kernel) (pa_cons (pe_xf (C := Z.c_Unstable) D.Unstable.k.xf D.Unstable.o.no hz hf (pv 2)) pa_nil))))))
      (Cls3.named (i := 2) sc_caught.nd rfl rfl ⟨by rfl, by decide, .inl D.NotTaken.g⟩ (fun a oe cls d pn hz hf => (pss_one (ps_ret (pe_op op_add_str pe_str (pe_callB (call_reprZ gd hr.units) (by rfl) B.repr (by decide +kernel) (pa_cons (pe_xf (C := Z.c_NotTaken) D.NotTaken.k.xf D.NotTaken.o.no hz hf (pv 2)) pa_nil))))))
      Cls3.nil))))))), ?_⟩
    have hl := hs.ln
    have hdp := hs.dp
    walk_at "rd"
    refine ⟨rfl, ite2 (fun h0 => ?_) (fun h0 => ?_)⟩
    · refine later ?_
      refine wCl_no e1.1 (wCl_yes e1.2 (fun a n => ?_))
      walk_at "rd"
      refine ⟨_, rowB _, rfl, rfl, rfl, D.InvalidCosts.k.ec, ans_row T.InvalidCosts rfl, _, rfl, by decide, ?_⟩
      have q' := q H (Same.refl H)
      rw [show caughtT x dv = "base c" from if_pos (of_decide_eq_true h0)] at q'
      exact q'
    walk_at "go"
    walk_at "go"
    refine ⟨rfl, ite2 (fun h1 => ?_) (fun h1 => ?_)⟩
    · walk_at "go"
      intro d n
      refine wCl_no e2.1 (wCl_no e2.2.1 (wCl_no e2.2.2.1 (wCl_yes e2.2.2.2 (fun a n' => ?_))))
      walk_at "rd"
      refine ⟨dv, (hs.same (Same.new n)).dd, hs.sh, by omega, by rw [sizeLine_eq]; omega, ?_, ?_⟩
      · rw [sizeLine_eq, show (Str.ofString "unstable ").length = 9 from rfl]
        omega
      have q' := q _ (Same.new (o := .xd [("part", v)]) n)
      rw [show caughtT x dv = "unstable " ++ dv.shown from (if_neg (by simpa using h0)).trans (if_pos (of_decide_eq_true h1))] at q'
      exact q'
    walk_at "go"
    walk_at "go"
    refine ⟨rfl, ite2 (fun h2 => ?_) (fun h2 => ?_)⟩
    · walk_at "go"
      intro d n
      refine wCl_no e3.1 (wCl_no e3.2.1 (wCl_no e3.2.2.1 (wCl_no e3.2.2.2.1 (wCl_yes e3.2.2.2.2 (fun a n' => ?_)))))
      walk_at "rd"
      refine ⟨dv, (hs.same (Same.new n)).dd, hs.sh, by omega, by rw [sizeLine_eq]; omega, ?_, ?_⟩
      · rw [sizeLine_eq, show (Str.ofString "untaken ").length = 8 from rfl]
        omega
      have q' := q _ (Same.new (o := .xd [("untaken", v)]) n)
      rw [show caughtT x dv = "untaken " ++ dv.shown from (if_neg (by simpa using h0)).trans ((if_neg (by simpa using h1)).trans (if_pos (of_decide_eq_true h2)))] at q'
      exact q'
    walk_at "go"
    walk_at "go"
    intro d n
    refine wCl_yes e4 (fun a n' => ?_)
    walk_at "rd"
    refine ⟨.none, .non, rfl, by decide, by decide, by decide, ?_⟩
    have q' := q _ (Same.new (o := .xd [("number", .non)]) n)
    rw [show caughtT x dv = "parse None" from (if_neg (by simpa using h0)).trans ((if_neg (by simpa using h1)).trans (if_neg (by simpa using h2)))] at q'
    exact q'
end
/-! ### a turn of the law -/
section
variable {P : Program} {w : World} {K : PySem.W.Frag} {mg : Str → Option Value} {base : Heap} {Z : Ad}
def DK (d : Addr) (H H' : Hp) : Prop := (∀ b o, b ≠ d → H b = some o → H' b = some o) ∧ ∃ x y z : Int, H' d = some (.lst [.int x, .int y, .int z])
theorem DK.refl {d : Addr} {H : Hp} {x y z : Int} (h : H d = some (.lst [.int x, .int y, .int z])) : DK d H H := ⟨fun _ _ _ e => e, x, y, z, h⟩
theorem DK.roll {d : Addr} {H H' : Hp} (k : DK d H H') (x y z : Int) : DK d H (upd H' d (.lst [.int x, .int y, .int z])) :=
  ⟨fun b o hb e => by rw [upd_ne hb]; exact k.1 b o hb e, x, y, z, upd_same⟩
theorem DK.new {d : Addr} {H H' : Hp} (k : DK d H H') {p : Addr} {o : HO} (hp : H' p = none) : DK d H (upd H' p o) := by
  obtain ⟨k1, x, y, z, k2⟩ := k
  refine ⟨fun b u hb e => ?_, x, y, z, ?_⟩
  · rw [upd_ne (ne_of_none (k1 b u hb e) hp)]
    exact k1 b u hb e
  · rw [upd_ne (ne_of_none k2 hp)]
    exact k2
/-- an object that was not there may change -/
theorem DK.mut {d : Addr} {H H' : Hp} (k : DK d H H') {p : Addr} {o : HO} (hp : H p = none) (hd : p ≠ d) : DK d H (upd H' p o) := by
  obtain ⟨k1, x, y, z, k2⟩ := k
  refine ⟨fun b u hb e => ?_, x, y, z, ?_⟩
  · rw [upd_ne (ne_of_none e hp)]
    exact k1 b u hb e
  · rw [upd_ne hd.symm]
    exact k2
theorem DK.trans {d : Addr} {H H1 H2 : Hp} (a : DK d H H1) (b : DK d H1 H2) : DK d H H2 := ⟨fun c o hc e => b.1 c o hc (a.1 c o hc e), b.2⟩
theorem DK.free {d : Addr} {H H' : Hp} (k : DK d H H') {p : Addr} (hd : p ≠ d) (h : H' p = none) : H p = none := by
  cases e : H p with
  | none => rfl
  | some o =>
    rw [k.1 p o hd e] at h
    cases h
theorem DK.ne {d : Addr} {H H' : Hp} (k : DK d H H') {p : Addr} (h : H' p = none) : p ≠ d := by
  obtain ⟨_, x, y, z, k2⟩ := k
  intro e
  rw [e, k2] at h
  cases h
theorem sgn_len {z : Str} {v : V} (h : v ∈ z.cps.toList.map fun c => V.str ⟨#[c]⟩) : ∃ x : Str, v = .str x ∧ x.length = 1 := by
  obtain ⟨c, _, rfl⟩ := List.mem_map.mp h
  exact ⟨⟨#[c]⟩, rfl, rfl⟩

theorem DK.same {d : Addr} {H H1 H2 : Hp} (k : DK d H H1) (e : Same H1 H2) : DK d H H2 := by
  obtain ⟨h1, x, y, z, h2⟩ := k
  exact ⟨fun b o hb q => e _ _ (h1 b o hb q), x, y, z, e _ _ h2⟩
theorem same3 {H : Hp} {p r : Addr} {o1 o2 o3 : HO} (n : H p = none) (m : upd H p o1 r = none) :
    Same H (upd (upd (upd H p o1) r o2) p o3) ∧ p ≠ r ∧ (upd (upd (upd H p o1) r o2) p o3) p = some o3 ∧ (upd (upd (upd H p o1) r o2) p o3) r = some o2 := by
  have h := upd_none.mp m
  refine ⟨?_, Ne.symm h.1, upd_same, ?_⟩
  · intro b o e
    rw [upd_ne (ne_of_none e n), upd_ne (ne_of_none e h.2), upd_ne (ne_of_none e n)]
    exact e
  · rw [upd_ne h.1, upd_same]
theorem cpow45 : CPow 10 45 := ⟨by decide, by decide, by decide⟩
theorem mul45 : CMulW (10 ^ Int.toNat 45) (10 ^ Int.toNat 45) := wide_mul (a := 200) (b := 200) (by decide) (by decide) (by decide) (by decide) (by decide)
structure S9 (d : Addr) (H B Hc : Hp) : Prop where
  k : DK d H Hc
  b : Same B Hc
theorem S9.roll {d : Addr} {H B Hc : Hp} (s : S9 d H B Hc) (hB : B d = none) (x y z : Int) : S9 d H B (upd Hc d (.lst [.int x, .int y, .int z])) :=
  ⟨s.k.roll x y z, fun b o e => by rw [upd_ne (ne_of_none e hB)]; exact s.b b o e⟩
theorem S9.same {d : Addr} {H B Hc H2 : Hp} (s : S9 d H B Hc) (e : Same Hc H2) : S9 d H B H2 := ⟨s.k.same e, s.b.trans e⟩
theorem shown_int {r : Int} (h0 : 0 ≤ r) (h1 : r < 10 ^ 100) : (PyData.int r).shown.length ≤ 100 := by
  show (Str.ofString (toString r)).length ≤ 100
  rw [len_tl', tl_int, if_neg (by omega)]
  refine (numL_le (by decide)).mpr ?_
  have e : ((10 : Int) ^ 100) = ((10 ^ 100 : Nat) : Int) := by norm_cast
  omega
def odds (o1 o3 o4 o8 : Addr) : List V := [.non, .bl true, .int (-7), .int (10 ^ Int.toNat 45 * 10 ^ Int.toNat 45), .str "", .str "b(a)#", .ref o1, .ref o3, .ref o4, .ref o8]
theorem odd_shw {B : Hp} {o1 o2 o3 o4 o5 o6 o7 o8 : Addr} (O1 : B o1 = some (.tup [.str "links", .str "put"])) (O2 : B o2 = some (.lst [.int 2])) (O3 : B o3 = some (.lst [.int 1, .ref o2]))
    (O4 : B o4 = some (.dK [(.inr "a", .ref o5)])) (O5 : B o5 = some (.tup [])) (O6 : B o6 = some (.tup [.str "a"])) (O7 : B o7 = some (.tup [.ref o6])) (O8 : B o8 = some (.tup [.ref o7])) :
    ∀ v, v ∈ odds o1 o3 o4 o8 → ∃ dv, Shw B v dv ∧ PyData.strOk ("unstable " ++ dv.shown) = true ∧ PyData.strOk ("untaken " ++ dv.shown) = true := by
  intro v hv
  simp only [odds, List.mem_cons, List.not_mem_nil, or_false] at hv
  rcases hv with rfl | rfl | rfl | rfl | rfl | rfl | rfl | rfl | rfl | rfl
  · exact ⟨_, ⟨.non, by decide +kernel, by decide +kernel, by decide +kernel, by decide +kernel, by decide +kernel⟩, by decide +kernel, by decide +kernel⟩
  · exact ⟨_, ⟨.bl _, by decide +kernel, by decide +kernel, by decide +kernel, by decide +kernel, by decide +kernel⟩, by decide +kernel, by decide +kernel⟩
  · exact ⟨_, ⟨.int _, by decide +kernel, by decide +kernel, by decide +kernel, by decide +kernel, by decide +kernel⟩, by decide +kernel, by decide +kernel⟩
  · exact ⟨_, ⟨.int _, by decide +kernel, by decide +kernel, by decide +kernel, by decide +kernel, by decide +kernel⟩, by decide +kernel, by decide +kernel⟩
  · exact ⟨_, ⟨.str _, by decide +kernel, by decide +kernel, by decide +kernel, by decide +kernel, by decide +kernel⟩, by decide +kernel, by decide +kernel⟩
  · exact ⟨_, ⟨.str _, by decide +kernel, by decide +kernel, by decide +kernel, by decide +kernel, by decide +kernel⟩, by decide +kernel, by decide +kernel⟩
  · exact ⟨_, ⟨.tup O1 (.cons (.str _) (.cons (.str _) .nil)), by decide +kernel, by decide +kernel, by decide +kernel, by decide +kernel, by decide +kernel⟩, by decide +kernel, by decide +kernel⟩
  · exact ⟨.list [.int 1, .list [.int 2]], ⟨.lst O3 (fun h => absurd h (by decide +kernel)) (.cons (.int _) (.cons (.lst O2 (fun h => absurd h (by decide +kernel)) (.cons (.int _) .nil)) .nil)), by decide +kernel, by decide +kernel, by decide +kernel, by decide +kernel, by decide +kernel⟩, by decide +kernel, by decide +kernel⟩
  · exact ⟨.dict [(.str "a", .tuple [])], ⟨.dct O4 (.cons (.tup O5 .nil) .nil) rfl rfl, by decide +kernel, by decide +kernel, by decide +kernel, by decide +kernel, by decide +kernel⟩, by decide +kernel, by decide +kernel⟩
  · exact ⟨_, ⟨.tup O8 (.cons (.tup O7 (.cons (.tup O6 (.cons (.str _) .nil)) .nil)) .nil), by decide +kernel, by decide +kernel, by decide +kernel, by decide +kernel, by decide +kernel⟩, by decide +kernel, by decide +kernel⟩
theorem idx_shw {Bh : Hp} {r : Int} (r0 : 0 ≤ r) (r1 : r < 10 ^ Int.toNat 30) : ∀ v, v ∈ [V.non, V.int 0, V.int 1, V.int r] → ∃ dv, Shw Bh v dv ∧ dv.hasDict = false ∧ ∀ z, Dd z Bh v dv := by
  intro v hv
  simp only [List.mem_cons, List.not_mem_nil, or_false] at hv
  rcases hv with rfl | rfl | rfl | rfl
  · exact ⟨_, ⟨.non, by decide +kernel, by decide +kernel, by decide +kernel, by decide +kernel, by decide +kernel⟩, rfl, fun _ => .non⟩
  · exact ⟨_, ⟨.int _, by decide +kernel, by decide +kernel, by decide +kernel, by decide +kernel, by decide +kernel⟩, rfl, fun _ => .int _⟩
  · exact ⟨_, ⟨.int _, by decide +kernel, by decide +kernel, by decide +kernel, by decide +kernel, by decide +kernel⟩, rfl, fun _ => .int _⟩
  · have e : (10 : Int) ^ Int.toNat 30 = 1000000000000000000000000000000 := by decide
    rw [e] at r1
    have lg : r.natAbs.log2 < 100 := by
      refine log2_of (k := 100) ?_ (by decide)
      have e2 : (2 : Nat) ^ 100 = 1267650600228229401496703205376 := by decide
      omega
    have h := shown_int r0 (show r < 10 ^ 100 from Int.lt_trans r1 (by decide))
    refine ⟨_, ⟨.int _, ?_, ?_, ?_, ?_, ?_⟩, rfl, fun _ => .int _⟩
    · exact decide_eq_true (Nat.lt_of_lt_of_le lg (by decide))
    · show 0 ≤ 20
      omega
    · omega
    · exact decide_eq_true h
    · show (if r == 0 then 0 else r.natAbs.log2 + 1) ≤ 2000
      split <;> omega
def msgD : List PyData := [.str "m base value ", .str "t base value ", .str "p base value ", .str "s base value ", .str "c base value ", .str "r base value ", .str "q base value ", .str "o base value ", .str " base value "]
theorem msg_dp {H : Hp} {p : Addr} (h : H p = some (.lst msgT)) : Dp K H (.ref p) (.list msgD) :=
  .lst (SqL.of h) (.cons (.str _) (.cons (.str _) (.cons (.str _) (.cons (.str _) (.cons (.str _) (.cons (.str _) (.cons (.str _) (.cons (.str _) (.cons (.str _) .nil)))))))))
def sfx : V → V
  | .str y => .str (y ++ " base value ")
  | _ => .non
theorem sfx_all : (LP.signs "mtpscrqo").map sfx ++ [.str " base value "] = msgT := by kernel_rfl
/-- a list of pairs, as data -/
theorem rows_dd {z : Prop} {H : Hp} {p : Addr} {rows : List (Str × V)} (h : Rows H p rows) (hp : z → p ≠ sysModules) {ds : List PyData} (hd : DdA z H (rows.map (·.2)) ds) :
    Dd z H (.ref p) (.list (List.zipWith (fun (r : Str × V) d => .tuple [.str r.1, d]) rows ds)) := by
  obtain ⟨ts, h1, h2⟩ := h
  refine .lst h1 hp ?_
  clear h1
  induction h2 generalizing ds with
  | nil => exact .nil
  | cons a b ih =>
    cases hd with
    | cons q1 q2 => exact .cons (.tup a (.cons (.str _) (.cons q1 .nil))) (ih q2)
def keptD (dv di : PyData) : PyData := .list (List.zipWith (fun (r : Str × V) d => .tuple [.str r.1, d]) (rowsOf .non .non) [di, dv, dv, dv, dv, dv, dv, dv])
theorem kept_dd {z : Prop} {H : Hp} {p : Addr} {v i : V} {dv di : PyData} (h : Rows H p (rowsOf v i)) (hp : p ≠ sysModules) (hv : Dd z H v dv) (hi : Dd z H i di) : Dd z H (.ref p) (keptD dv di) :=
  rows_dd h (fun _ => hp) (.cons hi (.cons hv (.cons hv (.cons hv (.cons hv (.cons hv (.cons hv (.cons hv .nil))))))))
mutual
theorem Dd.weak {z z' : Prop} {H : Hp} (w : z' → z) : ∀ (d : PyData) (v : V), Dd z H v d → Dd z' H v d
  | _, _, .non => .non
  | _, _, .bl b => .bl b
  | _, _, .int i => .int i
  | _, _, .str x => .str x
  | .list ds, _, .lst h n hs => .lst h (fun q => n (w q)) (DdA.weak w ds _ hs)
  | .tuple ds, _, .tup h hs => .tup h (DdA.weak w ds _ hs)
  | .dict ps, _, .dct (ds := ds) h hs h1 h2 => .dct h (DdA.weak w ds _ hs) h1 h2
termination_by structural _ _ h => h
theorem DdA.weak {z z' : Prop} {H : Hp} (w : z' → z) : ∀ (ds : List PyData) (vs : List V), DdA z H vs ds → DdA z' H vs ds
  | _, _, .nil => .nil
  | d :: ds, _, .cons h hs => .cons (Dd.weak w d _ h) (DdA.weak w ds _ hs)
termination_by structural _ _ h => h
end
theorem keptD_has {dv di : PyData} (h : di.hasDict = false) : (keptD dv di).hasDict = dv.hasDict := by
  simp only [keptD, rowsOf, List.zipWith, PyData.hasDict, PyData.hasDictAll, h]
  cases dv.hasDict <;> rfl
theorem keptD_sh {dv di : PyData} (h1 : dv.showable = true) (h2 : di.showable = true) : (keptD dv di).showable = true := by
  simp only [keptD, rowsOf, List.zipWith, PyData.showable, PyData.showableAll, h1, h2]
  rfl
theorem keptD_dp {dv di : PyData} (h1 : dv.depth ≤ 20) (h2 : di.depth ≤ 20) : (keptD dv di).depth ≤ 60 := by
  simp only [keptD, rowsOf, List.zipWith, PyData.depth, PyData.depthAll]
  omega
theorem keptD_ln {dv di : PyData} (h1 : dv.leavesShort 100 = true) (h2 : di.leavesShort 100 = true) (w1 : dv.weight ≤ 2000) (w2 : di.weight ≤ 2000) : (keptD dv di).shown.length ≤ sizeLine := by
  have h := PyData.shown_le 100 (by decide) (keptD dv di) (by
    simp only [keptD, rowsOf, List.zipWith, PyData.leavesShort, PyData.leavesShortAll, h1, h2]
    decide +kernel)
  have w : (keptD dv di).weight ≤ 20000 := by
    simp only [keptD, rowsOf, List.zipWith, PyData.weight, PyData.weightAll]
    have e := fun (a b : Nat) (h : a = b) => h
    have l1 : ("x base value " : Str).cps.size = 13 := by decide +kernel
    have l2 : ("U key lookup " : Str).cps.size = 13 := by decide +kernel
    have l3 : ("T lookup " : Str).cps.size = 9 := by decide +kernel
    have l4 : ("N index lookup " : Str).cps.size = 15 := by decide +kernel
    have l5 : ("Z runtime " : Str).cps.size = 10 := by decide +kernel
    have l6 : ("M overflow arithmetic " : Str).cps.size = 22 := by decide +kernel
    have l7 : ("S arithmetic " : Str).cps.size = 13 := by decide +kernel
    have l8 : ("R arithmetic " : Str).cps.size = 13 := by decide +kernel
    omega
  rw [sizeLine_eq]
  have m : (100 + 2) * (keptD dv di).weight ≤ 102 * 20000 := Nat.mul_le_mul (by omega) w
  omega
theorem told_ok {a b : Str} (h1 : PyData.strOk a = true) (h2 : PyData.strOk b = true) : SeqAt.shaped (.list [.str "base c", .str a, .str b, .str "parse None"]) = true := by
  have h3 : PyData.strOk "base c" = true := by decide +kernel
  have h4 : PyData.strOk "parse None" = true := by decide +kernel
  simp only [SeqAt.shaped, PyData.canLay0, PyData.canLayAll0, PyData.depth, PyData.depthAll, h1, h2, h3, h4]
  rfl
theorem told_eq {a b : Str} : PyData.eqv (.list [.str "base c", .str a, .str b, .str "parse None"]) (.list [.str "base c", .str a, .str b, .str "parse None"]) = true := by
  simp only [PyData.eqv, PyData.eqvAll, beq_self_eq_true, Bool.and_self]
def spRight : Sp := fun vs H Q _ => ∃ (d : Addr) (x y z : Int), vs = [.ref d] ∧ H d = some (.lst [.int x, .int y, .int z]) ∧ ∀ H', DK d H H' → Q (.bl true) H'
theorem ok_right (D : Ds K mg Z) (B : Bt mg) (T : Tb K Z) : FnG P w K mg base CX0 5 Z.a_right Z.d_right P_right spRight := by
  have G_roll := ok_roll (P := P) (w := w) (base := base) D B
  have G_pick := ok_pick (P := P) (w := w) (base := base) D B
  have G_messages := ok_messages (P := P) (w := w) (base := base) D B T
  have G_kept := ok_kept (P := P) (w := w) (base := base) D B T
  have G_caught := ok_caught (P := P) (w := w) (base := base) D B T
  refine okG D.right.F sc_right (fun vs H Q E h => ?_) (fun cdv A outer s H vs Q E gd hr h => ?_)
  · obtain ⟨d, x, y, z, rfl, _⟩ := h
    rfl
  · obtain ⟨d, x, y, z, rfl, hd, q⟩ := h
    refine ⟨_, (pss_cons (ps_set (i := 1) sc_right.nd rfl (Or.inl rfl) (pe_lst (pa_cons pe_non (pa_cons pe_bl (pa_cons (pe_un un_neg pe_int) (pa_cons (pe_op op_mulW (pe_op op_pow pe_int pe_int) (pe_op op_pow pe_int pe_int)) (pa_cons pe_str (pa_cons pe_str (pa_cons (pe_tup (pa_cons pe_str (pa_cons pe_str pa_nil))) (pa_cons (pe_lst (pa_cons pe_int (pa_cons (pe_lst (pa_cons pe_int pa_nil)) pa_nil))) (pa_cons (pe_disp (pps_cons pe_str (pe_tup pa_nil) pps_nil) (by rfl) (by rfl) (fun z => by cases z) (by decide)) (pa_cons (pe_tup (pa_cons (pe_tup (pa_cons (pe_tup (pa_cons pe_str pa_nil)) pa_nil)) pa_nil)) pa_nil))))))))))))
    (pss_cons (ps_asg (pe_tup (pa_cons (pe_df D.pick G_pick (hr.mono (by decide)) (by rfl) (pa_cons (pv 0) (pa_cons (pv 1) pa_nil))) (pa_cons (pe_df D.pick G_pick (hr.mono (by decide)) (by rfl) (pa_cons (pv 0) (pa_cons (pe_lst (pa_cons pe_non (pa_cons pe_int (pa_cons pe_int (pa_cons (pe_df D.roll G_roll (hr.mono (by decide)) (by rfl) (pa_cons (pv 0) (pa_cons (pe_op op_pow pe_int pe_int) pa_nil))) pa_nil))))) pa_nil))) pa_nil))) (pg_tup rfl (pgs_cons (pg_name (i := 2) sc_right.nd rfl (Or.inr rfl)) (pgs_cons (pg_name (i := 3) sc_right.nd rfl (Or.inl rfl)) pgs_nil))))
    (pss_cons (ps_set (i := 4) sc_right.nd rfl (Or.inl rfl) (pe_op op_cat (pe_lc (own := [("_law_letter", 5)]) (g := gName 5) rfl sc_right.nd (pi_str pe_str) (blkOk_by (N := N_right) (sc := defScope s_right) (by decide +kernel)) (fun _ _ _ _ _ => (pg_name (i := 5) sc_right.nd rfl (Or.inl rfl))) (fun _ _ _ _ _ => pts_nil) (fun _ _ _ _ _ => (pe_op op_add_str (pv 5) pe_str))) (pe_lst (pa_cons pe_str pa_nil))))
    (pss_cons (ps_if (pt_cmpR (op_neK (K := K) rfl hr.units) (pe_df D.messages G_messages (hr.mono (by decide)) (by rfl) (pa_cons (pe_df D.pick G_pick (hr.mono (by decide)) (by rfl) (pa_cons (pv 0) (pa_cons (pe_lst (pa_cons pe_str (pa_cons pe_str (pa_cons pe_str pa_nil)))) pa_nil))) pa_nil)) (pv 4) (nomark _)) (pss_one (ps_ret pe_bl)) pss_nil)
    (pss_cons (ps_set (i := 4) sc_right.nd rfl (Or.inl rfl) (pe_lst (pa_cons (pe_tup (pa_cons pe_str (pa_cons (pv 3) pa_nil))) (pa_cons (pe_tup (pa_cons pe_str (pa_cons (pv 2) pa_nil))) (pa_cons (pe_tup (pa_cons pe_str (pa_cons (pv 2) pa_nil))) (pa_cons (pe_tup (pa_cons pe_str (pa_cons (pv 2) pa_nil))) pa_nil))))))
    (pss_cons (ps_set (i := 4) sc_right.nd rfl (Or.inl rfl) (pe_op op_cat (pv 4) (pe_lst (pa_cons (pe_tup (pa_cons pe_str (pa_cons (pv 2) pa_nil))) (pa_cons (pe_tup (pa_cons pe_str (pa_cons (pv 2) pa_nil))) (pa_cons (pe_tup (pa_cons pe_str (pa_cons (pv 2) pa_nil))) pa_nil))))))
    (pss_cons (ps_if (pt_cmpR op_ne (pe_callB (call_reprZ gd hr.units) (by rfl) B.repr (by decide +kernel) (pa_cons (pe_df D.kept G_kept (hr.mono (by decide)) (by rfl) (pa_cons (pv 2) (pa_cons (pv 3) pa_nil))) pa_nil)) (pe_callB (call_reprZ gd hr.units) (by rfl) B.repr (by decide +kernel) (pa_cons (pe_op op_catX (pv 4) (pe_lst (pa_cons (pe_tup (pa_cons pe_str (pa_cons (pv 2) pa_nil))) pa_nil))) pa_nil)) (nomark _)) (pss_one (ps_ret pe_bl)) pss_nil)
    (pss_cons (ps_setLc (i := 6) (own := [("_law_way", 7)]) (g := gName 7) rfl sc_right.nd rfl rfl (sw_true rfl rfl rfl (by decide +kernel)) (pi_range1 (by rfl) B.range (pa_cons pe_int pa_nil)) (blkOk_by (N := N_right) (sc := defScope s_right) (by decide +kernel)) (fun _ _ _ _ _ => (pg_name (i := 7) sc_right.nd rfl (Or.inl rfl))) (fun _ _ _ _ _ => pts_nil) (fun _ _ _ _ _ => (pe_dfG D.caught G_caught gd (hr.mono (by decide)) (by rfl) (pa_cons (pv 7) (pa_cons (pv 2) pa_nil)))))
    (pss_one (ps_ret (pe_cmpR (op_eqK (K := K) rfl hr.units) (pv 6) (pe_lst (pa_cons pe_str (pa_cons (pe_op op_add_str pe_str (pe_callB (call_reprZ gd hr.units) (by rfl) B.repr (by decide +kernel) (pa_cons (pv 2) pa_nil))) (pa_cons (pe_op op_add_str pe_str (pe_callB (call_reprZ gd hr.units) (by rfl) B.repr (by decide +kernel) (pa_cons (pv 2) pa_nil))) (pa_cons pe_str pa_nil))))) (nomark _)))))))))))), ?_⟩
    walk_at "rd"
    refine ⟨cpow45, cpow45, mul45, ?_⟩
    refine ⟨by decide, fun o1 n => ?_⟩
    have e := Same.new (o := .tup [.str "links", .str "put"]) n
    have S := e
    have O1 : upd H o1 (.tup [.str "links", .str "put"]) o1 = some (.tup [.str "links", .str "put"]) := upd_same
    generalize upd H o1 (.tup [.str "links", .str "put"]) = H1 at S O1 ⊢
    clear e n
    refine ⟨by decide, fun o2 n => ?_⟩
    have e := Same.new (o := .lst [.int 2]) n
    replace S := S.trans e
    replace O1 := e _ _ O1
    have O2 : upd H1 o2 (.lst [.int 2]) o2 = some (.lst [.int 2]) := upd_same
    generalize upd H1 o2 (.lst [.int 2]) = H1 at S O1 O2 ⊢
    clear e n
    refine ⟨by decide, fun o3 n => ?_⟩
    have e := Same.new (o := .lst [.int 1, .ref o2]) n
    replace S := S.trans e
    replace O1 := e _ _ O1
    replace O2 := e _ _ O2
    have O3 : upd H1 o3 (.lst [.int 1, .ref o2]) o3 = some (.lst [.int 1, .ref o2]) := upd_same
    generalize upd H1 o3 (.lst [.int 1, .ref o2]) = H1 at S O1 O2 O3 ⊢
    clear e n
    intro o4 n
    refine ⟨by decide, fun o5 m => ?_⟩
    have z4 := same3 (o2 := .tup []) (o3 := .dK [(.inr "a", .ref o5)]) n m
    refine ⟨by rw [upd_ne z4.2.1, upd_same], [(.inr "a", .ref o5)], rfl, by simp only [List.length_cons, List.length_nil]; decide, ?_⟩
    have em : mergeK [] [((.inr "a" : Key), V.ref o5)] = [(.inr "a", .ref o5)] := rfl
    rw [em]
    have e := z4.1
    replace S := S.trans e
    replace O1 := e _ _ O1
    replace O2 := e _ _ O2
    replace O3 := e _ _ O3
    have O4 := z4.2.2.1
    have O5 := z4.2.2.2
    generalize upd (upd (upd H1 o4 (.dK [])) o5 (.tup [])) o4 (.dK [(.inr "a", .ref o5)]) = H1 at S O1 O2 O3 O4 O5 ⊢
    clear e z4 n m
    refine ⟨by decide, fun o6 n => ?_⟩
    have e := Same.new (o := .tup [.str "a"]) n
    replace S := S.trans e
    replace O1 := e _ _ O1
    replace O2 := e _ _ O2
    replace O3 := e _ _ O3
    replace O4 := e _ _ O4
    replace O5 := e _ _ O5
    have O6 : upd H1 o6 (.tup [.str "a"]) o6 = some (.tup [.str "a"]) := upd_same
    generalize upd H1 o6 (.tup [.str "a"]) = H1 at S O1 O2 O3 O4 O5 O6 ⊢
    clear e n
    refine ⟨by decide, fun o7 n => ?_⟩
    have e := Same.new (o := .tup [.ref o6]) n
    replace S := S.trans e
    replace O1 := e _ _ O1
    replace O2 := e _ _ O2
    replace O3 := e _ _ O3
    replace O4 := e _ _ O4
    replace O5 := e _ _ O5
    replace O6 := e _ _ O6
    have O7 : upd H1 o7 (.tup [.ref o6]) o7 = some (.tup [.ref o6]) := upd_same
    generalize upd H1 o7 (.tup [.ref o6]) = H1 at S O1 O2 O3 O4 O5 O6 O7 ⊢
    clear e n
    refine ⟨by decide, fun o8 n => ?_⟩
    have e := Same.new (o := .tup [.ref o7]) n
    replace S := S.trans e
    replace O1 := e _ _ O1
    replace O2 := e _ _ O2
    replace O3 := e _ _ O3
    replace O4 := e _ _ O4
    replace O5 := e _ _ O5
    replace O6 := e _ _ O6
    replace O7 := e _ _ O7
    have O8 : upd H1 o8 (.tup [.ref o7]) o8 = some (.tup [.ref o7]) := upd_same
    generalize upd H1 o8 (.tup [.ref o7]) = H1 at S O1 O2 O3 O4 O5 O6 O7 O8 ⊢
    clear e n
    clear em
    refine ⟨by decide, fun p n => ?_⟩
    have e := Same.new (o := .lst (odds o1 o3 o4 o8)) n
    replace S := S.trans e
    replace O1 := e _ _ O1
    replace O2 := e _ _ O2
    replace O3 := e _ _ O3
    replace O4 := e _ _ O4
    replace O5 := e _ _ O5
    replace O6 := e _ _ O6
    replace O7 := e _ _ O7
    replace O8 := e _ _ O8
    have L : upd H1 p (.lst (odds o1 o3 o4 o8)) p = some (.lst (odds o1 o3 o4 o8)) := upd_same
    change LP.Later _ _ _ (upd H1 p (.lst (odds o1 o3 o4 o8)))
    generalize upd H1 p (.lst (odds o1 o3 o4 o8)) = H1 at S O1 O2 O3 O4 O5 O6 O7 O8 L ⊢
    clear e n
    have hd1 := S _ _ hd
    have nB : ∀ {b : Addr} {o : HO}, H1 b = some o → o ≠ .lst [.int x, .int y, .int z] → delH H1 d b = some o := fun {b o} h ne => (delH_ne (at_ne hd1 h (Ne.symm ne))).trans h
    have hO := odd_shw (nB O1 (by simp)) (nB O2 (by simp)) (nB O3 (by simp)) (nB O4 (by simp)) (nB O5 (by simp)) (nB O6 (by simp)) (nB O7 (by simp)) (nB O8 (by simp))
    have pd : p ≠ d := at_ne hd1 L (by simp [odds])
    have s9 : S9 d H (delH H1 d) H1 := ⟨⟨fun b o _ h => S _ _ h, x, y, z, hd1⟩, fun b o h => by
      by_cases hb : b = d
      · rw [hb, delH_same] at h
        cases h
      · rw [delH_ne hb] at h
        exact h⟩
    have bd : delH H1 d d = none := delH_same
    generalize delH H1 d = Bh at hO s9 bd
    clear nB O1 O2 O3 O4 O5 O6 O7 O8 S hd
    walk_at "go"
    refine ⟨d, x, y, z, .ref p, odds o1 o3 o4 o8, rfl, hd1, .inl ⟨p, rfl, pd, L⟩, by simp [odds], by simp [odds], fun v hv x1 y1 z1 => ?_⟩
    obtain ⟨dv, hv, ok1, ok2⟩ := hO v hv
    replace s9 := s9.roll bd x1 y1 z1
    have hd2 : upd H1 d (.lst [.int x1, .int y1, .int z1]) d = some (.lst [.int x1, .int y1, .int z1]) := upd_same
    generalize upd H1 d (.lst [.int x1, .int y1, .int z1]) = H2 at s9 hd2 ⊢
    clear hO L pd hd1
    walk_at "rd"
    refine ⟨⟨by decide, by decide, by decide⟩, d, x1, y1, z1, _, rfl, hd2, by decide, by decide, fun r x2 y2 z2 r0 r1 => ?_⟩
    replace s9 := s9.roll bd x2 y2 z2
    have hd3 : upd H2 d (.lst [.int x2, .int y2, .int z2]) d = some (.lst [.int x2, .int y2, .int z2]) := upd_same
    generalize upd H2 d (.lst [.int x2, .int y2, .int z2]) = H3 at s9 hd3 ⊢
    clear hd2
    refine ⟨by decide, fun p1 n => ?_⟩
    have e := Same.new (o := .lst [V.non, V.int 0, V.int 1, V.int r]) n
    replace s9 := s9.same e
    replace hd3 := e _ _ hd3
    have L : upd H3 p1 (.lst [V.non, V.int 0, V.int 1, V.int r]) p1 = some (.lst [V.non, V.int 0, V.int 1, V.int r]) := upd_same
    generalize upd H3 p1 (.lst [V.non, V.int 0, V.int 1, V.int r]) = H4 at s9 hd3 L ⊢
    have pd : p1 ≠ d := at_ne hd3 L (by simp)
    clear e n
    refine ⟨d, x2, y2, z2, .ref p1, _, rfl, hd3, .inl ⟨p1, rfl, pd, L⟩, by simp, by simp, fun iv hiv x3 y3 z3 => ?_⟩
    obtain ⟨di, hi, hiD, hiZ⟩ := idx_shw (Bh := Bh) r0 r1 iv hiv
    replace s9 := s9.roll bd x3 y3 z3
    have hd4 : upd H4 d (.lst [.int x3, .int y3, .int z3]) d = some (.lst [.int x3, .int y3, .int z3]) := upd_same
    generalize upd H4 d (.lst [.int x3, .int y3, .int z3]) = H5 at s9 hd4 ⊢
    clear hd3 L pd hiv r0 r1
    refine ⟨by decide, fun p2 n => ?_⟩
    have e := Same.new (o := .tup [v, iv]) n
    replace s9 := s9.same e
    replace hd4 := e _ _ hd4
    have L : upd H5 p2 (.tup [v, iv]) p2 = some (.tup [v, iv]) := upd_same
    generalize upd H5 p2 (.tup [v, iv]) = H6 at s9 hd4 L ⊢
    clear e n
    refine ⟨p2, _, rfl, SqT.of L, rfl, v, _, rfl, iv, _, rfl, rfl, ?_⟩
    clear L
    walk_at "go"
    refine lc_mapW (walk_signs _) (fun _ _ => trivial) (by decide) sfx (fun x => rfl) ?_ ?_
    · intro u hu H7 e7 R hR
      obtain ⟨c, _, rfl⟩ := List.mem_map.mp hu
      unfold sgn
      walk_at "rd"
      exact ⟨by show 1 + 12 ≤ _; decide, hR H7 (Same.refl _)⟩
    intro l1 H7 _ e7 L1
    replace s9 := s9.same e7
    replace hd4 := e7 _ _ hd4
    clear e7
    refine ⟨by decide, fun l2 n => ?_⟩
    have e := Same.new (o := .lst [V.str " base value "]) n
    replace s9 := s9.same e
    replace hd4 := e _ _ hd4
    replace L1 := e _ _ L1
    generalize upd H7 l2 (.lst [V.str " base value "]) = H8 at s9 hd4 L1 ⊢
    clear e n
    refine ⟨l1, rfl, _, L1, by decide, fun l3 n => ?_⟩
    rw [sfx_all]
    have e := Same.new (o := .lst msgT) n
    replace s9 := s9.same e
    replace hd4 := e _ _ hd4
    have M : upd H8 l3 (.lst msgT) l3 = some (.lst msgT) := upd_same
    generalize upd H8 l3 (.lst msgT) = H9 at s9 hd4 M ⊢
    clear e n L1
    walk_at "go"
    refine ⟨by decide, fun l4 n => ?_⟩
    have e := Same.new (o := .lst [V.str "", V.str "no", V.str "no such thing"]) n
    replace s9 := s9.same e
    replace hd4 := e _ _ hd4
    replace M := e _ _ M
    have L : upd H9 l4 (.lst [V.str "", V.str "no", V.str "no such thing"]) l4 = some (.lst [V.str "", V.str "no", V.str "no such thing"]) := upd_same
    generalize upd H9 l4 (.lst [V.str "", V.str "no", V.str "no such thing"]) = H10 at s9 hd4 M L ⊢
    have pd : l4 ≠ d := at_ne hd4 L (by simp)
    have md : l3 ≠ d := at_ne hd4 M (by simp [msgT])
    clear e n
    refine ⟨d, x3, y3, z3, .ref l4, _, rfl, hd4, .inl ⟨l4, rfl, pd, L⟩, by simp, by simp, fun tv htv x5 y5 z5 => ?_⟩
    obtain ⟨t, rfl⟩ : ∃ t, tv = V.str t := by
      simp only [List.mem_cons, List.not_mem_nil, or_false] at htv
      rcases htv with h | h | h <;> exact ⟨_, h⟩
    replace s9 := s9.roll bd x5 y5 z5
    have hd5 : upd H10 d (.lst [.int x5, .int y5, .int z5]) d = some (.lst [.int x5, .int y5, .int z5]) := upd_same
    have M' : upd H10 d (.lst [.int x5, .int y5, .int z5]) l3 = some (.lst msgT) := (upd_ne md).trans M
    generalize upd H10 d (.lst [.int x5, .int y5, .int z5]) = H11 at s9 hd5 M' ⊢
    clear hd4 M L pd md htv
    walk_at "rd"
    refine ⟨t, rfl, fun l5 H12 _ e L5 => ?_⟩
    replace s9 := s9.same e
    replace hd5 := e _ _ hd5
    replace M' := e _ _ M'
    clear e
    walk_at "rd"
    refine ⟨_, _, msg_dp L5, msg_dp M', by decide +kernel, by decide +kernel, false, congrArg V.bl (by decide +kernel), iteF ?_⟩
    clear L5 M'
    walk_at "go"
    walk_at "go"
    refine ⟨by decide, fun t0 n => ?_⟩
    have e := Same.new (o := .tup [.str "x base value ", iv]) n
    replace s9 := s9.same e
    replace hd5 := e _ _ hd5
    have U0 : upd H12 t0 (.tup [.str "x base value ", iv]) t0 = some (.tup [.str "x base value ", iv]) := upd_same
    generalize upd H12 t0 (.tup [.str "x base value ", iv]) = H13 at s9 hd5 U0 ⊢
    clear e n
    refine ⟨by decide, fun t1 n => ?_⟩
    have e := Same.new (o := .tup [.str "U key lookup ", v]) n
    replace s9 := s9.same e
    replace hd5 := e _ _ hd5
    replace U0 := e _ _ U0
    have U1 : upd H13 t1 (.tup [.str "U key lookup ", v]) t1 = some (.tup [.str "U key lookup ", v]) := upd_same
    generalize upd H13 t1 (.tup [.str "U key lookup ", v]) = H14 at s9 hd5 U0 U1 ⊢
    clear e n
    refine ⟨by decide, fun t2 n => ?_⟩
    have e := Same.new (o := .tup [.str "T lookup ", v]) n
    replace s9 := s9.same e
    replace hd5 := e _ _ hd5
    replace U0 := e _ _ U0
    replace U1 := e _ _ U1
    have U2 : upd H14 t2 (.tup [.str "T lookup ", v]) t2 = some (.tup [.str "T lookup ", v]) := upd_same
    generalize upd H14 t2 (.tup [.str "T lookup ", v]) = H15 at s9 hd5 U0 U1 U2 ⊢
    clear e n
    refine ⟨by decide, fun t3 n => ?_⟩
    have e := Same.new (o := .tup [.str "N index lookup ", v]) n
    replace s9 := s9.same e
    replace hd5 := e _ _ hd5
    replace U0 := e _ _ U0
    replace U1 := e _ _ U1
    replace U2 := e _ _ U2
    have U3 : upd H15 t3 (.tup [.str "N index lookup ", v]) t3 = some (.tup [.str "N index lookup ", v]) := upd_same
    generalize upd H15 t3 (.tup [.str "N index lookup ", v]) = H16 at s9 hd5 U0 U1 U2 U3 ⊢
    clear e n
    refine ⟨by decide, fun m1 n => ?_⟩
    have e := Same.new (o := .lst [.ref t0, .ref t1, .ref t2, .ref t3]) n
    replace s9 := s9.same e
    replace hd5 := e _ _ hd5
    replace U0 := e _ _ U0
    replace U1 := e _ _ U1
    replace U2 := e _ _ U2
    replace U3 := e _ _ U3
    have M1 : upd H16 m1 (.lst [.ref t0, .ref t1, .ref t2, .ref t3]) m1 = some (.lst [.ref t0, .ref t1, .ref t2, .ref t3]) := upd_same
    generalize upd H16 m1 (.lst [.ref t0, .ref t1, .ref t2, .ref t3]) = H17 at s9 hd5 U0 U1 U2 U3 M1 ⊢
    clear e n
    walk_at "go"
    refine ⟨by decide, fun t4 n => ?_⟩
    have e := Same.new (o := .tup [.str "Z runtime ", v]) n
    replace s9 := s9.same e
    replace hd5 := e _ _ hd5
    replace U0 := e _ _ U0
    replace U1 := e _ _ U1
    replace U2 := e _ _ U2
    replace U3 := e _ _ U3
    replace M1 := e _ _ M1
    have U4 : upd H17 t4 (.tup [.str "Z runtime ", v]) t4 = some (.tup [.str "Z runtime ", v]) := upd_same
    generalize upd H17 t4 (.tup [.str "Z runtime ", v]) = H18 at s9 hd5 U0 U1 U2 U3 M1 U4 ⊢
    clear e n
    refine ⟨by decide, fun t5 n => ?_⟩
    have e := Same.new (o := .tup [.str "M overflow arithmetic ", v]) n
    replace s9 := s9.same e
    replace hd5 := e _ _ hd5
    replace U0 := e _ _ U0
    replace U1 := e _ _ U1
    replace U2 := e _ _ U2
    replace U3 := e _ _ U3
    replace M1 := e _ _ M1
    replace U4 := e _ _ U4
    have U5 : upd H18 t5 (.tup [.str "M overflow arithmetic ", v]) t5 = some (.tup [.str "M overflow arithmetic ", v]) := upd_same
    generalize upd H18 t5 (.tup [.str "M overflow arithmetic ", v]) = H19 at s9 hd5 U0 U1 U2 U3 M1 U4 U5 ⊢
    clear e n
    refine ⟨by decide, fun t6 n => ?_⟩
    have e := Same.new (o := .tup [.str "S arithmetic ", v]) n
    replace s9 := s9.same e
    replace hd5 := e _ _ hd5
    replace U0 := e _ _ U0
    replace U1 := e _ _ U1
    replace U2 := e _ _ U2
    replace U3 := e _ _ U3
    replace M1 := e _ _ M1
    replace U4 := e _ _ U4
    replace U5 := e _ _ U5
    have U6 : upd H19 t6 (.tup [.str "S arithmetic ", v]) t6 = some (.tup [.str "S arithmetic ", v]) := upd_same
    generalize upd H19 t6 (.tup [.str "S arithmetic ", v]) = H20 at s9 hd5 U0 U1 U2 U3 M1 U4 U5 U6 ⊢
    clear e n
    refine ⟨by decide, fun m2 n => ?_⟩
    have e := Same.new (o := .lst [.ref t4, .ref t5, .ref t6]) n
    replace s9 := s9.same e
    replace hd5 := e _ _ hd5
    replace U0 := e _ _ U0
    replace U1 := e _ _ U1
    replace U2 := e _ _ U2
    replace U3 := e _ _ U3
    replace M1 := e _ _ M1
    replace U4 := e _ _ U4
    replace U5 := e _ _ U5
    replace U6 := e _ _ U6
    have M2 : upd H20 m2 (.lst [.ref t4, .ref t5, .ref t6]) m2 = some (.lst [.ref t4, .ref t5, .ref t6]) := upd_same
    generalize upd H20 m2 (.lst [.ref t4, .ref t5, .ref t6]) = H21 at s9 hd5 U0 U1 U2 U3 M1 U4 U5 U6 M2 ⊢
    clear e n
    refine ⟨_, M1, by simp only [List.length_cons, List.length_nil]; decide, fun m3 n => ?_⟩
    have e := Same.new (o := .lst ([.ref t0, .ref t1, .ref t2, .ref t3] ++ [.ref t4, .ref t5, .ref t6])) n
    replace s9 := s9.same e
    replace hd5 := e _ _ hd5
    replace U0 := e _ _ U0
    replace U1 := e _ _ U1
    replace U2 := e _ _ U2
    replace U3 := e _ _ U3
    replace U4 := e _ _ U4
    replace U5 := e _ _ U5
    replace U6 := e _ _ U6
    have M3 : upd H21 m3 (.lst ([.ref t0, .ref t1, .ref t2, .ref t3] ++ [.ref t4, .ref t5, .ref t6])) m3 = some (.lst [.ref t0, .ref t1, .ref t2, .ref t3, .ref t4, .ref t5, .ref t6]) := upd_same
    generalize upd H21 m3 (.lst ([.ref t0, .ref t1, .ref t2, .ref t3] ++ [.ref t4, .ref t5, .ref t6])) = H22 at s9 hd5 U0 U1 U2 U3 U4 U5 U6 M3 ⊢
    clear e n M1 M2
    walk_at "go"
    refine ⟨v, iv, rfl, fun kp H23 nk e Rk => ?_⟩
    replace s9 := s9.same e
    replace hd5 := e _ _ hd5
    replace U0 := e _ _ U0
    replace U1 := e _ _ U1
    replace U2 := e _ _ U2
    replace U3 := e _ _ U3
    replace U4 := e _ _ U4
    replace U5 := e _ _ U5
    replace U6 := e _ _ U6
    replace M3 := e _ _ M3
    clear e
    have hv23 := hv.same s9.b
    have kz : ∀ {Hx : Hp} {px : Addr}, px ≠ sysModules → Same Bh Hx → Rows Hx px (rowsOf v iv) → Dd ((keptD dv di).hasDict = true) Hx (.ref px) (keptD dv di) := by
      intro Hx px np eB hR
      refine kept_dd hR np ?_ (Dd.same eB _ _ (hiZ _))
      rw [keptD_has hiD]
      exact Dd.same eB _ _ hv.dd
    have k1 := kz nk s9.b Rk
    walk_at "rd"
    refine ⟨keptD dv di, k1, keptD_sh hv.sh hi.sh, keptD_dp hv.dp hi.dp, keptD_ln hv.lv hi.lv hv.wt hi.wt, by decide, fun t7 n => ?_⟩
    clear k1 Rk hv23
    have e := Same.new (o := .tup [.str "R arithmetic ", v]) n
    replace s9 := s9.same e
    replace hd5 := e _ _ hd5
    replace U0 := e _ _ U0
    replace U1 := e _ _ U1
    replace U2 := e _ _ U2
    replace U3 := e _ _ U3
    replace U4 := e _ _ U4
    replace U5 := e _ _ U5
    replace U6 := e _ _ U6
    replace M3 := e _ _ M3
    have U7 : upd H23 t7 (.tup [.str "R arithmetic ", v]) t7 = some (.tup [.str "R arithmetic ", v]) := upd_same
    generalize upd H23 t7 (.tup [.str "R arithmetic ", v]) = H24 at s9 hd5 U0 U1 U2 U3 U4 U5 U6 M3 U7 ⊢
    clear e n
    refine ⟨by decide, fun m4 n => ?_⟩
    have e := Same.new (o := .lst [.ref t7]) n
    replace s9 := s9.same e
    replace hd5 := e _ _ hd5
    replace U0 := e _ _ U0
    replace U1 := e _ _ U1
    replace U2 := e _ _ U2
    replace U3 := e _ _ U3
    replace U4 := e _ _ U4
    replace U5 := e _ _ U5
    replace U6 := e _ _ U6
    replace M3 := e _ _ M3
    replace U7 := e _ _ U7
    generalize upd H24 m4 (.lst [.ref t7]) = H25 at s9 hd5 U0 U1 U2 U3 U4 U5 U6 M3 U7 ⊢
    clear e n
    refine ⟨_, M3, by simp only [List.length_cons, List.length_nil]; decide, fun m5 nm n => ?_⟩
    have e := Same.new (o := .lst ([.ref t0, .ref t1, .ref t2, .ref t3, .ref t4, .ref t5, .ref t6] ++ [.ref t7])) n
    replace s9 := s9.same e
    replace hd5 := e _ _ hd5
    replace U0 := e _ _ U0
    replace U1 := e _ _ U1
    replace U2 := e _ _ U2
    replace U3 := e _ _ U3
    replace U4 := e _ _ U4
    replace U5 := e _ _ U5
    replace U6 := e _ _ U6
    replace U7 := e _ _ U7
    have M5 : upd H25 m5 (.lst ([.ref t0, .ref t1, .ref t2, .ref t3, .ref t4, .ref t5, .ref t6] ++ [.ref t7])) m5 = some (.lst [.ref t0, .ref t1, .ref t2, .ref t3, .ref t4, .ref t5, .ref t6, .ref t7]) := upd_same
    generalize upd H25 m5 (.lst ([.ref t0, .ref t1, .ref t2, .ref t3, .ref t4, .ref t5, .ref t6] ++ [.ref t7])) = H26 at s9 hd5 U0 U1 U2 U3 U4 U5 U6 U7 M5 ⊢
    clear e n M3
    have Rd : Rows H26 m5 (rowsOf v iv) := ⟨[t0, t1, t2, t3, t4, t5, t6, t7], M5, .cons U0 (.cons U1 (.cons U2 (.cons U3 (.cons U4 (.cons U5 (.cons U6 (.cons U7 .nil)))))))⟩
    refine ⟨keptD dv di, kz nm s9.b Rd, keptD_sh hv.sh hi.sh, keptD_dp hv.dp hi.dp, keptD_ln hv.lv hi.lv hv.wt hi.wt, ?_⟩
    clear kz Rd M5 U0 U1 U2 U3 U4 U5 U6 U7 hi hiZ hiD
    walk_at "rd"
    rw [if_neg (by decide)]
    walk_at "go"
    walk_at "go"
    refine ⟨by decide, by decide, fun cl hcl => ?_⟩
    refine lc_range (lo := 0) (n := Int.toNat 4) (fun i H' => Same H26 H' ∧ H' cl = some (.lst ((List.range i).map fun (k : Nat) => V.str (caughtT (k : Int) dv)))) ⟨Same.new hcl, upd_same⟩ ?_ ?_
    · rintro i H27 hi' ⟨e27, L27⟩
      walk_at "rd"
      refine ⟨(i : Int), v, dv, rfl, hv.same (s9.b.trans e27), fun H28 e28 => ?_⟩
      refine ⟨_, e28 _ _ L27, ?_, ?_, ?_⟩
      · rw [List.length_map, List.length_range]
        exact Nat.lt_of_lt_of_le hi' (by decide)
      · intro b o hb
        rw [upd_ne (ne_of_none hb hcl)]
        exact e28 _ _ (e27 _ _ hb)
      · rw [List.range_succ, List.map_append]
        rfl
    rintro H27 ⟨e27, L27⟩
    replace s9 := s9.same e27
    clear e27 hd5
    have L27 : H27 cl = some (.lst [.str "base c", .str ("unstable " ++ dv.shown), .str ("untaken " ++ dv.shown), .str "parse None"]) := L27
    walk_at "go"
    have hl := hv.ln
    have hdp := hv.dp
    have dd := Dd.same s9.b _ _ hv.dd
    refine ⟨dv, dd, hv.sh, by omega, by rw [sizeLine_eq]; omega, ?_, dv, dd, hv.sh, by omega, by rw [sizeLine_eq]; omega, ?_, by decide, fun rl n => ?_⟩
    · rw [sizeLine_eq, show (Str.ofString "unstable ").length = 9 from rfl]
      omega
    · rw [sizeLine_eq, show (Str.ofString "untaken ").length = 8 from rfl]
      omega
    have e := Same.new (o := .lst [.str "base c", .str ("unstable " ++ dv.shown), .str ("untaken " ++ dv.shown), .str "parse None"]) n
    refine ⟨_, _, .lst (SqL.of (e _ _ L27)) (.cons (.str _) (.cons (.str _) (.cons (.str _) (.cons (.str _) .nil)))), .lst (SqL.of upd_same) (.cons (.str _) (.cons (.str _) (.cons (.str _) (.cons (.str _) .nil)))), ?_, ?_, ?_⟩
    · exact told_ok ok1 ok2
    · exact told_ok ok1 ok2
    rw [told_eq]
    exact q _ (s9.same e).k
end
/-! ### the law -/
section
variable {P : Program} {w : World} {K : PySem.W.Frag} {mg : Str → Option Value} {base : Heap} {Z : Ad}
def spLaw (K : PySem.W.Frag) : Sp := fun vs H Q _ => ∃ (a : Addr) (ns : List Int), vs = [.ref a] ∧ SqL K H a (ns.map V.int) ∧ ns.length ≤ 63 ∧ ∀ H', Q (.bl true) H'
theorem ok_law (D : Ds K mg Z) (B : Bt mg) (T : Tb K Z) : FnG P w K mg base CX0 6 Z.a_law Z.d_law P_law (spLaw K) := by
  have G_dice := ok_dice (P := P) (w := w) (base := base) D B
  have G_right := ok_right (P := P) (w := w) (base := base) D B T
  refine okG D.law.F sc_law (fun vs H Q E h => ?_) (fun cdv A outer s H vs Q E gd hr h => ?_)
  · obtain ⟨a, ns, rfl, _⟩ := h
    rfl
  · obtain ⟨a, ns, rfl, hS, hlen, q⟩ := h
    refine ⟨_, (pss_cons (ps_for PassesOwn.never rfl (pi_range1 (by rfl) B.range (pa_cons (pe_callB (call_max2 rfl) (by rfl) B.max (by decide +kernel) (pa_cons pe_int (pa_cons (pe_callB (call_min2 rfl) (by rfl) B.min (by decide +kernel) (pa_cons pe_int (pa_cons (pe_callB call_len_seq (by rfl) B.len (by decide +kernel) (pa_cons (pv 0) pa_nil)) pa_nil))) pa_nil))) pa_nil)) (pg_name (i := 1) sc_law.nd rfl (Or.inl rfl))
      (pss_cons (ps_set (i := 2) sc_law.nd rfl (Or.inl rfl) (pe_df D.dice G_dice (hr.mono (by decide)) (by rfl) (pa_cons (pv 0) (pa_cons (pv 1) pa_nil))))
    (pss_one (ps_for PassesOwn.never rfl (pi_range1 (by rfl) B.range (pa_cons pe_int pa_nil)) (pg_name (i := 3) sc_law.nd rfl (Or.inl rfl))
      (pss_one (ps_if (pt_not (pt_val (pe_dfG D.right G_right gd (hr.mono (by decide)) (by rfl) (pa_cons (pv 2) pa_nil)))) (pss_one (ps_ret pe_bl)) pss_nil))))))
    (pss_one (ps_ret pe_bl))), ?_⟩
    walk_at "rd"
    refine ⟨_, .inl hS, ?_⟩
    have hm : ∀ k : Nat, (1 : Int) ≤ (if (if (k : Int) < 4 then (k : Int) else 4) > 1 then if (k : Int) < 4 then (k : Int) else 4 else 1) ∧ (if (if (k : Int) < 4 then (k : Int) else 4) > 1 then if (k : Int) < 4 then (k : Int) else 4 else 1) ≤ 4 := by
      intro k
      split <;> split <;> omega
    obtain ⟨m0, m1⟩ := hm (ns.map V.int).length
    generalize (if (if ((ns.map V.int).length : Int) < 4 then ((ns.map V.int).length : Int) else 4) > 1 then if ((ns.map V.int).length : Int) < 4 then ((ns.map V.int).length : Int) else 4 else 1) = m at m0 m1 ⊢
    refine ⟨by omega, by omega, ?_⟩
    obtain ⟨Pv, hP⟩ := inv_of (fun (i : Nat) (σ : St) (H' : Hp) => ∃ (o1 o2 o3 : Option V), σ = [some (.ref a), o1, o2, o3] ∧ Same H H')
    refine loop_range Pv ((hP _ _ _).mpr ⟨_, _, _, rfl, Same.refl H⟩) ?_ ?_
    · intro i σ H1 hi hp
      obtain ⟨o1, o2, o3, rfl, e1⟩ := (hP _ _ _).mp hp
      clear hp
      walk_at "rd"
      walk_at "go"
      refine ⟨a, ns, i, rfl, e1.seq hS, fun d x y hd => ?_⟩
      walk_at "rd"
      walk_at "go"
      refine ⟨by decide, by decide, ?_⟩
      have hd0 : H d = none := e1.free hd
      have e2 : Same H (upd H1 d (.lst [.int x, .int y, .int 0])) := e1.trans (Same.new hd)
      have hd1 : upd H1 d (.lst [.int x, .int y, .int 0]) d = some (.lst [.int x, .int y, .int 0]) := upd_same
      generalize upd H1 d (.lst [.int x, .int y, .int 0]) = H2 at e2 hd1 ⊢
      obtain ⟨Pw, hW⟩ := inv_of (fun (j : Nat) (σ : St) (H' : Hp) => ∃ (o3 : Option V) (x y z : Int), σ = [some (.ref a), some (.int i), some (.ref d), o3] ∧ Same H H' ∧ H' d = some (.lst [.int x, .int y, .int z]))
      refine loop_range Pw ((hW _ _ _).mpr ⟨_, x, y, 0, rfl, e2, hd1⟩) ?_ ?_
      · intro j σ H3 hj hp
        obtain ⟨o3, x3, y3, z3, rfl, e3, hd3⟩ := (hW _ _ _).mp hp
        clear hp
        walk_at "rd"
        refine later ?_
        walk_at "rd"
        refine ⟨d, x3, y3, z3, rfl, hd3, fun H4 k4 => ?_⟩
        obtain ⟨k5, x4, y4, z4, hd4⟩ := k4
        have e4 : Same H H4 := fun b o h => k5 b o (ne_of_none h hd0) (e3 _ _ h)
        walk_at "rd"
        rw [if_neg (by decide)]
        refine later ?_
        exact (hW _ _ _).mpr ⟨_, x4, y4, z4, rfl, e4, hd4⟩
      · intro σ H3 hp
        obtain ⟨o3, x3, y3, z3, rfl, e3, hd3⟩ := (hW _ _ _).mp hp
        exact (hP _ _ _).mpr ⟨_, _, _, rfl, e3⟩
    · intro σ H1 hp
      obtain ⟨o1, o2, o3, rfl, e1⟩ := (hP _ _ _).mp hp
      walk_at "go"
      exact q _
end

/-! ### what the top has written -/
theorem all_mk {l : PySem.W.OpenLaw} {w : World} {K : PySem.W.Frag} {h : Heap} {mg : Str → Option Value} {fa : Addr} (X : K.In h) (G : h.Ns mainGlobals mg) (hfa : mg "law" = some (.ref fa))
    {f1 f2 f3 f4 f5 f6 f7 f8 f9 f10 : Addr} {od1 an1 od2 an2 od3 an3 od4 an4 od5 an5 od6 an6 od7 an7 od8 an8 od9 an9 od10 an10 : Option Addr} {sl1 sl2 sl3 sl4 sl5 sl6 sl7 sl8 sl9 sl10 : Array (Option Value)}
    {oc1 kV1 dc1 pm1 cd1 ct1 oc2 kV2 dc2 pm2 cd2 ct2 oc3 kV3 dc3 pm3 cd3 ct3 oc4 kV4 dc4 pm4 cd4 ct4 oc5 kV5 dc5 pm5 cd5 ct5 oc6 kV6 dc6 pm6 cd6 ct6 oc7 kV7 dc7 pm7 cd7 ct7 oc8 kV8 dc8 pm8 cd8 ct8 oc9 kV9 dc9 pm9 cd9 ct9 oc10 kV10 dc10 pm10 cd10 ct10 : Value}
    (a1 : PySem.W.nsIn K mainGlobals "_law_dice" = some (some (.ref f1)))
    (l1 : K.lookup f1 = some ⟨oc1, od1, .func (PySem.W.fnOf "_law_dice" "_law_dice" (defArgs s_dice) (defBody s_dice) (defScope s_dice) .none kV1 dc1 pm1 an1 cd1 ct1), sl1⟩)
    (c1 : PySem.W.codeIn K cd1 "_law_dice" = true) (k1 : PySem.W.keepIn K (.ref f1) = true)
    (a2 : PySem.W.nsIn K mainGlobals "_law_roll" = some (some (.ref f2)))
    (l2 : K.lookup f2 = some ⟨oc2, od2, .func (PySem.W.fnOf "_law_roll" "_law_roll" (defArgs s_roll) (defBody s_roll) (defScope s_roll) .none kV2 dc2 pm2 an2 cd2 ct2), sl2⟩)
    (c2 : PySem.W.codeIn K cd2 "_law_roll" = true) (k2 : PySem.W.keepIn K (.ref f2) = true)
    (a3 : PySem.W.nsIn K mainGlobals "_law_pick" = some (some (.ref f3)))
    (l3 : K.lookup f3 = some ⟨oc3, od3, .func (PySem.W.fnOf "_law_pick" "_law_pick" (defArgs s_pick) (defBody s_pick) (defScope s_pick) .none kV3 dc3 pm3 an3 cd3 ct3), sl3⟩)
    (c3 : PySem.W.codeIn K cd3 "_law_pick" = true) (k3 : PySem.W.keepIn K (.ref f3) = true)
    (a4 : PySem.W.nsIn K mainGlobals "_law_own" = some (some (.ref f4)))
    (l4 : K.lookup f4 = some ⟨oc4, od4, .func (PySem.W.fnOf "_law_own" "_law_own" (defArgs s_own) (defBody s_own) (defScope s_own) .none kV4 dc4 pm4 an4 cd4 ct4), sl4⟩)
    (c4 : PySem.W.codeIn K cd4 "_law_own" = true) (k4 : PySem.W.keepIn K (.ref f4) = true)
    (a5 : PySem.W.nsIn K mainGlobals "_law_whole" = some (some (.ref f5)))
    (l5 : K.lookup f5 = some ⟨oc5, od5, .func (PySem.W.fnOf "_law_whole" "_law_whole" (defArgs s_whole) (defBody s_whole) (defScope s_whole) .none kV5 dc5 pm5 an5 cd5 ct5), sl5⟩)
    (c5 : PySem.W.codeIn K cd5 "_law_whole" = true) (k5 : PySem.W.keepIn K (.ref f5) = true)
    (a6 : PySem.W.nsIn K mainGlobals "_law_messages" = some (some (.ref f6)))
    (l6 : K.lookup f6 = some ⟨oc6, od6, .func (PySem.W.fnOf "_law_messages" "_law_messages" (defArgs s_messages) (defBody s_messages) (defScope s_messages) .none kV6 dc6 pm6 an6 cd6 ct6), sl6⟩)
    (c6 : PySem.W.codeIn K cd6 "_law_messages" = true) (k6 : PySem.W.keepIn K (.ref f6) = true)
    (a7 : PySem.W.nsIn K mainGlobals "_law_kept" = some (some (.ref f7)))
    (l7 : K.lookup f7 = some ⟨oc7, od7, .func (PySem.W.fnOf "_law_kept" "_law_kept" (defArgs s_kept) (defBody s_kept) (defScope s_kept) .none kV7 dc7 pm7 an7 cd7 ct7), sl7⟩)
    (c7 : PySem.W.codeIn K cd7 "_law_kept" = true) (k7 : PySem.W.keepIn K (.ref f7) = true)
    (a8 : PySem.W.nsIn K mainGlobals "_law_caught" = some (some (.ref f8)))
    (l8 : K.lookup f8 = some ⟨oc8, od8, .func (PySem.W.fnOf "_law_caught" "_law_caught" (defArgs s_caught) (defBody s_caught) (defScope s_caught) .none kV8 dc8 pm8 an8 cd8 ct8), sl8⟩)
    (c8 : PySem.W.codeIn K cd8 "_law_caught" = true) (k8 : PySem.W.keepIn K (.ref f8) = true)
    (a9 : PySem.W.nsIn K mainGlobals "_law_right" = some (some (.ref f9)))
    (l9 : K.lookup f9 = some ⟨oc9, od9, .func (PySem.W.fnOf "_law_right" "_law_right" (defArgs s_right) (defBody s_right) (defScope s_right) .none kV9 dc9 pm9 an9 cd9 ct9), sl9⟩)
    (c9 : PySem.W.codeIn K cd9 "_law_right" = true) (k9 : PySem.W.keepIn K (.ref f9) = true)
    (a10 : PySem.W.nsIn K mainGlobals "law" = some (some (.ref f10)))
    (l10 : K.lookup f10 = some ⟨oc10, od10, .func (PySem.W.fnOf "law" "law" (defArgs s_law) (defBody s_law) (defScope s_law) .none kV10 dc10 pm10 an10 cd10 ct10), sl10⟩)
    (c10 : PySem.W.codeIn K cd10 "law" = true) (k10 : PySem.W.keepIn K (.ref f10) = true)
    {cc_InvalidMachine : Addr} (ca_InvalidMachine : PySem.W.nsIn K mainGlobals "InvalidMachine" = some (some (.ref cc_InvalidMachine))) (cx_InvalidMachine : xkB K cc_InvalidMachine = true)
    (ce_InvalidMachine : PySem.W.excIn K cc_InvalidMachine [.type "ValueError", .type "Exception", .type "BaseException", .type "object"] "ValueError.__new__" = true)
    {cc_InvalidText : Addr} (ca_InvalidText : PySem.W.nsIn K mainGlobals "InvalidText" = some (some (.ref cc_InvalidText))) (cx_InvalidText : xkB K cc_InvalidText = true)
    (ce_InvalidText : PySem.W.excIn K cc_InvalidText [.type "ValueError", .type "Exception", .type "BaseException", .type "object"] "ValueError.__new__" = true)
    {cc_InvalidPattern : Addr} (ca_InvalidPattern : PySem.W.nsIn K mainGlobals "InvalidPattern" = some (some (.ref cc_InvalidPattern))) (cx_InvalidPattern : xkB K cc_InvalidPattern = true)
    (ce_InvalidPattern : PySem.W.excIn K cc_InvalidPattern [.type "ValueError", .type "Exception", .type "BaseException", .type "object"] "ValueError.__new__" = true)
    {cc_InvalidSquare : Addr} (ca_InvalidSquare : PySem.W.nsIn K mainGlobals "InvalidSquare" = some (some (.ref cc_InvalidSquare))) (cx_InvalidSquare : xkB K cc_InvalidSquare = true)
    (ce_InvalidSquare : PySem.W.excIn K cc_InvalidSquare [.type "ValueError", .type "Exception", .type "BaseException", .type "object"] "ValueError.__new__" = true)
    {cc_InvalidCosts : Addr} (ca_InvalidCosts : PySem.W.nsIn K mainGlobals "InvalidCosts" = some (some (.ref cc_InvalidCosts))) (cx_InvalidCosts : xkB K cc_InvalidCosts = true)
    (ce_InvalidCosts : PySem.W.excIn K cc_InvalidCosts [.type "ValueError", .type "Exception", .type "BaseException", .type "object"] "ValueError.__new__" = true)
    {cc_InvalidRow : Addr} (ca_InvalidRow : PySem.W.nsIn K mainGlobals "InvalidRow" = some (some (.ref cc_InvalidRow))) (cx_InvalidRow : xkB K cc_InvalidRow = true)
    (ce_InvalidRow : PySem.W.excIn K cc_InvalidRow [.type "ValueError", .type "Exception", .type "BaseException", .type "object"] "ValueError.__new__" = true)
    {cc_InvalidPaper : Addr} (ca_InvalidPaper : PySem.W.nsIn K mainGlobals "InvalidPaper" = some (some (.ref cc_InvalidPaper))) (cx_InvalidPaper : xkB K cc_InvalidPaper = true)
    (ce_InvalidPaper : PySem.W.excIn K cc_InvalidPaper [.type "ValueError", .type "Exception", .type "BaseException", .type "object"] "ValueError.__new__" = true)
    {cc_InvalidOperation : Addr} (ca_InvalidOperation : PySem.W.nsIn K mainGlobals "InvalidOperation" = some (some (.ref cc_InvalidOperation))) (cx_InvalidOperation : xkB K cc_InvalidOperation = true)
    (ce_InvalidOperation : PySem.W.excIn K cc_InvalidOperation [.type "ValueError", .type "Exception", .type "BaseException", .type "object"] "ValueError.__new__" = true)
    {cc_ParseError : Addr} (ca_ParseError : PySem.W.nsIn K mainGlobals "ParseError" = some (some (.ref cc_ParseError))) (cx_ParseError : xkB K cc_ParseError = true)
    {ci_ParseError : Addr} {cod_ParseError can_ParseError : Option Addr} {csl_ParseError : Array (Option Value)} {coc_ParseError ckV_ParseError cdc_ParseError cpm_ParseError ccd_ParseError cct_ParseError : Value}
    (co_ParseError : ocB K cc_ParseError "ValueError" "ValueError.__new__" [.type "ValueError", .type "Exception", .type "BaseException", .type "object"] "number" = true) (cf_ParseError : PySem.W.findIn K (.ref cc_ParseError) "__init__" = some (some (.ref ci_ParseError)))
    (ct_ParseError : PySem.W.typeIn K (.ref ci_ParseError) = some (.type "function"))
    (cl_ParseError : K.lookup ci_ParseError = some ⟨coc_ParseError, cod_ParseError, .func (PySem.W.fnOf "__init__" "ParseError.__init__" (defArgs s_ParseError) (defBody s_ParseError) (defScope s_ParseError) .none ckV_ParseError cdc_ParseError cpm_ParseError can_ParseError ccd_ParseError cct_ParseError), csl_ParseError⟩)
    (cc1_ParseError : PySem.W.codeIn K ccd_ParseError "ParseError.__init__" = true) (ck_ParseError : PySem.W.keepIn K (.ref ci_ParseError) = true)
    {cc_UnknownName : Addr} (ca_UnknownName : PySem.W.nsIn K mainGlobals "UnknownName" = some (some (.ref cc_UnknownName))) (cx_UnknownName : xkB K cc_UnknownName = true)
    {ci_UnknownName : Addr} {cod_UnknownName can_UnknownName : Option Addr} {csl_UnknownName : Array (Option Value)} {coc_UnknownName ckV_UnknownName cdc_UnknownName cpm_UnknownName ccd_UnknownName cct_UnknownName : Value}
    (co_UnknownName : ocB K cc_UnknownName "LookupError" "LookupError.__new__" [.type "KeyError", .type "LookupError", .type "Exception", .type "BaseException", .type "object"] "word" = true) (cf_UnknownName : PySem.W.findIn K (.ref cc_UnknownName) "__init__" = some (some (.ref ci_UnknownName)))
    (ct_UnknownName : PySem.W.typeIn K (.ref ci_UnknownName) = some (.type "function"))
    (cl_UnknownName : K.lookup ci_UnknownName = some ⟨coc_UnknownName, cod_UnknownName, .func (PySem.W.fnOf "__init__" "UnknownName.__init__" (defArgs s_UnknownName) (defBody s_UnknownName) (defScope s_UnknownName) .none ckV_UnknownName cdc_UnknownName cpm_UnknownName can_UnknownName ccd_UnknownName cct_UnknownName), csl_UnknownName⟩)
    (cc1_UnknownName : PySem.W.codeIn K ccd_UnknownName "UnknownName.__init__" = true) (ck_UnknownName : PySem.W.keepIn K (.ref ci_UnknownName) = true)
    {cc_NotTaken : Addr} (ca_NotTaken : PySem.W.nsIn K mainGlobals "NotTaken" = some (some (.ref cc_NotTaken))) (cx_NotTaken : xkB K cc_NotTaken = true)
    {ci_NotTaken : Addr} {cod_NotTaken can_NotTaken : Option Addr} {csl_NotTaken : Array (Option Value)} {coc_NotTaken ckV_NotTaken cdc_NotTaken cpm_NotTaken ccd_NotTaken cct_NotTaken : Value}
    (co_NotTaken : ocB K cc_NotTaken "LookupError" "LookupError.__new__" [.type "LookupError", .type "Exception", .type "BaseException", .type "object"] "untaken" = true) (cf_NotTaken : PySem.W.findIn K (.ref cc_NotTaken) "__init__" = some (some (.ref ci_NotTaken)))
    (ct_NotTaken : PySem.W.typeIn K (.ref ci_NotTaken) = some (.type "function"))
    (cl_NotTaken : K.lookup ci_NotTaken = some ⟨coc_NotTaken, cod_NotTaken, .func (PySem.W.fnOf "__init__" "NotTaken.__init__" (defArgs s_NotTaken) (defBody s_NotTaken) (defScope s_NotTaken) .none ckV_NotTaken cdc_NotTaken cpm_NotTaken can_NotTaken ccd_NotTaken cct_NotTaken), csl_NotTaken⟩)
    (cc1_NotTaken : PySem.W.codeIn K ccd_NotTaken "NotTaken.__init__" = true) (ck_NotTaken : PySem.W.keepIn K (.ref ci_NotTaken) = true)
    {cc_InvalidNumber : Addr} (ca_InvalidNumber : PySem.W.nsIn K mainGlobals "InvalidNumber" = some (some (.ref cc_InvalidNumber))) (cx_InvalidNumber : xkB K cc_InvalidNumber = true)
    {ci_InvalidNumber : Addr} {cod_InvalidNumber can_InvalidNumber : Option Addr} {csl_InvalidNumber : Array (Option Value)} {coc_InvalidNumber ckV_InvalidNumber cdc_InvalidNumber cpm_InvalidNumber ccd_InvalidNumber cct_InvalidNumber : Value}
    (co_InvalidNumber : ocB K cc_InvalidNumber "IndexError" "IndexError.__new__" [.type "IndexError", .type "LookupError", .type "Exception", .type "BaseException", .type "object"] "value" = true) (cf_InvalidNumber : PySem.W.findIn K (.ref cc_InvalidNumber) "__init__" = some (some (.ref ci_InvalidNumber)))
    (ct_InvalidNumber : PySem.W.typeIn K (.ref ci_InvalidNumber) = some (.type "function"))
    (cl_InvalidNumber : K.lookup ci_InvalidNumber = some ⟨coc_InvalidNumber, cod_InvalidNumber, .func (PySem.W.fnOf "__init__" "InvalidNumber.__init__" (defArgs s_InvalidNumber) (defBody s_InvalidNumber) (defScope s_InvalidNumber) .none ckV_InvalidNumber cdc_InvalidNumber cpm_InvalidNumber can_InvalidNumber ccd_InvalidNumber cct_InvalidNumber), csl_InvalidNumber⟩)
    (cc1_InvalidNumber : PySem.W.codeIn K ccd_InvalidNumber "InvalidNumber.__init__" = true) (ck_InvalidNumber : PySem.W.keepIn K (.ref ci_InvalidNumber) = true)
    {cc_NothingToUndo : Addr} (ca_NothingToUndo : PySem.W.nsIn K mainGlobals "NothingToUndo" = some (some (.ref cc_NothingToUndo))) (cx_NothingToUndo : xkB K cc_NothingToUndo = true)
    {ci_NothingToUndo : Addr} {cod_NothingToUndo can_NothingToUndo : Option Addr} {csl_NothingToUndo : Array (Option Value)} {coc_NothingToUndo ckV_NothingToUndo cdc_NothingToUndo cpm_NothingToUndo ccd_NothingToUndo cct_NothingToUndo : Value}
    (co_NothingToUndo : ocB K cc_NothingToUndo "RuntimeError" "RuntimeError.__new__" [.type "RuntimeError", .type "Exception", .type "BaseException", .type "object"] "many" = true) (cf_NothingToUndo : PySem.W.findIn K (.ref cc_NothingToUndo) "__init__" = some (some (.ref ci_NothingToUndo)))
    (ct_NothingToUndo : PySem.W.typeIn K (.ref ci_NothingToUndo) = some (.type "function"))
    (cl_NothingToUndo : K.lookup ci_NothingToUndo = some ⟨coc_NothingToUndo, cod_NothingToUndo, .func (PySem.W.fnOf "__init__" "NothingToUndo.__init__" (defArgs s_NothingToUndo) (defBody s_NothingToUndo) (defScope s_NothingToUndo) .none ckV_NothingToUndo cdc_NothingToUndo cpm_NothingToUndo can_NothingToUndo ccd_NothingToUndo cct_NothingToUndo), csl_NothingToUndo⟩)
    (cc1_NothingToUndo : PySem.W.codeIn K ccd_NothingToUndo "NothingToUndo.__init__" = true) (ck_NothingToUndo : PySem.W.keepIn K (.ref ci_NothingToUndo) = true)
    {cc_TooMany : Addr} (ca_TooMany : PySem.W.nsIn K mainGlobals "TooMany" = some (some (.ref cc_TooMany))) (cx_TooMany : xkB K cc_TooMany = true)
    {ci_TooMany : Addr} {cod_TooMany can_TooMany : Option Addr} {csl_TooMany : Array (Option Value)} {coc_TooMany ckV_TooMany cdc_TooMany cpm_TooMany ccd_TooMany cct_TooMany : Value}
    (co_TooMany : ocB K cc_TooMany "OverflowError" "OverflowError.__new__" [.type "OverflowError", .type "ArithmeticError", .type "Exception", .type "BaseException", .type "object"] "limit" = true) (cf_TooMany : PySem.W.findIn K (.ref cc_TooMany) "__init__" = some (some (.ref ci_TooMany)))
    (ct_TooMany : PySem.W.typeIn K (.ref ci_TooMany) = some (.type "function"))
    (cl_TooMany : K.lookup ci_TooMany = some ⟨coc_TooMany, cod_TooMany, .func (PySem.W.fnOf "__init__" "TooMany.__init__" (defArgs s_TooMany) (defBody s_TooMany) (defScope s_TooMany) .none ckV_TooMany cdc_TooMany cpm_TooMany can_TooMany ccd_TooMany cct_TooMany), csl_TooMany⟩)
    (cc1_TooMany : PySem.W.codeIn K ccd_TooMany "TooMany.__init__" = true) (ck_TooMany : PySem.W.keepIn K (.ref ci_TooMany) = true)
    {cc_Unstable : Addr} (ca_Unstable : PySem.W.nsIn K mainGlobals "Unstable" = some (some (.ref cc_Unstable))) (cx_Unstable : xkB K cc_Unstable = true)
    {ci_Unstable : Addr} {cod_Unstable can_Unstable : Option Addr} {csl_Unstable : Array (Option Value)} {coc_Unstable ckV_Unstable cdc_Unstable cpm_Unstable ccd_Unstable cct_Unstable : Value}
    (co_Unstable : ocB K cc_Unstable "ArithmeticError" "ArithmeticError.__new__" [.type "ArithmeticError", .type "Exception", .type "BaseException", .type "object"] "part" = true) (cf_Unstable : PySem.W.findIn K (.ref cc_Unstable) "__init__" = some (some (.ref ci_Unstable)))
    (ct_Unstable : PySem.W.typeIn K (.ref ci_Unstable) = some (.type "function"))
    (cl_Unstable : K.lookup ci_Unstable = some ⟨coc_Unstable, cod_Unstable, .func (PySem.W.fnOf "__init__" "Unstable.__init__" (defArgs s_Unstable) (defBody s_Unstable) (defScope s_Unstable) .none ckV_Unstable cdc_Unstable cpm_Unstable can_Unstable ccd_Unstable cct_Unstable), csl_Unstable⟩)
    (cc1_Unstable : PySem.W.codeIn K ccd_Unstable "Unstable.__init__" = true) (ck_Unstable : PySem.W.keepIn K (.ref ci_Unstable) = true)
    {cc_Refused : Addr} (ca_Refused : PySem.W.nsIn K mainGlobals "Refused" = some (some (.ref cc_Refused))) (cx_Refused : xkB K cc_Refused = true)
    {ci_Refused : Addr} {cod_Refused can_Refused : Option Addr} {csl_Refused : Array (Option Value)} {coc_Refused ckV_Refused cdc_Refused cpm_Refused ccd_Refused cct_Refused : Value}
    (co_Refused : ocB K cc_Refused "ArithmeticError" "ArithmeticError.__new__" [.type "ArithmeticError", .type "Exception", .type "BaseException", .type "object"] "pledge" = true) (cf_Refused : PySem.W.findIn K (.ref cc_Refused) "__init__" = some (some (.ref ci_Refused)))
    (ct_Refused : PySem.W.typeIn K (.ref ci_Refused) = some (.type "function"))
    (cl_Refused : K.lookup ci_Refused = some ⟨coc_Refused, cod_Refused, .func (PySem.W.fnOf "__init__" "Refused.__init__" (defArgs s_Refused) (defBody s_Refused) (defScope s_Refused) .none ckV_Refused cdc_Refused cpm_Refused can_Refused ccd_Refused cct_Refused), csl_Refused⟩)
    (cc1_Refused : PySem.W.codeIn K ccd_Refused "Refused.__init__" = true) (ck_Refused : PySem.W.keepIn K (.ref ci_Refused) = true)
    {cc_PriceError : Addr} (ca_PriceError : PySem.W.nsIn K mainGlobals "PriceError" = some (some (.ref cc_PriceError))) (cx_PriceError : xkB K cc_PriceError = true)
    (ce_PriceError : PySem.W.excIn K cc_PriceError [.type "ValueError", .type "Exception", .type "BaseException", .type "object"] "ValueError.__new__" = true)
    (tb_InvalidMachine : [.ref cc_InvalidMachine, .ref cc_InvalidText, .ref cc_InvalidPattern, .ref cc_InvalidSquare, .ref cc_InvalidCosts, .ref cc_InvalidRow, .ref cc_InvalidPaper, .ref cc_InvalidOperation, .ref cc_ParseError, .ref cc_UnknownName, .ref cc_NotTaken, .ref cc_InvalidNumber, .ref cc_NothingToUndo, .ref cc_TooMany, .ref cc_Unstable, .ref cc_Refused, .ref cc_PriceError, .ty "ValueError", .ty "KeyError", .ty "IndexError", .ty "LookupError", .ty "RuntimeError", .ty "OverflowError", .ty "ArithmeticError"].map (isOf K cc_InvalidMachine) = [true, false, false, false, false, false, false, false, false, false, false, false, false, false, false, false, true, true, false, false, false, false, false, false].map some)
    (tb_InvalidText : [.ref cc_InvalidMachine, .ref cc_InvalidText, .ref cc_InvalidPattern, .ref cc_InvalidSquare, .ref cc_InvalidCosts, .ref cc_InvalidRow, .ref cc_InvalidPaper, .ref cc_InvalidOperation, .ref cc_ParseError, .ref cc_UnknownName, .ref cc_NotTaken, .ref cc_InvalidNumber, .ref cc_NothingToUndo, .ref cc_TooMany, .ref cc_Unstable, .ref cc_Refused, .ref cc_PriceError, .ty "ValueError", .ty "KeyError", .ty "IndexError", .ty "LookupError", .ty "RuntimeError", .ty "OverflowError", .ty "ArithmeticError"].map (isOf K cc_InvalidText) = [false, true, false, false, false, false, false, false, false, false, false, false, false, false, false, false, true, true, false, false, false, false, false, false].map some)
    (tb_InvalidPattern : [.ref cc_InvalidMachine, .ref cc_InvalidText, .ref cc_InvalidPattern, .ref cc_InvalidSquare, .ref cc_InvalidCosts, .ref cc_InvalidRow, .ref cc_InvalidPaper, .ref cc_InvalidOperation, .ref cc_ParseError, .ref cc_UnknownName, .ref cc_NotTaken, .ref cc_InvalidNumber, .ref cc_NothingToUndo, .ref cc_TooMany, .ref cc_Unstable, .ref cc_Refused, .ref cc_PriceError, .ty "ValueError", .ty "KeyError", .ty "IndexError", .ty "LookupError", .ty "RuntimeError", .ty "OverflowError", .ty "ArithmeticError"].map (isOf K cc_InvalidPattern) = [false, false, true, false, false, false, false, false, false, false, false, false, false, false, false, false, true, true, false, false, false, false, false, false].map some)
    (tb_InvalidSquare : [.ref cc_InvalidMachine, .ref cc_InvalidText, .ref cc_InvalidPattern, .ref cc_InvalidSquare, .ref cc_InvalidCosts, .ref cc_InvalidRow, .ref cc_InvalidPaper, .ref cc_InvalidOperation, .ref cc_ParseError, .ref cc_UnknownName, .ref cc_NotTaken, .ref cc_InvalidNumber, .ref cc_NothingToUndo, .ref cc_TooMany, .ref cc_Unstable, .ref cc_Refused, .ref cc_PriceError, .ty "ValueError", .ty "KeyError", .ty "IndexError", .ty "LookupError", .ty "RuntimeError", .ty "OverflowError", .ty "ArithmeticError"].map (isOf K cc_InvalidSquare) = [false, false, false, true, false, false, false, false, false, false, false, false, false, false, false, false, true, true, false, false, false, false, false, false].map some)
    (tb_InvalidCosts : [.ref cc_InvalidMachine, .ref cc_InvalidText, .ref cc_InvalidPattern, .ref cc_InvalidSquare, .ref cc_InvalidCosts, .ref cc_InvalidRow, .ref cc_InvalidPaper, .ref cc_InvalidOperation, .ref cc_ParseError, .ref cc_UnknownName, .ref cc_NotTaken, .ref cc_InvalidNumber, .ref cc_NothingToUndo, .ref cc_TooMany, .ref cc_Unstable, .ref cc_Refused, .ref cc_PriceError, .ty "ValueError", .ty "KeyError", .ty "IndexError", .ty "LookupError", .ty "RuntimeError", .ty "OverflowError", .ty "ArithmeticError"].map (isOf K cc_InvalidCosts) = [false, false, false, false, true, false, false, false, false, false, false, false, false, false, false, false, true, true, false, false, false, false, false, false].map some)
    (tb_InvalidRow : [.ref cc_InvalidMachine, .ref cc_InvalidText, .ref cc_InvalidPattern, .ref cc_InvalidSquare, .ref cc_InvalidCosts, .ref cc_InvalidRow, .ref cc_InvalidPaper, .ref cc_InvalidOperation, .ref cc_ParseError, .ref cc_UnknownName, .ref cc_NotTaken, .ref cc_InvalidNumber, .ref cc_NothingToUndo, .ref cc_TooMany, .ref cc_Unstable, .ref cc_Refused, .ref cc_PriceError, .ty "ValueError", .ty "KeyError", .ty "IndexError", .ty "LookupError", .ty "RuntimeError", .ty "OverflowError", .ty "ArithmeticError"].map (isOf K cc_InvalidRow) = [false, false, false, false, false, true, false, false, false, false, false, false, false, false, false, false, true, true, false, false, false, false, false, false].map some)
    (tb_InvalidPaper : [.ref cc_InvalidMachine, .ref cc_InvalidText, .ref cc_InvalidPattern, .ref cc_InvalidSquare, .ref cc_InvalidCosts, .ref cc_InvalidRow, .ref cc_InvalidPaper, .ref cc_InvalidOperation, .ref cc_ParseError, .ref cc_UnknownName, .ref cc_NotTaken, .ref cc_InvalidNumber, .ref cc_NothingToUndo, .ref cc_TooMany, .ref cc_Unstable, .ref cc_Refused, .ref cc_PriceError, .ty "ValueError", .ty "KeyError", .ty "IndexError", .ty "LookupError", .ty "RuntimeError", .ty "OverflowError", .ty "ArithmeticError"].map (isOf K cc_InvalidPaper) = [false, false, false, false, false, false, true, false, false, false, false, false, false, false, false, false, true, true, false, false, false, false, false, false].map some)
    (tb_InvalidOperation : [.ref cc_InvalidMachine, .ref cc_InvalidText, .ref cc_InvalidPattern, .ref cc_InvalidSquare, .ref cc_InvalidCosts, .ref cc_InvalidRow, .ref cc_InvalidPaper, .ref cc_InvalidOperation, .ref cc_ParseError, .ref cc_UnknownName, .ref cc_NotTaken, .ref cc_InvalidNumber, .ref cc_NothingToUndo, .ref cc_TooMany, .ref cc_Unstable, .ref cc_Refused, .ref cc_PriceError, .ty "ValueError", .ty "KeyError", .ty "IndexError", .ty "LookupError", .ty "RuntimeError", .ty "OverflowError", .ty "ArithmeticError"].map (isOf K cc_InvalidOperation) = [false, false, false, false, false, false, false, true, false, false, false, false, false, false, false, false, true, true, false, false, false, false, false, false].map some)
    (tb_ParseError : [.ref cc_InvalidMachine, .ref cc_InvalidText, .ref cc_InvalidPattern, .ref cc_InvalidSquare, .ref cc_InvalidCosts, .ref cc_InvalidRow, .ref cc_InvalidPaper, .ref cc_InvalidOperation, .ref cc_ParseError, .ref cc_UnknownName, .ref cc_NotTaken, .ref cc_InvalidNumber, .ref cc_NothingToUndo, .ref cc_TooMany, .ref cc_Unstable, .ref cc_Refused, .ref cc_PriceError, .ty "ValueError", .ty "KeyError", .ty "IndexError", .ty "LookupError", .ty "RuntimeError", .ty "OverflowError", .ty "ArithmeticError"].map (isOf K cc_ParseError) = [false, false, false, false, false, false, false, false, true, false, false, false, false, false, false, false, true, true, false, false, false, false, false, false].map some)
    (tb_UnknownName : [.ref cc_InvalidMachine, .ref cc_InvalidText, .ref cc_InvalidPattern, .ref cc_InvalidSquare, .ref cc_InvalidCosts, .ref cc_InvalidRow, .ref cc_InvalidPaper, .ref cc_InvalidOperation, .ref cc_ParseError, .ref cc_UnknownName, .ref cc_NotTaken, .ref cc_InvalidNumber, .ref cc_NothingToUndo, .ref cc_TooMany, .ref cc_Unstable, .ref cc_Refused, .ref cc_PriceError, .ty "ValueError", .ty "KeyError", .ty "IndexError", .ty "LookupError", .ty "RuntimeError", .ty "OverflowError", .ty "ArithmeticError"].map (isOf K cc_UnknownName) = [false, false, false, false, false, false, false, false, false, true, false, false, false, false, false, false, false, false, true, false, true, false, false, false].map some)
    (tb_NotTaken : [.ref cc_InvalidMachine, .ref cc_InvalidText, .ref cc_InvalidPattern, .ref cc_InvalidSquare, .ref cc_InvalidCosts, .ref cc_InvalidRow, .ref cc_InvalidPaper, .ref cc_InvalidOperation, .ref cc_ParseError, .ref cc_UnknownName, .ref cc_NotTaken, .ref cc_InvalidNumber, .ref cc_NothingToUndo, .ref cc_TooMany, .ref cc_Unstable, .ref cc_Refused, .ref cc_PriceError, .ty "ValueError", .ty "KeyError", .ty "IndexError", .ty "LookupError", .ty "RuntimeError", .ty "OverflowError", .ty "ArithmeticError"].map (isOf K cc_NotTaken) = [false, false, false, false, false, false, false, false, false, false, true, false, false, false, false, false, false, false, false, false, true, false, false, false].map some)
    (tb_InvalidNumber : [.ref cc_InvalidMachine, .ref cc_InvalidText, .ref cc_InvalidPattern, .ref cc_InvalidSquare, .ref cc_InvalidCosts, .ref cc_InvalidRow, .ref cc_InvalidPaper, .ref cc_InvalidOperation, .ref cc_ParseError, .ref cc_UnknownName, .ref cc_NotTaken, .ref cc_InvalidNumber, .ref cc_NothingToUndo, .ref cc_TooMany, .ref cc_Unstable, .ref cc_Refused, .ref cc_PriceError, .ty "ValueError", .ty "KeyError", .ty "IndexError", .ty "LookupError", .ty "RuntimeError", .ty "OverflowError", .ty "ArithmeticError"].map (isOf K cc_InvalidNumber) = [false, false, false, false, false, false, false, false, false, false, false, true, false, false, false, false, false, false, false, true, true, false, false, false].map some)
    (tb_NothingToUndo : [.ref cc_InvalidMachine, .ref cc_InvalidText, .ref cc_InvalidPattern, .ref cc_InvalidSquare, .ref cc_InvalidCosts, .ref cc_InvalidRow, .ref cc_InvalidPaper, .ref cc_InvalidOperation, .ref cc_ParseError, .ref cc_UnknownName, .ref cc_NotTaken, .ref cc_InvalidNumber, .ref cc_NothingToUndo, .ref cc_TooMany, .ref cc_Unstable, .ref cc_Refused, .ref cc_PriceError, .ty "ValueError", .ty "KeyError", .ty "IndexError", .ty "LookupError", .ty "RuntimeError", .ty "OverflowError", .ty "ArithmeticError"].map (isOf K cc_NothingToUndo) = [false, false, false, false, false, false, false, false, false, false, false, false, true, false, false, false, false, false, false, false, false, true, false, false].map some)
    (tb_TooMany : [.ref cc_InvalidMachine, .ref cc_InvalidText, .ref cc_InvalidPattern, .ref cc_InvalidSquare, .ref cc_InvalidCosts, .ref cc_InvalidRow, .ref cc_InvalidPaper, .ref cc_InvalidOperation, .ref cc_ParseError, .ref cc_UnknownName, .ref cc_NotTaken, .ref cc_InvalidNumber, .ref cc_NothingToUndo, .ref cc_TooMany, .ref cc_Unstable, .ref cc_Refused, .ref cc_PriceError, .ty "ValueError", .ty "KeyError", .ty "IndexError", .ty "LookupError", .ty "RuntimeError", .ty "OverflowError", .ty "ArithmeticError"].map (isOf K cc_TooMany) = [false, false, false, false, false, false, false, false, false, false, false, false, false, true, false, false, false, false, false, false, false, false, true, true].map some)
    (tb_Unstable : [.ref cc_InvalidMachine, .ref cc_InvalidText, .ref cc_InvalidPattern, .ref cc_InvalidSquare, .ref cc_InvalidCosts, .ref cc_InvalidRow, .ref cc_InvalidPaper, .ref cc_InvalidOperation, .ref cc_ParseError, .ref cc_UnknownName, .ref cc_NotTaken, .ref cc_InvalidNumber, .ref cc_NothingToUndo, .ref cc_TooMany, .ref cc_Unstable, .ref cc_Refused, .ref cc_PriceError, .ty "ValueError", .ty "KeyError", .ty "IndexError", .ty "LookupError", .ty "RuntimeError", .ty "OverflowError", .ty "ArithmeticError"].map (isOf K cc_Unstable) = [false, false, false, false, false, false, false, false, false, false, false, false, false, false, true, false, false, false, false, false, false, false, false, true].map some)
    (tb_Refused : [.ref cc_InvalidMachine, .ref cc_InvalidText, .ref cc_InvalidPattern, .ref cc_InvalidSquare, .ref cc_InvalidCosts, .ref cc_InvalidRow, .ref cc_InvalidPaper, .ref cc_InvalidOperation, .ref cc_ParseError, .ref cc_UnknownName, .ref cc_NotTaken, .ref cc_InvalidNumber, .ref cc_NothingToUndo, .ref cc_TooMany, .ref cc_Unstable, .ref cc_Refused, .ref cc_PriceError, .ty "ValueError", .ty "KeyError", .ty "IndexError", .ty "LookupError", .ty "RuntimeError", .ty "OverflowError", .ty "ArithmeticError"].map (isOf K cc_Refused) = [false, false, false, false, false, false, false, false, false, false, false, false, false, false, false, true, false, false, false, false, false, false, false, true].map some)
    (tb_PriceError : [.ref cc_InvalidMachine, .ref cc_InvalidText, .ref cc_InvalidPattern, .ref cc_InvalidSquare, .ref cc_InvalidCosts, .ref cc_InvalidRow, .ref cc_InvalidPaper, .ref cc_InvalidOperation, .ref cc_ParseError, .ref cc_UnknownName, .ref cc_NotTaken, .ref cc_InvalidNumber, .ref cc_NothingToUndo, .ref cc_TooMany, .ref cc_Unstable, .ref cc_Refused, .ref cc_PriceError, .ty "ValueError", .ty "KeyError", .ty "IndexError", .ty "LookupError", .ty "RuntimeError", .ty "OverflowError", .ty "ArithmeticError"].map (isOf K cc_PriceError) = [false, false, false, false, false, false, false, false, false, false, false, false, false, false, false, false, true, true, false, false, false, false, false, false].map some)
    (tx_InvalidCosts : [cc_ParseError, cc_PriceError].map (fun D => PySem.W.exmOne K (.ref cc_InvalidCosts) (.ref D)) = [some false, some true])
    (tx_Unstable : [cc_ParseError, cc_PriceError, cc_Refused, cc_Unstable].map (fun D => PySem.W.exmOne K (.ref cc_Unstable) (.ref D)) = [some false, some false, some false, some true])
    (tx_NotTaken : [cc_ParseError, cc_PriceError, cc_Refused, cc_Unstable, cc_NotTaken].map (fun D => PySem.W.exmOne K (.ref cc_NotTaken) (.ref D)) = [some false, some false, some false, some false, some true])
    (tx_ParseError : [cc_ParseError].map (fun D => PySem.W.exmOne K (.ref cc_ParseError) (.ref D)) = [some true])
    (z_ArithmeticError : PySem.W.nsIn K mainGlobals "ArithmeticError" = some none)
    (z_IndexError : PySem.W.nsIn K mainGlobals "IndexError" = some none)
    (z_KeyError : PySem.W.nsIn K mainGlobals "KeyError" = some none)
    (z_LookupError : PySem.W.nsIn K mainGlobals "LookupError" = some none)
    (z_OverflowError : PySem.W.nsIn K mainGlobals "OverflowError" = some none)
    (z_RuntimeError : PySem.W.nsIn K mainGlobals "RuntimeError" = some none)
    (z_ValueError : PySem.W.nsIn K mainGlobals "ValueError" = some none)
    (z_abs : PySem.W.nsIn K mainGlobals "abs" = some none)
    (z_int : PySem.W.nsIn K mainGlobals "int" = some none)
    (z_isinstance : PySem.W.nsIn K mainGlobals "isinstance" = some none)
    (z_len : PySem.W.nsIn K mainGlobals "len" = some none)
    (z_max : PySem.W.nsIn K mainGlobals "max" = some none)
    (z_min : PySem.W.nsIn K mainGlobals "min" = some none)
    (z_range : PySem.W.nsIn K mainGlobals "range" = some none)
    (z_repr : PySem.W.nsIn K mainGlobals "repr" = some none) :
    ∃ fd : FuncData, (∀ (s : Shared) (v : Value), BindsTo s fd ⟨[v], []⟩ [("_law_script", v)]) ∧ ∀ base : Heap, K.In base → base.Ns mainGlobals mg →
      FnG l.prog w K mg base CX0 6 fa fd ["_law_script"] (spLaw K) := by
  have e := hfa.symm.trans (PySem.W.mg_of X G a10)
  cases e
  have F1 := fun_mk (st := s_dice) l1 c1 k1
  have b1 := F1.binds (ps := P_dice) fun _ _ _ _ _ _ us hl => match us, hl with | [_, _], _ => rfl
  have F2 := fun_mk (st := s_roll) l2 c2 k2
  have b2 := F2.binds (ps := P_roll) fun _ _ _ _ _ _ us hl => match us, hl with | [_, _], _ => rfl
  have F3 := fun_mk (st := s_pick) l3 c3 k3
  have b3 := F3.binds (ps := P_pick) fun _ _ _ _ _ _ us hl => match us, hl with | [_, _], _ => rfl
  have F4 := fun_mk (st := s_own) l4 c4 k4
  have b4 := F4.binds (ps := P_own) fun _ _ _ _ _ _ us hl => match us, hl with | [_], _ => rfl
  have F5 := fun_mk (st := s_whole) l5 c5 k5
  have b5 := F5.binds (ps := P_whole) fun _ _ _ _ _ _ us hl => match us, hl with | [_], _ => rfl
  have F6 := fun_mk (st := s_messages) l6 c6 k6
  have b6 := F6.binds (ps := P_messages) fun _ _ _ _ _ _ us hl => match us, hl with | [_], _ => rfl
  have F7 := fun_mk (st := s_kept) l7 c7 k7
  have b7 := F7.binds (ps := P_kept) fun _ _ _ _ _ _ us hl => match us, hl with | [_, _], _ => rfl
  have F8 := fun_mk (st := s_caught) l8 c8 k8
  have b8 := F8.binds (ps := P_caught) fun _ _ _ _ _ _ us hl => match us, hl with | [_, _], _ => rfl
  have F9 := fun_mk (st := s_right) l9 c9 k9
  have b9 := F9.binds (ps := P_right) fun _ _ _ _ _ _ us hl => match us, hl with | [_], _ => rfl
  have F10 := fun_mk (st := s_law) l10 c10 k10
  have b10 := F10.binds (ps := P_law) fun _ _ _ _ _ _ us hl => match us, hl with | [_], _ => rfl
  have X_InvalidMachine := xk_of cx_InvalidMachine
  have X_InvalidText := xk_of cx_InvalidText
  have X_InvalidPattern := xk_of cx_InvalidPattern
  have X_InvalidSquare := xk_of cx_InvalidSquare
  have X_InvalidCosts := xk_of cx_InvalidCosts
  have X_InvalidRow := xk_of cx_InvalidRow
  have X_InvalidPaper := xk_of cx_InvalidPaper
  have X_InvalidOperation := xk_of cx_InvalidOperation
  have X_ParseError := xk_of cx_ParseError
  have F_ParseError := fun_mk (st := s_ParseError) cl_ParseError cc1_ParseError ck_ParseError
  have b_ParseError := F_ParseError.binds (ps := P_ParseError) fun _ _ _ _ _ _ us hl => match us, hl with | [_, _], _ => rfl
  have X_UnknownName := xk_of cx_UnknownName
  have F_UnknownName := fun_mk (st := s_UnknownName) cl_UnknownName cc1_UnknownName ck_UnknownName
  have b_UnknownName := F_UnknownName.binds (ps := P_UnknownName) fun _ _ _ _ _ _ us hl => match us, hl with | [_, _], _ => rfl
  have X_NotTaken := xk_of cx_NotTaken
  have F_NotTaken := fun_mk (st := s_NotTaken) cl_NotTaken cc1_NotTaken ck_NotTaken
  have b_NotTaken := F_NotTaken.binds (ps := P_NotTaken) fun _ _ _ _ _ _ us hl => match us, hl with | [_, _], _ => rfl
  have X_InvalidNumber := xk_of cx_InvalidNumber
  have F_InvalidNumber := fun_mk (st := s_InvalidNumber) cl_InvalidNumber cc1_InvalidNumber ck_InvalidNumber
  have b_InvalidNumber := F_InvalidNumber.binds (ps := P_InvalidNumber) fun _ _ _ _ _ _ us hl => match us, hl with | [_, _], _ => rfl
  have X_NothingToUndo := xk_of cx_NothingToUndo
  have F_NothingToUndo := fun_mk (st := s_NothingToUndo) cl_NothingToUndo cc1_NothingToUndo ck_NothingToUndo
  have b_NothingToUndo := F_NothingToUndo.binds (ps := P_NothingToUndo) fun _ _ _ _ _ _ us hl => match us, hl with | [_, _], _ => rfl
  have X_TooMany := xk_of cx_TooMany
  have F_TooMany := fun_mk (st := s_TooMany) cl_TooMany cc1_TooMany ck_TooMany
  have b_TooMany := F_TooMany.binds (ps := P_TooMany) fun _ _ _ _ _ _ us hl => match us, hl with | [_, _], _ => rfl
  have X_Unstable := xk_of cx_Unstable
  have F_Unstable := fun_mk (st := s_Unstable) cl_Unstable cc1_Unstable ck_Unstable
  have b_Unstable := F_Unstable.binds (ps := P_Unstable) fun _ _ _ _ _ _ us hl => match us, hl with | [_, _], _ => rfl
  have X_Refused := xk_of cx_Refused
  have F_Refused := fun_mk (st := s_Refused) cl_Refused cc1_Refused ck_Refused
  have b_Refused := F_Refused.binds (ps := P_Refused) fun _ _ _ _ _ _ us hl => match us, hl with | [_, _], _ => rfl
  have X_PriceError := xk_of cx_PriceError
  let Z : Ad := ⟨f1, PySem.W.fnOf "_law_dice" "_law_dice" (defArgs s_dice) (defBody s_dice) (defScope s_dice) .none kV1 dc1 pm1 an1 cd1 ct1,
    f2, PySem.W.fnOf "_law_roll" "_law_roll" (defArgs s_roll) (defBody s_roll) (defScope s_roll) .none kV2 dc2 pm2 an2 cd2 ct2,
    f3, PySem.W.fnOf "_law_pick" "_law_pick" (defArgs s_pick) (defBody s_pick) (defScope s_pick) .none kV3 dc3 pm3 an3 cd3 ct3,
    f4, PySem.W.fnOf "_law_own" "_law_own" (defArgs s_own) (defBody s_own) (defScope s_own) .none kV4 dc4 pm4 an4 cd4 ct4,
    f5, PySem.W.fnOf "_law_whole" "_law_whole" (defArgs s_whole) (defBody s_whole) (defScope s_whole) .none kV5 dc5 pm5 an5 cd5 ct5,
    f6, PySem.W.fnOf "_law_messages" "_law_messages" (defArgs s_messages) (defBody s_messages) (defScope s_messages) .none kV6 dc6 pm6 an6 cd6 ct6,
    f7, PySem.W.fnOf "_law_kept" "_law_kept" (defArgs s_kept) (defBody s_kept) (defScope s_kept) .none kV7 dc7 pm7 an7 cd7 ct7,
    f8, PySem.W.fnOf "_law_caught" "_law_caught" (defArgs s_caught) (defBody s_caught) (defScope s_caught) .none kV8 dc8 pm8 an8 cd8 ct8,
    f9, PySem.W.fnOf "_law_right" "_law_right" (defArgs s_right) (defBody s_right) (defScope s_right) .none kV9 dc9 pm9 an9 cd9 ct9,
    fa, PySem.W.fnOf "law" "law" (defArgs s_law) (defBody s_law) (defScope s_law) .none kV10 dc10 pm10 an10 cd10 ct10,
    cc_InvalidMachine,
    cc_InvalidText,
    cc_InvalidPattern,
    cc_InvalidSquare,
    cc_InvalidCosts,
    cc_InvalidRow,
    cc_InvalidPaper,
    cc_InvalidOperation,
    cc_ParseError, ci_ParseError, PySem.W.fnOf "__init__" "ParseError.__init__" (defArgs s_ParseError) (defBody s_ParseError) (defScope s_ParseError) .none ckV_ParseError cdc_ParseError cpm_ParseError can_ParseError ccd_ParseError cct_ParseError,
    cc_UnknownName, ci_UnknownName, PySem.W.fnOf "__init__" "UnknownName.__init__" (defArgs s_UnknownName) (defBody s_UnknownName) (defScope s_UnknownName) .none ckV_UnknownName cdc_UnknownName cpm_UnknownName can_UnknownName ccd_UnknownName cct_UnknownName,
    cc_NotTaken, ci_NotTaken, PySem.W.fnOf "__init__" "NotTaken.__init__" (defArgs s_NotTaken) (defBody s_NotTaken) (defScope s_NotTaken) .none ckV_NotTaken cdc_NotTaken cpm_NotTaken can_NotTaken ccd_NotTaken cct_NotTaken,
    cc_InvalidNumber, ci_InvalidNumber, PySem.W.fnOf "__init__" "InvalidNumber.__init__" (defArgs s_InvalidNumber) (defBody s_InvalidNumber) (defScope s_InvalidNumber) .none ckV_InvalidNumber cdc_InvalidNumber cpm_InvalidNumber can_InvalidNumber ccd_InvalidNumber cct_InvalidNumber,
    cc_NothingToUndo, ci_NothingToUndo, PySem.W.fnOf "__init__" "NothingToUndo.__init__" (defArgs s_NothingToUndo) (defBody s_NothingToUndo) (defScope s_NothingToUndo) .none ckV_NothingToUndo cdc_NothingToUndo cpm_NothingToUndo can_NothingToUndo ccd_NothingToUndo cct_NothingToUndo,
    cc_TooMany, ci_TooMany, PySem.W.fnOf "__init__" "TooMany.__init__" (defArgs s_TooMany) (defBody s_TooMany) (defScope s_TooMany) .none ckV_TooMany cdc_TooMany cpm_TooMany can_TooMany ccd_TooMany cct_TooMany,
    cc_Unstable, ci_Unstable, PySem.W.fnOf "__init__" "Unstable.__init__" (defArgs s_Unstable) (defBody s_Unstable) (defScope s_Unstable) .none ckV_Unstable cdc_Unstable cpm_Unstable can_Unstable ccd_Unstable cct_Unstable,
    cc_Refused, ci_Refused, PySem.W.fnOf "__init__" "Refused.__init__" (defArgs s_Refused) (defBody s_Refused) (defScope s_Refused) .none ckV_Refused cdc_Refused cpm_Refused can_Refused ccd_Refused cct_Refused,
    cc_PriceError⟩
  have B : Bt mg := ⟨PySem.W.mg_none_of X G z_ArithmeticError, PySem.W.mg_none_of X G z_IndexError, PySem.W.mg_none_of X G z_KeyError, PySem.W.mg_none_of X G z_LookupError, PySem.W.mg_none_of X G z_OverflowError, PySem.W.mg_none_of X G z_RuntimeError, PySem.W.mg_none_of X G z_ValueError, PySem.W.mg_none_of X G z_abs, PySem.W.mg_none_of X G z_int, PySem.W.mg_none_of X G z_isinstance, PySem.W.mg_none_of X G z_len, PySem.W.mg_none_of X G z_max, PySem.W.mg_none_of X G z_min, PySem.W.mg_none_of X G z_range, PySem.W.mg_none_of X G z_repr⟩
  have D : Ds K mg Z := ⟨⟨F1, PySem.W.mg_of X G a1, b1⟩, ⟨F2, PySem.W.mg_of X G a2, b2⟩, ⟨F3, PySem.W.mg_of X G a3, b3⟩, ⟨F4, PySem.W.mg_of X G a4, b4⟩, ⟨F5, PySem.W.mg_of X G a5, b5⟩, ⟨F6, PySem.W.mg_of X G a6, b6⟩, ⟨F7, PySem.W.mg_of X G a7, b7⟩, ⟨F8, PySem.W.mg_of X G a8, b8⟩, ⟨F9, PySem.W.mg_of X G a9, b9⟩, ⟨F10, PySem.W.mg_of X G a10, b10⟩, ⟨PySem.W.mg_of X G ca_InvalidMachine, X_InvalidMachine, ce_InvalidMachine⟩, ⟨PySem.W.mg_of X G ca_InvalidText, X_InvalidText, ce_InvalidText⟩, ⟨PySem.W.mg_of X G ca_InvalidPattern, X_InvalidPattern, ce_InvalidPattern⟩, ⟨PySem.W.mg_of X G ca_InvalidSquare, X_InvalidSquare, ce_InvalidSquare⟩, ⟨PySem.W.mg_of X G ca_InvalidCosts, X_InvalidCosts, ce_InvalidCosts⟩, ⟨PySem.W.mg_of X G ca_InvalidRow, X_InvalidRow, ce_InvalidRow⟩, ⟨PySem.W.mg_of X G ca_InvalidPaper, X_InvalidPaper, ce_InvalidPaper⟩, ⟨PySem.W.mg_of X G ca_InvalidOperation, X_InvalidOperation, ce_InvalidOperation⟩, ⟨PySem.W.mg_of X G ca_ParseError, X_ParseError, oc_of PySem.F.excBase_ValueError PySem.F.store_ValueError X_ParseError co_ParseError, cf_ParseError, ct_ParseError, F_ParseError, b_ParseError⟩, ⟨PySem.W.mg_of X G ca_UnknownName, X_UnknownName, oc_of PySem.F.excBase_LookupError store_KE X_UnknownName co_UnknownName, cf_UnknownName, ct_UnknownName, F_UnknownName, b_UnknownName⟩, ⟨PySem.W.mg_of X G ca_NotTaken, X_NotTaken, oc_of PySem.F.excBase_LookupError PySem.F.store_LookupError X_NotTaken co_NotTaken, cf_NotTaken, ct_NotTaken, F_NotTaken, b_NotTaken⟩, ⟨PySem.W.mg_of X G ca_InvalidNumber, X_InvalidNumber, oc_of PySem.F.excBase_IndexError PySem.F.store_IndexError X_InvalidNumber co_InvalidNumber, cf_InvalidNumber, ct_InvalidNumber, F_InvalidNumber, b_InvalidNumber⟩, ⟨PySem.W.mg_of X G ca_NothingToUndo, X_NothingToUndo, oc_of PySem.F.excBase_RuntimeError PySem.F.store_RuntimeError X_NothingToUndo co_NothingToUndo, cf_NothingToUndo, ct_NothingToUndo, F_NothingToUndo, b_NothingToUndo⟩, ⟨PySem.W.mg_of X G ca_TooMany, X_TooMany, oc_of PySem.F.excBase_OverflowError PySem.F.store_OverflowError X_TooMany co_TooMany, cf_TooMany, ct_TooMany, F_TooMany, b_TooMany⟩, ⟨PySem.W.mg_of X G ca_Unstable, X_Unstable, oc_of PySem.F.excBase_ArithmeticError PySem.F.store_ArithmeticError X_Unstable co_Unstable, cf_Unstable, ct_Unstable, F_Unstable, b_Unstable⟩, ⟨PySem.W.mg_of X G ca_Refused, X_Refused, oc_of PySem.F.excBase_ArithmeticError PySem.F.store_ArithmeticError X_Refused co_Refused, cf_Refused, ct_Refused, F_Refused, b_Refused⟩, ⟨PySem.W.mg_of X G ca_PriceError, X_PriceError, ce_PriceError⟩⟩
  have T : Tb K Z := ⟨tb_InvalidMachine, tb_InvalidText, tb_InvalidPattern, tb_InvalidSquare, tb_InvalidCosts, tb_InvalidRow, tb_InvalidPaper, tb_InvalidOperation, tb_ParseError, tb_UnknownName, tb_NotTaken, tb_InvalidNumber, tb_NothingToUndo, tb_TooMany, tb_Unstable, tb_Refused, tb_PriceError, tx_InvalidCosts, tx_Unstable, tx_NotTaken, tx_ParseError⟩
  exact ⟨_, fun s v => .of_eq rfl, fun base _ _ => ok_law (Z := Z) D B T⟩
end K02
open PySem PySem.W PyProof.Rows in
set_option maxRecDepth 100000 in
set_option maxHeartbeats 0 in
theorem PySem.Challenge.cw_lastprices_k02_errors_kept_and_caught_holds : PySem.Challenge.rw_lastprices_k02_errors_kept_and_caught.Holds := by
  w_on; o_law; k_head; (case hw => w_witness2)
  k_fill
  refine LP.walk_ofG (l := PySem.Challenge.rw_lastprices_k02_errors_kept_and_caught) (n := 63) (k := 6) (x := "_law_script") (sp := K02.spLaw) rfl (by decide) rfl ⟨rfl, by decide, by decide⟩ (fun w h Y => PySem.W.kIn_of Y) ?F (fun _ _ a ns hl _ hS => ⟨a, ns, rfl, hS, hl, fun _ => rfl⟩)
  case F =>
    intro w mg fa h KX G hmg
    refine' K02.all_mk KX G hmg ?a1 ?l1 ?c1 ?k1 ?a2 ?l2 ?c2 ?k2 ?a3 ?l3 ?c3 ?k3 ?a4 ?l4 ?c4 ?k4 ?a5 ?l5 ?c5 ?k5 ?a6 ?l6 ?c6 ?k6 ?a7 ?l7 ?c7 ?k7 ?a8 ?l8 ?c8 ?k8 ?a9 ?l9 ?c9 ?k9 ?a10 ?l10 ?c10 ?k10 ?ca_InvalidMachine ?cx_InvalidMachine ?ce_InvalidMachine ?ca_InvalidText ?cx_InvalidText ?ce_InvalidText ?ca_InvalidPattern ?cx_InvalidPattern ?ce_InvalidPattern ?ca_InvalidSquare ?cx_InvalidSquare ?ce_InvalidSquare ?ca_InvalidCosts ?cx_InvalidCosts ?ce_InvalidCosts ?ca_InvalidRow ?cx_InvalidRow ?ce_InvalidRow ?ca_InvalidPaper ?cx_InvalidPaper ?ce_InvalidPaper ?ca_InvalidOperation ?cx_InvalidOperation ?ce_InvalidOperation ?ca_ParseError ?cx_ParseError ?co_ParseError ?cf_ParseError ?ct_ParseError ?cl_ParseError ?cc1_ParseError ?ck_ParseError ?ca_UnknownName ?cx_UnknownName ?co_UnknownName ?cf_UnknownName ?ct_UnknownName ?cl_UnknownName ?cc1_UnknownName ?ck_UnknownName ?ca_NotTaken ?cx_NotTaken ?co_NotTaken ?cf_NotTaken ?ct_NotTaken ?cl_NotTaken ?cc1_NotTaken ?ck_NotTaken ?ca_InvalidNumber ?cx_InvalidNumber ?co_InvalidNumber ?cf_InvalidNumber ?ct_InvalidNumber ?cl_InvalidNumber ?cc1_InvalidNumber ?ck_InvalidNumber ?ca_NothingToUndo ?cx_NothingToUndo ?co_NothingToUndo ?cf_NothingToUndo ?ct_NothingToUndo ?cl_NothingToUndo ?cc1_NothingToUndo ?ck_NothingToUndo ?ca_TooMany ?cx_TooMany ?co_TooMany ?cf_TooMany ?ct_TooMany ?cl_TooMany ?cc1_TooMany ?ck_TooMany ?ca_Unstable ?cx_Unstable ?co_Unstable ?cf_Unstable ?ct_Unstable ?cl_Unstable ?cc1_Unstable ?ck_Unstable ?ca_Refused ?cx_Refused ?co_Refused ?cf_Refused ?ct_Refused ?cl_Refused ?cc1_Refused ?ck_Refused ?ca_PriceError ?cx_PriceError ?ce_PriceError ?tb_InvalidMachine ?tb_InvalidText ?tb_InvalidPattern ?tb_InvalidSquare ?tb_InvalidCosts ?tb_InvalidRow ?tb_InvalidPaper ?tb_InvalidOperation ?tb_ParseError ?tb_UnknownName ?tb_NotTaken ?tb_InvalidNumber ?tb_NothingToUndo ?tb_TooMany ?tb_Unstable ?tb_Refused ?tb_PriceError ?tx_InvalidCosts ?tx_Unstable ?tx_NotTaken ?tx_ParseError ?z_ArithmeticError ?z_IndexError ?z_KeyError ?z_LookupError ?z_OverflowError ?z_RuntimeError ?z_ValueError ?z_abs ?z_int ?z_isinstance ?z_len ?z_max ?z_min ?z_range ?z_repr
    (case a1 => k_is)
    (case l1 => k_is)
    (case c1 => k_is)
    (case k1 => k_is)
    (case a2 => k_is)
    (case l2 => k_is)
    (case c2 => k_is)
    (case k2 => k_is)
    (case a3 => k_is)
    (case l3 => k_is)
    (case c3 => k_is)
    (case k3 => k_is)
    (case a4 => k_is)
    (case l4 => k_is)
    (case c4 => k_is)
    (case k4 => k_is)
    (case a5 => k_is)
    (case l5 => k_is)
    (case c5 => k_is)
    (case k5 => k_is)
    (case a6 => k_is)
    (case l6 => k_is)
    (case c6 => k_is)
    (case k6 => k_is)
    (case a7 => k_is)
    (case l7 => k_is)
    (case c7 => k_is)
    (case k7 => k_is)
    (case a8 => k_is)
    (case l8 => k_is)
    (case c8 => k_is)
    (case k8 => k_is)
    (case a9 => k_is)
    (case l9 => k_is)
    (case c9 => k_is)
    (case k9 => k_is)
    (case a10 => k_is)
    (case l10 => k_is)
    (case c10 => k_is)
    (case k10 => k_is)
    (case ca_InvalidMachine => k_is)
    (case cx_InvalidMachine => kernel_rfl)
    (case ce_InvalidMachine => kernel_rfl)
    (case ca_InvalidText => k_is)
    (case cx_InvalidText => kernel_rfl)
    (case ce_InvalidText => kernel_rfl)
    (case ca_InvalidPattern => k_is)
    (case cx_InvalidPattern => kernel_rfl)
    (case ce_InvalidPattern => kernel_rfl)
    (case ca_InvalidSquare => k_is)
    (case cx_InvalidSquare => kernel_rfl)
    (case ce_InvalidSquare => kernel_rfl)
    (case ca_InvalidCosts => k_is)
    (case cx_InvalidCosts => kernel_rfl)
    (case ce_InvalidCosts => kernel_rfl)
    (case ca_InvalidRow => k_is)
    (case cx_InvalidRow => kernel_rfl)
    (case ce_InvalidRow => kernel_rfl)
    (case ca_InvalidPaper => k_is)
    (case cx_InvalidPaper => kernel_rfl)
    (case ce_InvalidPaper => kernel_rfl)
    (case ca_InvalidOperation => k_is)
    (case cx_InvalidOperation => kernel_rfl)
    (case ce_InvalidOperation => kernel_rfl)
    (case ca_ParseError => k_is)
    (case cx_ParseError => kernel_rfl)
    (case co_ParseError => kernel_rfl)
    (case cf_ParseError => k_is)
    (case ct_ParseError => k_is)
    (case cl_ParseError => k_is)
    (case cc1_ParseError => k_is)
    (case ck_ParseError => k_is)
    (case ca_UnknownName => k_is)
    (case cx_UnknownName => kernel_rfl)
    (case co_UnknownName => kernel_rfl)
    (case cf_UnknownName => k_is)
    (case ct_UnknownName => k_is)
    (case cl_UnknownName => k_is)
    (case cc1_UnknownName => k_is)
    (case ck_UnknownName => k_is)
    (case ca_NotTaken => k_is)
    (case cx_NotTaken => kernel_rfl)
    (case co_NotTaken => kernel_rfl)
    (case cf_NotTaken => k_is)
    (case ct_NotTaken => k_is)
    (case cl_NotTaken => k_is)
    (case cc1_NotTaken => k_is)
    (case ck_NotTaken => k_is)
    (case ca_InvalidNumber => k_is)
    (case cx_InvalidNumber => kernel_rfl)
    (case co_InvalidNumber => kernel_rfl)
    (case cf_InvalidNumber => k_is)
    (case ct_InvalidNumber => k_is)
    (case cl_InvalidNumber => k_is)
    (case cc1_InvalidNumber => k_is)
    (case ck_InvalidNumber => k_is)
    (case ca_NothingToUndo => k_is)
    (case cx_NothingToUndo => kernel_rfl)
    (case co_NothingToUndo => kernel_rfl)
    (case cf_NothingToUndo => k_is)
    (case ct_NothingToUndo => k_is)
    (case cl_NothingToUndo => k_is)
    (case cc1_NothingToUndo => k_is)
    (case ck_NothingToUndo => k_is)
    (case ca_TooMany => k_is)
    (case cx_TooMany => kernel_rfl)
    (case co_TooMany => kernel_rfl)
    (case cf_TooMany => k_is)
    (case ct_TooMany => k_is)
    (case cl_TooMany => k_is)
    (case cc1_TooMany => k_is)
    (case ck_TooMany => k_is)
    (case ca_Unstable => k_is)
    (case cx_Unstable => kernel_rfl)
    (case co_Unstable => kernel_rfl)
    (case cf_Unstable => k_is)
    (case ct_Unstable => k_is)
    (case cl_Unstable => k_is)
    (case cc1_Unstable => k_is)
    (case ck_Unstable => k_is)
    (case ca_Refused => k_is)
    (case cx_Refused => kernel_rfl)
    (case co_Refused => kernel_rfl)
    (case cf_Refused => k_is)
    (case ct_Refused => k_is)
    (case cl_Refused => k_is)
    (case cc1_Refused => k_is)
    (case ck_Refused => k_is)
    (case ca_PriceError => k_is)
    (case cx_PriceError => kernel_rfl)
    (case ce_PriceError => kernel_rfl)
    (case tb_InvalidMachine => kernel_rfl)
    (case tb_InvalidText => kernel_rfl)
    (case tb_InvalidPattern => kernel_rfl)
    (case tb_InvalidSquare => kernel_rfl)
    (case tb_InvalidCosts => kernel_rfl)
    (case tb_InvalidRow => kernel_rfl)
    (case tb_InvalidPaper => kernel_rfl)
    (case tb_InvalidOperation => kernel_rfl)
    (case tb_ParseError => kernel_rfl)
    (case tb_UnknownName => kernel_rfl)
    (case tb_NotTaken => kernel_rfl)
    (case tb_InvalidNumber => kernel_rfl)
    (case tb_NothingToUndo => kernel_rfl)
    (case tb_TooMany => kernel_rfl)
    (case tb_Unstable => kernel_rfl)
    (case tb_Refused => kernel_rfl)
    (case tb_PriceError => kernel_rfl)
    (case tx_InvalidCosts => kernel_rfl)
    (case tx_Unstable => kernel_rfl)
    (case tx_NotTaken => kernel_rfl)
    (case tx_ParseError => kernel_rfl)
    (case z_ArithmeticError => k_is)
    (case z_IndexError => k_is)
    (case z_KeyError => k_is)
    (case z_LookupError => k_is)
    (case z_OverflowError => k_is)
    (case z_RuntimeError => k_is)
    (case z_ValueError => k_is)
    (case z_abs => k_is)
    (case z_int => k_is)
    (case z_isinstance => k_is)
    (case z_len => k_is)
    (case z_max => k_is)
    (case z_min => k_is)
    (case z_range => k_is)
    (case z_repr => k_is)
#print axioms PySem.Challenge.cw_lastprices_k02_errors_kept_and_caught_holds
