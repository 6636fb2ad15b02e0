import PyProof.Rows.All
import Wide.All
import OpenK.AllK
import Wide.FinOn
import HandS.ForMost
import HandS.IsInst
import HandS.Style
import HandS.StrMore
import HandS.Wide
import HandS.Zip
import HandS.Flow
import HandS.Set
import HandS.Strs
import PyProof.Rows.SortShellAny
import HandS.Walk
import HandS.Sort
import PyProof.StrBlock2
import HandS.ExcInit
import HandS.ExcIs
import HandS.ExcField
import HandS.ExcValue
import HandS.ExcBuiltin
import KE.KExcInit
import KE.KExcIs
import HandS.HotCalls
import KE.GoesZip
import KE.KDictZip
import HandS.Zip0
import HandS.Star
import HandS.SlotsOwn
import KE.KCallOwn
import PyProof.InstNe
import HandS.TryOnly
import PySem.Challenge.RW_lastprices_k26_whole_repeats
set_option Elab.async false
set_option linter.all false
set_option maxRecDepth 100000
set_option maxHeartbeats 4000000
/-! LPG: defs that run where no repr is under way (guards known empty), so that repr of data can be told. -/
namespace LP
open PySem PySem.Spec L2
open PyProof.Rows hiding St

/-- a def's promise, kept wherever no guarded call is under way -/
structure FnG (P : Program) (w : World) (K : PySem.W.Frag) (mg : Str → Option Value) (base : Heap) (CX : CXT)
    (k : Nat) (f : Addr) (fd : FuncData) (ps : List Str) (sp : Sp) : Prop where
  len : ∀ vs H Q E, sp vs H Q E → vs.length = ps.length
  go : ∀ (A : Around) (outer : List Env) (s : Shared) (H : Hp) (args : Args) (us : List Value) (vs : List V)
    (Q : VK) (E : XK), A.guards = some [] → Room k A → Env0 P w K mg base A outer s H →
    BindsTo s fd args (ps.zip us) → Vals vs us → sp vs H Q E →
    codeAny (model P w) A (.call (.ref f) args) (CR CX outer P w H s Q E) s

section
variable {P : Program} {w : World} {K : PySem.W.Frag} {mg : Str → Option Value} {base : Heap} {CX : CXT}
  {k : Nat} {f : Addr} {fd : FuncData} {ps : List Str} {sp : Sp}

theorem FnG.of (F : FnOk P w K mg base CX k f fd ps sp) : FnG P w K mg base CX k f fd ps sp :=
  ⟨F.len, fun A outer s H args us vs Q E _ hr e0 hb r h => F.run A outer s H args us vs Q E hr e0 hb r h⟩

theorem FnG.mono {j : Nat} (F : FnG P w K mg base CX j f fd ps sp) (h : j ≤ k) : FnG P w K mg base CX k f fd ps sp :=
  ⟨F.len, fun A outer s H args us vs Q E g hr e0 hb r h' => F.go A outer s H args us vs Q E g (hr.mono h) e0 hb r h'⟩
end

/-- a def's body, where no guarded call is under way -/
theorem fnG_of {CX : CXT} {P : Program} {w : World} {K : PySem.W.Frag} {mg : Str → Option Value} {base : Heap} {k : Nat}
    {f : Addr} {name qual : Str} {params : Arguments} {body : List Stmt} {scope : Scope} {dV kV doc pm cdv ct oc : Value}
    {an od : Option Addr} {osl : Array (Option Value)} {N ps : List Str} {sp : Sp}
    (lk : K.lookup f = some ⟨oc, od, .func (PySem.W.fnOf name qual params body scope dV kV doc pm an cdv ct), osl⟩)
    (hcd : PySem.W.codeIn K cdv qual = true) (S : FnScope N ps scope)
    (len : ∀ vs H Q E, sp vs H Q E → vs.length = ps.length)
    (hbody : ∀ (A : Around) (outer : List Env) (s : Shared) (H : Hp) (vs : List V) (Q : VK) (E : XK),
      A.guards = some [] → Room k (A.deeper (envOfC qual scope s.heap.objs.size f cdv)) → sp vs H Q E →
      ∃ t, PSs (cxOf CX P w K mg base N qual scope f cdv A outer s H E) body t ∧
        t { nx := fun _ H' => Q .non H', rt := Q } (start N vs) H) :
    FnG P w K mg base CX (k + 1) f (PySem.W.fnOf name qual params body scope dV kV doc pm an cdv ct) ps sp := by
  constructor
  · exact len
  intro A outer s H args us vs Q E gd hr e0 hb r hsp
  have hl := len _ _ _ _ hsp
  have KX : K.In s.heap := e0.mod.kin.keeps fun b o e => (e0.bs b o e).1
  have lim : s.heap.NoLimit := e0.mod.nolimit.keeps fun b o e => (e0.bs b o e).1
  have hk : ∀ y ∈ ps.zip us, scope.names.lookup y.1 = some .local ∨
      (scope.names.lookup y.1 = some .cell ∧
        ((cellsFrom (s.heap.objs.size + 1) scope.names []).lookup y.1).isSome = true) := by
    rintro ⟨n, v⟩ hy
    rcases S.par n (List.of_mem_zip hy).1 with q | q
    · exact .inl q
    · exact .inr ⟨q, PySem.W.cellsFrom_some _ _ _ (.inl q)⟩
  refine codeAny_call_function hr.depth (KX _ _ lk) rfl S.co S.gen rfl (PySem.W.codeRec_of KX hcd) ?_
  refine hb _ _ _ _ (wpAny_newFunctionEnv_cells S.kind hk ?_)
  intro env he s1 x
  subst he
  refine ⟨lim.keeps x.toInCall.keep, ?_⟩
  refine codeAny_func ?_
  obtain ⟨t, ht, hq⟩ := hbody A outer s H vs Q E gd (hr.deeper _) hsp
  have I := inv_start (CX := CX) (N := N) (E := E) S hr.hd e0 hl r x
  refine wpAny_mono (ht.run [] s1 (start N vs) H _ I hq) ?_ (fun e s' hs => hs)
  intro fl s' hs
  cases fl with
  | ret u =>
    obtain ⟨v, σ', H', J, rv, q⟩ := hs
    exact ⟨v, H', J.os, J.bare, J.base, J.hok, rv, q⟩
  | next =>
    obtain ⟨σ', H', J, q⟩ := hs
    exact ⟨V.non, H', J.os, J.bare, J.base, J.hok, rfl, q⟩
  | brk =>
    obtain ⟨_, _, _, q⟩ := hs
    exact q.elim
  | cont =>
    obtain ⟨_, _, _, q⟩ := hs
    exact q.elim

section
variable {P : Program} {w : World} {K : PySem.W.Frag} {mg : Str → Option Value} {base : Heap}
/-- the same for a def of the text that lets no exception out -/
theorem okG {x qual : Str} {st : Stmt} {f : Addr} {fd : FuncData} {N ps : List Str} {k : Nat} {sp : Sp}
    (F : Fun K x qual st f fd) (S : FnScope N ps (defScope st)) (len : ∀ vs H Q E, sp vs H Q E → vs.length = ps.length)
    (hbody : ∀ (cdv : Value) (A : Around) (outer : List Env) (s : Shared) (H : Hp) (vs : List V) (Q : VK) (E : XK),
      A.guards = some [] → Room k (A.deeper (envOfC qual (defScope st) s.heap.objs.size f cdv)) → sp vs H Q E →
      ∃ t, PSs (cxOf CX0 P w K mg base N qual (defScope st) f cdv A outer s H E).nox (defBody st) t ∧
        t { nx := fun _ H' => Q .non H', rt := Q } (start N vs) H) :
    FnG P w K mg base CX0 (k + 1) f fd ps sp := by
  obtain ⟨oc, od, kV, doc, pm, an, cdv, ct, osl, rfl, lk, hcd⟩ := F.ex
  refine fnG_of lk hcd S len ?_
  intro A outer s H vs Q E g hr hsp
  obtain ⟨t, h, q⟩ := hbody cdv A outer s H vs Q E g hr hsp
  exact ⟨t, h.nox, q⟩
end

section
variable {X : Cx} {CX : CXT} {k : Nat} {f C : Addr} {fd : FuncData} {ps : List Str} {sp : Sp} {dvs : List V}
  {ds : List Value} {E : XK} {x m : Str} {p pos apos : Pos} {e o : Expr} {es : List Expr} {ta : TE} {t : TA}

/-- such a callee runs -/
theorem run_fnG {pins : List (Addr × Obj)} {σ : St} {H : Hp} {s : Shared} {Q : VK} {us : List Value} {vs : List V}
    (F : FnG X.prog X.w X.K X.mg X.base CX k f fd ps sp) (gd : X.A.guards = some []) (hr : Room k X.A)
    (hb : Binds X.K fd ps ds) (hd : Vals dvs ds) (hx : Passes CX X E)
    (I : Inv X pins σ H s) (r : Vals vs us) (h : sp (vs ++ dvs) H Q E) :
    wpAny (model X.prog X.w) X.A (call (.ref f) us) (EP X pins σ Q) X.xe s := by
  have r2 : Vals (vs ++ dvs) (us ++ ds) := r.append hd
  have hl : (us ++ ds).length = ps.length := r2.length.symm.trans (F.len _ _ _ _ h)
  have run := F.go X.A X.stack s H ⟨us, []⟩ (us ++ ds) (vs ++ dvs) Q E gd hr I.env0 (hb s us I.kIn hl) r2 h
  refine wpAny_call (codeAny_mono run ?_)
  intro r s' hq
  cases r with
  | error e => exact hx pins σ H s e s' I hq
  | ok fl =>
    cases fl with
    | ret u => exact I.after hq
    | next => exact hq.elim
    | brk => exact hq.elim
    | cont => exact hq.elim

theorem pe_callG (F : FnG X.prog X.w X.K X.mg X.base CX k f fd ps sp) (gd : X.A.guards = some []) (hr : Room k X.A)
    (hg : Gl X x) (hm : X.mg x = some (.ref f)) (hk : PySem.W.keepIn X.K (.ref f) = true) (hb : Binds X.K fd ps ds)
    (hd : Vals dvs ds) (hx : Passes CX X E) (ha : PA X (e :: es) t)
    (hdb : (x == ("__debug__" : Str)) = false := by decide)
    (he : starEach (e :: es) X.env = (false, eval e X.env) :: starEach es X.env := by rfl)
    (hpl : (backTo pos (starEach es X.env)).any (·.1) = false := by rfl) :
    PE X (.Call (.Name x p) (e :: es) [] pos) (tCall sp dvs E t) := by
  constructor
  intro pins s σ H Q I h
  refine wpAny_Call_Name_kw (ld_glob I hg hm ?_ hdb)
  refine PySem.W.callWith_K (h₀ := X.base) I.ok.mod.kin hk (thn (ha.run pos pins s σ H _ I h) ?_) he hpl
  rintro us s1 ⟨vs, H1, I1, r, q⟩
  exact ⟨I1.kIn, run_fnG F gd hr hb hd hx I1 r q⟩

theorem pe_callG0 (F : FnG X.prog X.w X.K X.mg X.base CX k f fd ps sp) (gd : X.A.guards = some []) (hr : Room k X.A)
    (hg : Gl X x) (hm : X.mg x = some (.ref f)) (hk : PySem.W.keepIn X.K (.ref f) = true) (hb : Binds X.K fd ps ds)
    (hd : Vals dvs ds) (hx : Passes CX X E) (hdb : (x == ("__debug__" : Str)) = false := by decide) :
    PE X (.Call (.Name x p) [] [] pos) (tCall sp dvs E tNil) := by
  constructor
  intro pins s σ H Q I h
  refine wpAny_Call_Name_kw (ld_glob I hg hm ?_ hdb)
  exact PySem.W.callWith_K0 I.kIn hk (run_fnG (us := []) F gd hr hb hd hx I .nil h)

/-- what repr asks: data that is read, and its text -/
def rReprD (K : PySem.W.Frag) : List V → Hp → VK → Prop := fun xs H Q =>
  ∃ x d, xs = [x] ∧ Dp K H x d ∧ d.showable = true ∧ d.hasDict = false ∧ d.depth ≤ 60 ∧ d.shown.length ≤ sizeLine ∧
    Q (.str d.shown) H

theorem call_reprD (gd : X.A.guards = some []) (hu : X.A.units + 64 < cLine) : CallR X (.builtin "repr") (rReprD X.K) := by
  intro pins s σ H xs us Q I r h
  obtain ⟨x, d, rfl, hd, hs, hn, hz, hl, q⟩ := h
  obtain ⟨u, rfl, r1⟩ := vals1 r
  cases hd with
  | non =>
    cases (show u = Value.none from r1)
    exact PySem.P.repr_of_none ⟨.str _, H, I.tok _, ⟨_, rfl⟩, q⟩
  | bl b =>
    cases (show u = Value.bool b from r1)
    exact PySem.P.repr_of_bool ⟨.str _, H, I.tok _, ⟨_, rfl⟩, q⟩
  | int i =>
    obtain ⟨t, rfl⟩ := (show ∃ t, u = Value.int i t from r1)
    have hi : i.natAbs.log2 < 1920 := by simpa [PyData.showable] using hs
    exact PySem.P.repr_of_int hi ⟨.str _, H, I.tok _, ⟨_, rfl⟩, q⟩
  | str y =>
    obtain ⟨t, rfl⟩ := (show ∃ t, u = Value.str y t from r1)
    exact PySem.P.repr_of_str ⟨.str _, H, I.tok _, ⟨_, rfl⟩, q⟩ hl
  | @lst a ys ds h1 h2 =>
    have e0 : Dp X.K H (.ref a) (.list ds) := .lst h1 h2
    cases (show u = Value.ref a from r1)
    obtain ⟨as, rd⟩ := Dp.reads I _ _ _ e0 rfl
    refine repr_of_reads' rd hs (fun z => ?_) gd (by omega) (fun _ _ e => e) (fun h' v tk hk => ?_) hl
    · rw [hn] at z
      cases z
    · exact ⟨.str _, H, I.kept hk, ⟨_, rfl⟩, q⟩
  | @tup a ys ds h1 h2 =>
    have e0 : Dp X.K H (.ref a) (.tuple ds) := .tup h1 h2
    cases (show u = Value.ref a from r1)
    obtain ⟨as, rd⟩ := Dp.reads I _ _ _ e0 rfl
    refine repr_of_reads' rd hs (fun z => ?_) gd (by omega) (fun _ _ e => e) (fun h' v tk hk => ?_) hl
    · rw [hn] at z
      cases z
    · exact ⟨.str _, H, I.kept hk, ⟨_, rfl⟩, q⟩
end

/-- the law's call, of such a def -/
theorem law_callG {P : Program} {w : World} {K : PySem.W.Frag} {mg mb : Str → Option Value} {k : Nat} {fa a : Addr}
    {fd : FuncData} {x : Str} {sp : Sp} {s₁ : Shared} {vs : List Value} {ns : List Int}
    (KX : K.In s₁.heap) (hns : s₁.heap.Ns mainGlobals mg) (hb : s₁.heap.Ns builtinsNs mb)
    (hbb : ∀ x : Str, x ≠ "__name__" → mb x = bootBuiltins x) (hlim : s₁.heap.NoLimit) (hg : s₁.gens = #[])
    (ha : s₁.heap.get? a = some { cls := .type "list", data := .seq vs.toArray }) (hi : IntsAre vs ns)
    (hl : ns.length ≤ sizeLine) (hr : Room k callerA)
    (F : ∀ base : Heap, K.In base → base.Ns mainGlobals mg → FnG P w K mg base CX0 k fa fd [x] sp)
    (hbind : ∀ (s : Shared) (u : Value), BindsTo s fd ⟨[u], []⟩ [(x, u)])
    (hsp : ∀ H : Hp, Only H → SqL K H a (ns.map V.int) → sp [.ref a] H (fun v _ => v = .bl true) fun _ _ _ => False) :
    codeAny (model P w) callerA (.call (.ref fa) ⟨[.ref a], []⟩) (fun r s' => r = .ok (.ret (.bool true)) ∧
      OldK s₁.heap s'.heap ∧ s'.os = s₁.os ∧ AllBare s'.gens) s₁ := by
  have rv := vals_ints hi
  have lenV := hi.length
  have core : ∀ H : Hp, Only H → SqL K H a (ns.map V.int) → HOk P w H s₁.heap → (∀ b, H b ≠ none → b = a) →
      (H a ≠ none → K.lookup a = none) →
      codeAny (model P w) callerA (.call (.ref fa) ⟨[.ref a], []⟩) (fun r s' => r = .ok (.ret (.bool true)) ∧
        OldK s₁.heap s'.heap ∧ s'.os = s₁.os ∧ AllBare s'.gens) s₁ := by
    intro H hO hS hok hA hK
    have noA : ∀ {b : Addr} {o : Obj} {es : Array DictEntry} {ep : Nat}, s₁.heap.get? b = some o →
        o.data = .dict es ep → H b = none := by
      intro b o es ep e d
      by_cases q : H b = none
      · exact q
      · have e' := hA b q
        subst e'
        rw [ha] at e
        cases e
        cases (show Data.seq vs.toArray _ = Data.dict es ep from d)
    have nsK : ∀ {b : Addr} {m : Str → Option Value}, s₁.heap.Ns b m → (hidT s₁.heap H).Ns b m := by
      rintro b m ⟨o, es, ep, e, d, r⟩
      exact ⟨o, es, ep, hidT_get e (noA e d), d, r⟩
    have hKb : K.In (hidT s₁.heap H) := by
      intro b o e
      refine hidT_get (KX b o e) ?_
      by_cases q : H b = none
      · exact q
      · have e' := hA b q
        subst e'
        rw [hK q] at e
        cases e
    obtain ⟨mc, hc1, hc2⟩ := hlim
    have hM : Mod K mg (hidT s₁.heap H) := ⟨hKb, nsK hns, ⟨mb, nsK hb, hbb⟩, ⟨mc, nsK hc1, hc2⟩⟩
    have e0 : Env0 P w K mg (hidT s₁.heap H) callerA [] s₁ H :=
      ⟨rfl, hM, fun b o e => of_hidT e, Nat.le_of_eq (hidT_size _ _), trivial,
        fun b hb => absurd (show b ∈ ([] : List Addr) from hb) (by simp), hok, .of_eq hg⟩
    have G := F _ hKb (nsK hns)
    refine codeAny_mono (G.go callerA [] s₁ H ⟨[.ref a], []⟩ [.ref a] [.ref a] _ _ rfl hr e0 (hbind s₁ (.ref a))
      (.cons rfl .nil) (hsp H hO hS)) ?_
    intro r s' h
    cases r with
    | error e => exact h.elim
    | ok fl =>
      cases fl with
      | next => exact h.elim
      | brk => exact h.elim
      | cont => exact h.elim
      | ret u =>
        obtain ⟨v, H', os, bare, un, hok', r', q⟩ := h
        have q' : v = .bl true := q
        subst q'
        obtain rfl : u = Value.bool true := r'
        refine ⟨rfl, OldK.of_keep ?_, os, bare⟩
        intro b o e
        rcases hO b with z | ⟨ob, xs, z⟩
        · exact un.keep b o e z (fun y => absurd (show b ∈ ([] : List Addr) from y) (by simp)) (by simp)
        · obtain ⟨e1, _⟩ := hok b _ z
          obtain ⟨e2, _⟩ := hok' b _ (un.frzs b ob _ z)
          rw [e] at e1
          cases e1
          exact e2
  by_cases hk : K.lookup a = none
  · let O : Obj := { cls := .type "list", data := .seq vs.toArray }
    let HH : Hp := fun b => if b = a then some (.frz O (.lst (ns.map V.int))) else none
    have h1 : HH a = some (.frz O (.lst (ns.map V.int))) := if_pos rfl
    have h2 : ∀ b, b ≠ a → HH b = none := fun b hb => if_neg hb
    refine core HH ?_ (.inl (.inr ⟨O, h1⟩)) ?_ ?_ (fun _ => hk)
    · intro b
      by_cases hb : b = a
      · subst hb
        exact .inr ⟨_, _, h1⟩
      · exact .inl (h2 b hb)
    · intro b u z
      by_cases hb : b = a
      · subst hb
        rw [h1] at z
        cases z
        exact ⟨ha, by rw [List.length_map]; exact hl, vs, _, rv, ha⟩
      · rw [h2 b hb] at z
        cases z
    · intro b z
      by_cases hb : b = a
      · exact hb
      · exact absurd (h2 b hb) z
  · obtain ⟨o, ho⟩ := Option.ne_none_iff_exists'.mp hk
    have e := KX a o ho
    rw [ha] at e
    cases e
    refine core (fun _ => none) (fun _ => .inl rfl) (.inr ⟨_, vs.toArray, _, ho, rfl, rfl, rfl, ?_, ?_⟩) ?_ ?_ ?_
    · rw [List.size_toArray, lenV]
      exact hl
    · simpa using rv
    · intro b u z
      cases (show (none : Option HO) = some u from z)
    · intro b z
      exact absurd rfl z
    · intro z
      exact absurd rfl z

/-- the goal that the head leaves, from the law's promise -/
theorem walk_ofG {l : PySem.W.OpenLaw} {n k : Nat} {q : Program} {loose : List Str} {XP : (Str → Option Value) → Heap → Prop}
    {YP : World → Heap → Prop} {d : DefRec} {K : Params → PySem.W.Frag} {sp : PySem.W.Frag → Sp} {x : Str}
    (hn : l.most = some n) (hn2 : n ≤ sizeLine) (hdf : d.params.defaults = []) (hr : Room k callerA)
    (hY : ∀ (w : World) (h : Heap), YP w h → (K w.params).In h)
    (F : ∀ (w : World) (mg : Str → Option Value) (fa : Addr) (h : Heap), (K w.params).In h → h.Ns mainGlobals mg →
      mg d.name = some (.ref fa) → ∃ fd : FuncData, (∀ (s : Shared) (u : Value), BindsTo s fd ⟨[u], []⟩ [(x, u)]) ∧
        ∀ base : Heap, (K w.params).In base → base.Ns mainGlobals mg →
          FnG l.prog w (K w.params) mg base CX0 k fa fd [x] (sp (K w.params)))
    (hsp : ∀ (K : PySem.W.Frag) (H : Hp) (a : Addr) (ns : List Int), ns.length ≤ n → Only H → SqL K H a (ns.map V.int) →
      sp K [.ref a] H (fun v _ => v = .bl true) fun _ _ _ => False) :
    PySem.W.WalkO q loose XP YP l.row.toRowW d [] (fun f vs => PySem.call f vs) := by
  refine Att.attach_call hn hdf ?_
  intro w s₀ s₁ mg mb fa o pm cd doc a vs ns G Y ho hd hcd hmg hobj hints hlen hg
  have KX := hY w _ Y
  obtain ⟨fd, hb, hF⟩ := F w mg fa _ KX G.T.g hmg
  exact law_callG KX G.T.g G.T.b G.T.builtins G.T.nolimit hg hobj hints (Nat.le_trans hlen hn2) hr hF hb
    (fun H hO hS => hsp (K w.params) H a ns hlen hO hS)
end LP

set_option Elab.async false
set_option linter.all false
set_option maxRecDepth 100000
set_option maxHeartbeats 4000000
/-! LPC: defs of a linked text, calls of them, heaps. -/
namespace LP
open PySem PySem.Spec L2
open PyProof.Rows hiding St

/-- a def of the text: where it stands, its name, how its arguments bind -/
structure Df (K : PySem.W.Frag) (mg : Str → Option Value) (x : Str) (st : Stmt) (ps : List Str) (f : Addr) (fd : FuncData) : Prop where
  F : Fun K x x st f fd
  g : mg x = some (.ref f)
  b : Binds K fd ps []

section
variable {X : Cx} {k : Nat} {f : Addr} {fd : FuncData} {ps : List Str} {sp : Sp} {x : Str} {st : Stmt} {p pos : Pos}
  {e : Expr} {es : List Expr} {t : TA}
theorem pe_df (D : Df X.K X.mg x st ps f fd) (G : FnOk X.prog X.w X.K X.mg X.base CX0 k f fd ps sp) (hr : Room k X.A)
    (hg : Gl X x) (ha : PA X (e :: es) t) (hdb : (x == ("__debug__" : Str)) = false := by decide)
    (he : starEach (e :: es) X.env = (false, eval e X.env) :: starEach es X.env := by rfl)
    (hpl : (backTo pos (starEach es X.env)).any (·.1) = false := by rfl) :
    PE X (.Call (.Name x p) (e :: es) [] pos) (tCall sp [] E0 t) := pe_call G hr hg D.g D.F.kp D.b .nil pass0 ha hdb he hpl
theorem pe_df0 (D : Df X.K X.mg x st ps f fd) (G : FnOk X.prog X.w X.K X.mg X.base CX0 k f fd ps sp) (hr : Room k X.A)
    (hg : Gl X x) (hdb : (x == ("__debug__" : Str)) = false := by decide) :
    PE X (.Call (.Name x p) [] [] pos) (tCall sp [] E0 tNil) := pe_call0 G hr hg D.g D.F.kp D.b .nil pass0 hdb
theorem pe_dfG (D : Df X.K X.mg x st ps f fd) (G : FnG X.prog X.w X.K X.mg X.base CX0 k f fd ps sp)
    (gd : X.A.guards = some []) (hr : Room k X.A)
    (hg : Gl X x) (ha : PA X (e :: es) t) (hdb : (x == ("__debug__" : Str)) = false := by decide)
    (he : starEach (e :: es) X.env = (false, eval e X.env) :: starEach es X.env := by rfl)
    (hpl : (backTo pos (starEach es X.env)).any (·.1) = false := by rfl) :
    PE X (.Call (.Name x p) (e :: es) [] pos) (tCall sp [] E0 t) := pe_callG G gd hr hg D.g D.F.kp D.b .nil pass0 ha hdb he hpl
end

/-! ### heaps -/
theorem upd_none {H : Hp} {a b : Addr} {o : HO} : upd H a o b = none ↔ b ≠ a ∧ H b = none := by
  unfold upd
  by_cases h : b = a <;> simp [h]
theorem upd_at {H : Hp} {a b : Addr} {o : HO} : upd H a o b = if b = a then some o else H b := rfl
theorem Same.new {H : Hp} {p : Addr} {o : HO} (h : H p = none) : Same H (upd H p o) := fun b u e => by
  rw [upd_ne (ne_of_none e h)]
  exact e
theorem Same.tup {K : PySem.W.Frag} {H H' : Hp} {a : Addr} {xs : List V} (e : Same H H') (h : SqT K H a xs) : SqT K H' a xs := by
  rcases h with (h | ⟨o, h⟩) | h
  · exact .inl (.inl (e _ _ h))
  · exact .inl (.inr ⟨o, e _ _ h⟩)
  · exact .inr h

/-! ### values that can be asked for their class -/
/-- the built-in class of a plain value -/
inductive Pl (K : PySem.W.Frag) (H : Hp) : V → String → Prop
  | non : Pl K H .non "NoneType"
  | bl (b : Bool) : Pl K H (.bl b) "bool"
  | int (i : Int) : Pl K H (.int i) "int"
  | str (x : Str) : Pl K H (.str x) "str"
  | lst {a : Addr} {xs : List V} (h : H a = some (.lst xs)) : Pl K H (.ref a) "list"
  | tup {a : Addr} {xs : List V} (h : H a = some (.tup xs)) : Pl K H (.ref a) "tuple"
  | dct {a : Addr} {xs : List (Key × V)} (h : H a = some (.dK xs)) : Pl K H (.ref a) "dict"
theorem Pl.ty {K : PySem.W.Frag} {H : Hp} {v : V} {t : String} (h : Pl K H v t) : TyX K H v (.type t) := by
  cases h with
  | non => exact .base .non
  | bl b => exact .base (.bl b)
  | int i => exact .base (.int i)
  | str x => exact .base (.str x)
  | lst h => exact .base (.lst h)
  | tup h => exact .base (.tup h)
  | dct h => exact .base (.dK h)
theorem Pl.same {K : PySem.W.Frag} {H H' : Hp} {v : V} {t : String} (e : Same H H') (h : Pl K H v t) : Pl K H' v t := by
  cases h with
  | non => exact .non
  | bl b => exact .bl b
  | int i => exact .int i
  | str x => exact .str x
  | lst h => exact .lst (e _ _ h)
  | tup h => exact .tup (e _ _ h)
  | dct h => exact .dct (e _ _ h)
/-- isinstance of a plain value, told -/
def isiB (t c : String) : Bool := (t == c) || (t == "bool" && c == "int")
theorem isi_int {K : PySem.W.Frag} {H : Hp} {v : V} {t : String} (h : Pl K H v t) : PySem.W.kitOne K (.type t) (.type "int") = some (isiB t "int") := by
  refine kit_ty ?_
  cases h <;> decide +kernel
theorem isi_bool {K : PySem.W.Frag} {H : Hp} {v : V} {t : String} (h : Pl K H v t) : PySem.W.kitOne K (.type t) (.type "bool") = some (isiB t "bool") := by
  refine kit_ty ?_
  cases h <;> decide +kernel
theorem isi_str {K : PySem.W.Frag} {H : Hp} {v : V} {t : String} (h : Pl K H v t) : PySem.W.kitOne K (.type t) (.type "str") = some (isiB t "str") := by
  refine kit_ty ?_
  cases h <;> decide +kernel
theorem isi_tuple {K : PySem.W.Frag} {H : Hp} {v : V} {t : String} (h : Pl K H v t) : PySem.W.kitOne K (.type t) (.type "tuple") = some (isiB t "tuple") := by
  refine kit_ty ?_
  cases h <;> decide +kernel
theorem isi_dict {K : PySem.W.Frag} {H : Hp} {v : V} {t : String} (h : Pl K H v t) : PySem.W.kitOne K (.type t) (.type "dict") = some (isiB t "dict") := by
  refine kit_ty ?_
  cases h <;> decide +kernel
theorem rd_isi {K : PySem.W.Frag} {H : Hp} {v : V} {t c : String} {Q : VK} (h : Pl K H v t) (k : PySem.W.kitOne K (.type t) (.type c) = some (isiB t c))
    (q : Q (.bl (isiB t c)) H) : rIsi K [v, .ty c] H Q := ⟨v, .ty c, .type t, .type c, _, rfl, .ty c, h.ty, k, q⟩

/-! ### readings that are told by what is tracked -/
section
variable {X : Cx}
theorem call_imp {f : Value} {r r' : List V → Hp → VK → Prop} (F : CallR X f r) (h : ∀ xs H Q, r' xs H Q → r xs H Q) : CallR X f r' :=
  fun pins s σ H xs us Q I rv q => F pins s σ H xs us Q I rv (h xs H Q q)
theorem op_imp {f : Value → Value → Sem Value} {r r' : R2} (F : OpR X f r) (h : ∀ x y H Q, r' x y H Q → r x y H Q) : OpR X f r' :=
  fun pins s σ H x y v u Q I rx ry q => F pins s σ H x y v u Q I rx ry (h x y H Q q)
theorem ix_imp {r r' : R2} (F : IxR X r) (h : ∀ x y H Q, r' x y H Q → r x y H Q) : IxR X r' :=
  fun va sl pins s σ H x y v u Q I rx ry q hs => F va sl pins s σ H x y v u Q I rx ry (h x y H Q q) hs
def rIxM : R2 := fun x y H Q => ∃ p xs i v, x = .ref p ∧ y = .int i ∧ H p = some (.lst xs) ∧ atI xs i = some v ∧ Q v H
theorem ix_M : IxR X rIxM := ix_imp ix_list fun x y H Q ⟨p, xs, i, v, h1, h2, h3, h4, q⟩ => ⟨p, xs, i, v, h1, h2, SqL.of h3, h4, q⟩
def rLenM : List V → Hp → VK → Prop := fun xs H Q => ∃ p ys, xs = [.ref p] ∧ H p = some (.lst ys) ∧ Q (.int (ys.length : Int)) H
theorem call_lenM : CallR X (.builtin "len") rLenM := call_imp call_len_seq fun xs H Q ⟨p, ys, h1, h2, q⟩ => ⟨p, ys, h1, .inl (SqL.of h2), q⟩
def rInt : List V → Hp → VK → Prop := fun xs H Q => ∃ i, xs = [.int i] ∧ Q (.int i) H
theorem call_intI : CallR X (.type "int") rInt := call_imp call_int1 fun xs H Q h => .inl h
def rIntB : List V → Hp → VK → Prop := fun xs H Q => ∃ k, xs = [.bl k] ∧ Q (.int (if k then 1 else 0)) H
theorem call_intB : CallR X (.type "int") rIntB := call_imp call_int1 fun xs H Q h => .inr h
end

theorem pe_imp {X : Cx} {e : Expr} {t t' : TE} (h : PE X e t) (i : ∀ σ H Q, t' σ H Q → t σ H Q) : PE X e t' :=
  ⟨fun pins s σ H Q I q => h.run pins s σ H Q I (i σ H Q q)⟩
/-- a method of a text, of a tracked list, of a tracked dict -/
def tSM (r : V → List V → Hp → VK → Prop) (to : TE) (t : TA) : TE := fun σ H Q => to σ H fun x H1 => ∃ a, x = .str a ∧ t σ H1 fun xs H2 => r x xs H2 Q
def tLM (r : V → List V → Hp → VK → Prop) (to : TE) (t : TA) : TE := fun σ H Q => to σ H fun x H1 => ∃ p ys, x = .ref p ∧ H1 p = some (.lst ys) ∧ t σ H1 fun xs H2 => r x xs H2 Q
section
variable {X : Cx} {o e : Expr} {es : List Expr} {to : TE} {t : TA} {name : Str} {apos cpos : Pos} {id : String} {r : V → List V → Hp → VK → Prop}
/-- a reading closed under what follows from what is wanted -/
def tUp (to : TE) : TE := fun σ H Q => ∃ Q1 : VK, to σ H Q1 ∧ ∀ v H1, Q1 v H1 → Q v H1
theorem pe_up (h : PE X o to) : PE X o (tUp to) := by
  constructor
  rintro pins s σ H Q I ⟨Q1, q1, i⟩
  refine thn (h.run pins s σ H Q1 I q1) ?_
  rintro v s1 ⟨x, H1, I1, r1, q⟩
  exact ⟨x, H1, I1, r1, i x H1 q⟩
theorem pe_sm (pa : PlainAttrs "str") (slot : Slot "str" name id) (hty : typeOf (.builtin id) = pure (.type "method_descriptor")) (hm : MtR X id r) (ho : PE X o to) (ha : PA X (e :: es) t)
    (hbase : attributeBase o name X.env (eval o X.env) = eval o X.env := by rfl)
    (hfew : ((backTo cpos (starEach (e :: es) X.env)).all (fun x => !x.1) && (backToKw cpos (keywordEach [] X.env)).all (fun x => x.1.isSome) &&
      decide ((e :: es).length + ([] : List Keyword).length + (if ([] : List Keyword).isEmpty then 0 else 1) < 30)) = true := by rfl)
    (hline : (apos.endLine == cpos.line) = true := by rfl) (hs : starEach (e :: es) X.env = (false, eval e X.env) :: starEach es X.env := by rfl)
    (hplain : (backTo cpos (starEach es X.env)).any (·.1) = false := by rfl) : PE X (.Call (.Attribute o name apos) (e :: es) [] cpos) (tSM r to t) := by
  refine pe_imp (pe_bm pa slot hty hm (pe_up ho) ha hbase hfew hline hs hplain) ?_
  intro σ H Q h
  refine ⟨_, h, ?_⟩
  rintro v H1 ⟨a, rfl, q⟩
  exact ⟨rfl, q⟩
theorem pe_lm (pa : PlainAttrs "list") (slot : Slot "list" name id) (hty : typeOf (.builtin id) = pure (.type "method_descriptor")) (hm : MtR X id r) (ho : PE X o to) (ha : PA X (e :: es) t)
    (hbase : attributeBase o name X.env (eval o X.env) = eval o X.env := by rfl)
    (hfew : ((backTo cpos (starEach (e :: es) X.env)).all (fun x => !x.1) && (backToKw cpos (keywordEach [] X.env)).all (fun x => x.1.isSome) &&
      decide ((e :: es).length + ([] : List Keyword).length + (if ([] : List Keyword).isEmpty then 0 else 1) < 30)) = true := by rfl)
    (hline : (apos.endLine == cpos.line) = true := by rfl) (hs : starEach (e :: es) X.env = (false, eval e X.env) :: starEach es X.env := by rfl)
    (hplain : (backTo cpos (starEach es X.env)).any (·.1) = false := by rfl) : PE X (.Call (.Attribute o name apos) (e :: es) [] cpos) (tLM r to t) := by
  refine pe_imp (pe_bm pa slot hty hm (pe_up ho) ha hbase hfew hline hs hplain) ?_
  intro σ H Q h
  refine ⟨_, h, ?_⟩
  rintro v H1 ⟨p, ys, rfl, hp, q⟩
  exact ⟨.inl ⟨rfl, ys, SqL.of hp⟩, q⟩
end
/-! ### the rest of a block, folded -/
def Later (u : TS) (D : Ends) (σ : St) (H : Hp) : Prop := u D σ H
theorem later {u : TS} {D : Ends} {σ : St} {H : Hp} (h : u D σ H) : Later u D σ H := h
theorem tSeq_eq (t u : TS) (D : Ends) (σ : St) (H : Hp) : tSeq t u D σ H = t { D with nx := Later u D } σ H := rfl
theorem tIfS_eq (c : TT) (t u : TS) (D : Ends) (σ : St) (H : Hp) :
  tIfS c t u D σ H = c σ H fun b H1 => if b = true then Later t D σ H1 else Later u D σ H1 := rfl
/-! ### loops -/
def Loop (J : It) (g : TG) (tb : TS) (D : Ends) (σ : St) (H1 : Hp) : Prop := ∃ W : Nat → Nat → St → Hp → Prop, (∃ m, W 0 m σ H1) ∧ ∀ i m σ H, W i m σ H →
  (J.stop i H ∧ D.nx σ H) ∨ (J.go i H ∧ ∃ N : St → Hp → Prop, (∀ σ' H', N σ' H' → ∃ m', m' < m ∧ W (i + 1) m' σ' H') ∧
    ∀ x H', J.yld i H x H' → g x σ H' fun σ2 H2 => tb { D with nx := N, ct := N, bk := D.nx } σ2 H2)
theorem tFor_eq (wi : TI) (g : TG) (tb : TS) (D : Ends) (σ : St) (H : Hp) : tFor wi g tb D σ H = wi σ H fun J H1 => Loop J g tb D σ H1 := rfl
theorem loop_range {n : Nat} {g : TG} {tb : TS} {D : Ends} {σ : St} {H : Hp} (Pv : Nat → St → Hp → Prop) (h0 : Pv 0 σ H)
    (hs : ∀ (i : Nat) (σ : St) (H : Hp), i < n → Pv i σ H → g (.int (i : Int)) σ H fun σ2 H2 => Later tb { D with nx := Pv (i + 1), ct := Pv (i + 1), bk := D.nx } σ2 H2)
    (hd : ∀ σ H, Pv n σ H → D.nx σ H) : Loop (Itr 0 n) g tb D σ H :=
  for_range (lo := 0) (n := n) Pv h0 (fun i σ H hi p => by rw [Int.zero_add]; exact hs i σ H hi p) hd
theorem loop_list {K : PySem.W.Frag} {a : Addr} {xs : List V} {g : TG} {tb : TS} {D : Ends} {σ : St} {H : Hp} (Pv : Nat → St → Hp → Prop) (h0 : Pv 0 σ H)
    (hl : ∀ i σ H, i ≤ xs.length → Pv i σ H → SqL K H a xs)
    (hs : ∀ (i : Nat) (x : V) (σ : St) (H : Hp), xs[i]? = some x → Pv i σ H → g x σ H fun σ2 H2 => Later tb { D with nx := Pv (i + 1), ct := Pv (i + 1), bk := D.nx } σ2 H2)
    (hd : ∀ σ H, Pv xs.length σ H → D.nx σ H) : Loop (Itl K a) g tb D σ H :=
  for_list (K := K) (a := a) (xs := xs) Pv h0 hl hs hd
/-- an invariant, folded -/
theorem inv_of {α : Type} (P : α → St → Hp → Prop) : ∃ Pv : α → St → Hp → Prop, ∀ i σ H, Pv i σ H ↔ P i σ H := ⟨P, fun _ _ _ => Iff.rfl⟩
def LcLoop (J : It) (g : TG) (tt : TT) (te : TE) (vs : List Nat) (σ : St) (H1 : Hp) (Q : VK) : Prop := ∀ D, H1 D = none → ∃ W : Nat → Nat → Hp → Prop, (∃ m, W 0 m (upd H1 D (.lst []))) ∧ ∀ i m H, W i m H →
  (J.stop i H ∧ Q (.ref D) H) ∨ (J.go i H ∧ ∃ Nx : Hp → Prop, (∀ H', Nx H' → ∃ m', m' < m ∧ W (i + 1) m' H') ∧ ∀ x H', J.yld i H x H' → g x (wipe σ vs) H' fun σ2 H2 => wipe σ2 vs = wipe σ vs ∧
    tt σ2 H2 fun b H3 => if b = true then te σ2 H3 fun y H4 => ∃ acc, H4 D = some (.lst acc) ∧ acc.length < sizeLine ∧ Nx (upd H4 D (.lst (acc ++ [y]))) else Nx H3)
theorem tLc_eq (wi : TI) (g : TG) (tt : TT) (te : TE) (vs : List Nat) (σ : St) (H : Hp) (Q : VK) : tLc wi g tt te vs σ H Q = wi σ H fun J H1 => LcLoop J g tt te vs σ H1 Q := rfl

theorem loop_zip {K : PySem.W.Frag} {a b : Addr} {xs ys : List V} {g : TG} {tb : TS} {D : Ends} {σ : St} {H : Hp} (hl : xs.length = ys.length) (Pv : Nat → St → Hp → Prop) (h0 : Pv 0 σ H)
    (hq : ∀ i σ H, Pv i σ H → SqL K H a xs ∧ SqL K H b ys)
    (hs : ∀ (i : Nat) (x y : V) (T : Addr) (σ : St) (H : Hp), xs[i]? = some x → ys[i]? = some y → Pv i σ H → H T = none →
      g (.ref T) σ (upd H T (.tup [x, y])) fun σ2 H2 => Later tb { D with nx := Pv (i + 1), ct := Pv (i + 1), bk := D.nx } σ2 H2)
    (hd : ∀ σ H, Pv xs.length σ H → D.nx σ H) : Loop (Itz K a b) g tb D σ H :=
  RZ.for_zipL (K := K) (a := a) (b := b) hl Pv h0 hq hs hd
/-- a comprehension whose test and element leave what is known -/
theorem lc_pure {K : PySem.W.Frag} {a : Addr} {xs : List V} {j : Nat} {tt : TT} {te : TE} {vs : List Nat} {σ : St} {H : Hp} {Q : VK} (hx : SqL K H a xs) (hz : xs.length ≤ 1000000) (f : V → Bool) (v : V → V)
    (hw : ∀ x, wipe ((wipe σ vs).set j (some x)) vs = wipe σ vs)
    (ht : ∀ x, x ∈ xs → ∀ H1, Same H H1 → ∀ R : Bool → Hp → Prop, (∀ H2, Same H1 H2 → R (f x) H2) → tt ((wipe σ vs).set j (some x)) H1 R)
    (he : ∀ x, x ∈ xs → f x = true → ∀ H1, Same H H1 → ∀ R : VK, (∀ H2, Same H1 H2 → R (v x) H2) → te ((wipe σ vs).set j (some x)) H1 R)
    (q : ∀ p H2, H p = none → Same H H2 → H2 p = some (.lst ((xs.filter f).map v)) → Q (.ref p) H2) : LcLoop (Itl K a) (gName j) tt te vs σ H Q := by
  intro D hD
  refine lc_list (K := K) (a := a) (xs := xs) (fun i H' => Same H H' ∧ H' D = some (.lst (((xs.take i).filter f).map v))) ⟨Same.new hD, upd_same⟩ (fun i H' _ p => p.1.seq hx) ?_ ?_
  · rintro i x H1 hi ⟨e1, d1⟩
    have hm : x ∈ xs := List.mem_of_getElem? hi
    have htk : xs.take (i + 1) = xs.take i ++ [x] := by rw [List.take_add_one, hi]; rfl
    refine ⟨hw x, ht x hm H1 e1 _ fun H2 e2 => ?_⟩
    cases hf : f x with
    | true =>
      show te _ H2 _
      refine he x hm hf H2 (e1.trans e2) _ fun H3 e3 => ?_
      refine ⟨_, e3 _ _ (e2 _ _ d1), ?_, ?_, ?_⟩
      · have h1 : (((xs.take i).filter f).map v).length ≤ xs.length := by
          rw [List.length_map]
          exact Nat.le_trans (List.length_filter_le _ _) (by rw [List.length_take]; omega)
        exact Nat.lt_of_le_of_lt (Nat.le_trans h1 hz) (by decide)
      · intro b o e
        rw [upd_ne (ne_of_none e hD)]
        exact e3 _ _ (e2 _ _ (e1 _ _ e))
      · rw [htk, upd_same, List.filter_append, List.map_append, List.filter_cons, if_pos hf]
        rfl
    | false =>
      show Same H H2 ∧ _
      refine ⟨e1.trans e2, ?_⟩
      rw [htk, List.filter_append, List.filter_cons, if_neg (by rw [hf]; decide), List.map_append]
      show H2 D = some (.lst (_ ++ []))
      rw [List.append_nil]
      exact e2 _ _ d1
  · rintro H1 ⟨e1, d1⟩
    rw [List.take_length] at d1
    exact q D H1 hD e1 d1

/-! ### repr of truths -/
def reprBB (a b : Bool) : Str := (PyData.list [.bool a, .bool b]).shown
theorem repr_bb {K : PySem.W.Frag} {H : Hp} {p : Addr} {a b : Bool} {Q : VK} (h : H p = some (.lst [.bl a, .bl b])) (q : Q (.str (reprBB a b)) H) : rReprD K [.ref p] H Q := by
  refine ⟨.ref p, .list [.bool a, .bool b], rfl, .lst (SqL.of h) (.cons (.bl a) (.cons (.bl b) .nil)), ?_, ?_, ?_, ?_, q⟩
  · cases a <;> cases b <;> decide
  · cases a <;> cases b <;> decide
  · cases a <;> cases b <;> decide
  · cases a <;> cases b <;> decide +kernel
theorem repr_b {K : PySem.W.Frag} {H : Hp} {a : Bool} {Q : VK} (q : Q (.str (PyData.bool a).shown) H) : rReprD K [.bl a] H Q := by
  refine ⟨.bl a, .bool a, rfl, .bl a, ?_, ?_, ?_, ?_, q⟩
  · cases a <;> decide
  · cases a <;> decide
  · cases a <;> decide
  · cases a <;> decide +kernel
theorem scal_str (x y : Str) : scal (.str x) (.str y) = true := rfl

theorem cx_K {CX : CXT} {P : Program} {w : World} {K : PySem.W.Frag} {mg : Str → Option Value} {base : Heap} {N : List Str} {qual : Str}
    {scope : Scope} {f : Addr} {cd : Value} {A : Around} {outer : List Env} {s : Shared} {H : Hp} {E : XK} :
    (cxOf CX P w K mg base N qual scope f cd A outer s H E).K = K := rfl
theorem cx_w {CX : CXT} {P : Program} {w : World} {K : PySem.W.Frag} {mg : Str → Option Value} {base : Heap} {N : List Str} {qual : Str}
    {scope : Scope} {f : Addr} {cd : Value} {A : Around} {outer : List Env} {s : Shared} {H : Hp} {E : XK} :
    (cxOf CX P w K mg base N qual scope f cd A outer s H E).w = w := rfl
theorem atI0 {α : Type} (x : α) (r : List α) : atI (x :: r) 0 = some x := atI_nat (j := 0) rfl
theorem atI1 {α : Type} (x y : α) (r : List α) : atI (x :: y :: r) 1 = some y := atI_nat (j := 1) rfl
theorem atI2 {α : Type} (x y z : α) (r : List α) : atI (x :: y :: z :: r) 2 = some z := atI_nat (j := 2) rfl
theorem atI_of {α : Type} {xs : List α} {r : Int} (h0 : 0 ≤ r) (h : r.toNat < xs.length) : atI xs r = some xs[r.toNat] := by
  have e : atI xs ((r.toNat : Nat) : Int) = some xs[r.toNat] := atI_nat (List.getElem?_eq_getElem h)
  rw [Int.toNat_of_nonneg h0] at e
  exact e
theorem ixN30 : ixN 3 0 = some 0 := by decide
theorem ixN32 : ixN 3 2 = some 2 := by decide
/-! ### powers of ten in the draws -/
theorem cpow59 : CPow 10 59 := ⟨by decide, by decide, by decide⟩
theorem cpow17 : CPow 10 17 := ⟨by decide, by decide, by decide⟩
theorem cpow60 : CPow 10 60 := ⟨by decide, by decide, by decide⟩
theorem mul60 : CMulW (10 ^ Int.toNat 60) (10 ^ Int.toNat 60) := wide_mul (a := 200) (b := 200) (by decide) (by decide) (by decide) (by decide) (by decide)
end LP

set_option Elab.async false
set_option linter.all false
set_option maxRecDepth 100000
set_option maxHeartbeats 4000000
/-! LPT: texts of numbers, stripped texts (mathematics). -/
namespace LP
open PySem PySem.Spec L2
open PyProof.Rows hiding St
open PySem.Builtin.Str TL

theorem tl_ofString (s : String) : tl (Str.ofString s) = s.toList.map Char.toNat := by
  show (Str.ofString s).cps.toList = _
  rw [Str.ofString_eq_toList]
theorem tl_neg (m : Nat) : tl (Str.ofString (toString (Int.negSucc m))) = 45 :: numL (m + 1) := by
  rw [tl_ofString]
  have e : toString (Int.negSucc m) = "-" ++ Nat.repr (m + 1) := rfl
  rw [e, String.toList_append, List.map_append]
  have e2 : (Nat.repr (m + 1)).toList = Nat.toDigits 10 (m + 1) := Nat.toList_repr
  rw [e2]
  rfl
theorem tl_int (i : Int) : tl (Str.ofString (toString i)) = if i < 0 then 45 :: numL i.natAbs else numL i.natAbs := by
  cases i with
  | ofNat m =>
    rw [if_neg (by show ¬ (Int.ofNat m) < 0; simp)]
    exact tl_num m
  | negSucc m =>
    rw [if_pos (Int.negSucc_lt_zero m)]
    exact tl_neg m
theorem numL_le {n k : Nat} (hk : 0 < k) : (numL n).length ≤ k ↔ n < 10 ^ k := by
  unfold numL
  rw [List.length_map]
  exact Nat.length_toDigits_le_iff (by decide) hk
theorem len_tl' (x : Str) : x.length = (tl x).length := by
  show x.cps.size = x.cps.toList.length
  rw [Array.length_toList]
theorem getD_tl (x : Str) (k : Nat) : x.cps.getD k 0 = (tl x).getD k 0 := (getD_list x k).symm
theorem strSub_len (x : Str) (i j : Nat) (h1 : i ≤ j) (h2 : j ≤ x.length) : (strSub x i j).length = j - i := by
  show (x.cps.extract i j).size = j - i
  rw [Array.size_extract]
  have : j ≤ x.cps.size := h2
  omega
/-- what is stripped is empty just if all signs go -/
theorem strip_nil (x y : Str) : (Txt.stripChars x y).length = 0 ↔ ∀ c ∈ tl x, y.cps.contains c = true := by
  unfold Txt.stripChars
  rw [stripBy_eq]
  obtain ⟨a0, a1, a2⟩ := lo_facts y.cps.contains x
  obtain ⟨b0, b1, b2, b3⟩ := hi_facts y.cps.contains x _ a0
  rw [strSub_len _ _ _ b0 b1]
  have key : ∀ k, k < x.length → x.cps.getD k 0 ∈ tl x := by
    intro k hk
    rw [getD_tl]
    have hk' : k < (tl x).length := by rw [← len_tl']; exact hk
    rw [List.getD_eq_getElem?_getD, List.getElem?_eq_getElem hk']
    exact List.getElem_mem hk'
  constructor
  · intro h c hc
    obtain ⟨k, hk, e⟩ := List.mem_iff_getElem.mp hc
    have hkx : k < x.length := by rw [len_tl']; exact hk
    have e' : x.cps.getD k 0 = c := by
      rw [getD_tl, List.getD_eq_getElem?_getD, List.getElem?_eq_getElem hk]
      exact e
    rw [← e']
    by_cases hl : k < stripLo y.cps.contains true x
    · exact a1 k hl
    · exact b2 k (by omega) hkx
  · intro h
    rcases a2 with e | e
    · omega
    · by_cases hl : stripLo y.cps.contains true x < x.length
      · rw [h _ (key _ hl)] at e
        cases e
      · omega
/-- the figures of a number, its sign stripped -/
theorem len_let (i : Int) : (Txt.stripChars (Str.ofString (toString i)) "-").length = (numL i.natAbs).length := by
  have e := tl_int i
  generalize Str.ofString (toString i) = x at e
  unfold Txt.stripChars
  rw [stripBy_eq]
  obtain ⟨a0, a1, a2⟩ := lo_facts ((Str.ofString "-").cps.contains) x
  obtain ⟨b0, b1, b2, b3⟩ := hi_facts ((Str.ofString "-").cps.contains) x _ a0
  rw [strSub_len _ _ _ b0 b1]
  have hgo : ∀ c : Nat, (Str.ofString "-").cps.contains c = decide (c = 45) := by
    intro c
    have : (Str.ofString "-").cps = #[45] := by decide +kernel
    rw [this]
    by_cases h : c = 45
    · subst h; simp
    · simp [h]
  have hne := numL_ne i.natAbs
  have hpos : 0 < (numL i.natAbs).length := List.length_pos_iff.mpr hne
  have hdig : ∀ k, k < (numL i.natAbs).length → (numL i.natAbs).getD k 0 ≠ 45 := by
    intro k hk h
    rw [List.getD_eq_getElem?_getD, List.getElem?_eq_getElem hk] at h
    have hm : (numL i.natAbs)[k] ∈ numL i.natAbs := List.getElem_mem hk
    have h' : (numL i.natAbs)[k] = 45 := h
    rw [h'] at hm
    exact numL_free (.inl (by decide)) hm
  have hlen := len_tl' x
  by_cases hi : i < 0
  · rw [if_pos hi] at e
    rw [e, List.length_cons] at hlen
    have x0 : x.cps.getD 0 0 = 45 := by rw [getD_tl, e]; rfl
    have xs : ∀ k, x.cps.getD (k + 1) 0 = (numL i.natAbs).getD k 0 := by intro k; rw [getD_tl, e]; rfl
    have lo1 : stripLo ((Str.ofString "-").cps.contains) true x = 1 := by
      by_cases h0 : stripLo ((Str.ofString "-").cps.contains) true x = 0
      · rcases a2 with z | z
        · omega
        · rw [h0, x0, hgo] at z
          simp at z
      · by_cases h2 : 1 < stripLo ((Str.ofString "-").cps.contains) true x
        · have z := a1 1 h2
          rw [xs 0, hgo] at z
          exact absurd (of_decide_eq_true z) (hdig 0 hpos)
        · omega
    have hi1 : stripHi ((Str.ofString "-").cps.contains) true x (stripLo ((Str.ofString "-").cps.contains) true x) = x.length := by
      by_cases h0 : stripHi ((Str.ofString "-").cps.contains) true x (stripLo ((Str.ofString "-").cps.contains) true x) < x.length
      · have z := b2 (x.length - 1) (by omega) (by omega)
        have e3 : x.length - 1 = (numL i.natAbs).length - 1 + 1 := by omega
        rw [e3, xs, hgo] at z
        exact absurd (of_decide_eq_true z) (hdig _ (by omega))
      · omega
    rw [hi1, lo1]
    omega
  · rw [if_neg hi] at e
    rw [e] at hlen
    have xs : ∀ k, x.cps.getD k 0 = (numL i.natAbs).getD k 0 := by intro k; rw [getD_tl, e]
    have lo1 : stripLo ((Str.ofString "-").cps.contains) true x = 0 := by
      by_cases h0 : stripLo ((Str.ofString "-").cps.contains) true x = 0
      · exact h0
      · have z := a1 0 (by omega)
        rw [xs 0, hgo] at z
        exact absurd (of_decide_eq_true z) (hdig 0 hpos)
    have hi1 : stripHi ((Str.ofString "-").cps.contains) true x (stripLo ((Str.ofString "-").cps.contains) true x) = x.length := by
      by_cases h0 : stripHi ((Str.ofString "-").cps.contains) true x (stripLo ((Str.ofString "-").cps.contains) true x) < x.length
      · have z := b2 (x.length - 1) (by omega) (by omega)
        rw [xs, hgo] at z
        exact absurd (of_decide_eq_true z) (hdig _ (by omega))
      · omega
    rw [hi1, lo1]
    omega
/-- the first sign of a number -/
theorem head_int (i : Int) : ∃ c, atI (tl (Str.ofString (toString i))) 0 = some c ∧ (c = 45 ↔ i < 0) := by
  rw [tl_int i]
  by_cases hi : i < 0
  · rw [if_pos hi]
    exact ⟨45, atI0 _ _, by simp [hi]⟩
  · rw [if_neg hi]
    cases h : numL i.natAbs with
    | nil => exact absurd h (numL_ne _)
    | cons c r =>
      refine ⟨c, atI0 _ _, ?_⟩
      have : c ≠ 45 := by
        intro z
        have hm : c ∈ numL i.natAbs := by rw [h]; exact List.mem_cons_self
        rw [z] at hm
        exact numL_free (.inl (by decide)) hm
      simp [this, hi]
theorem log2_of {n : Nat} {k : Nat} (h : n < 2 ^ k) (hk : 0 < k) : n.log2 < k := PySem.Flt.log2_lt_of hk h
end LP

set_option Elab.async false
set_option linter.all false
set_option maxRecDepth 100000
set_option maxHeartbeats 8000000
/-! LPS: sets of texts: set(list of texts), sorted of such a set. -/
namespace LP
open PySem PySem.Spec L2
open PyProof.Rows hiding St

/-! ### what a set of texts is -/
def tkey (e : Int × Value) : Str := match e.2 with
  | .str x _ => x
  | _ => Str.empty
def GoodT (w : World) (e : Int × Value) : Prop := ∃ x tk, e.2 = Value.str x tk ∧ e.1 = hashStr w x
/-- the table rises, and the order of a walk is told by it -/
def Walked (w : World) (t : SetTable) : Prop := Ris t.place.toList ∧ (w.params.followText "set-order" = true ∨ t.led = true)
structure TxIn (w : World) (es : Array (Int × Value)) (S : Str → Bool) : Prop where
  good : ∀ e ∈ es.toList, GoodT w e
  nd : (es.toList.map tkey).Nodup
  mem : ∀ k, S k = true ↔ k ∈ es.toList.map tkey
  few : es.size < scanBound
def SetT (w : World) (h : Heap) (a : Addr) (S : Str → Bool) (n : Nat) : Prop := ∃ o es ep t,
  h.get? a = some o ∧ o.ExactSet ∧ o.data = .set es ep t ∧ TxIn w es S ∧ t.fits es.size = true ∧ es.size = n ∧ Walked w t

section
variable {P : Program} {w : World} {h h' : Heap} {a : Addr} {S : Str → Bool} {n : Nat}
theorem SetT.at (R : SetT w h a S n) (k : ∀ o, h.get? a = some o → h'.get? a = some o) : SetT w h' a S n := by
  obtain ⟨o, es, ep, t, ho, r⟩ := R
  exact ⟨o, es, ep, t, k o ho, r⟩
theorem SetT.congr {S' : Str → Bool} {n' : Nat} (R : SetT w h a S n) (e : ∀ k, S' k = S k) (en : n' = n) : SetT w h a S' n' := by
  have q : S' = S := funext e
  rw [q, en]
  exact R
theorem tx_elems {l : List (Int × Value)} (g : ∀ e ∈ l, GoodT w e) : ElemsOf (strKind P w) l := by
  intro e he
  obtain ⟨x, tk, h1, h2⟩ := g e he
  constructor
  · refine ⟨x, ?_, h2⟩
    rw [h1]
    exact strKind_is P w x tk
  · rw [h1]
    rfl
theorem tx_is {e : Int × Value} (g : GoodT w e) (k : Str) : (strKind P w).is k e.2 = true ↔ tkey e = k := by
  obtain ⟨x, tk, h1, _⟩ := g
  unfold tkey
  rw [h1]
  constructor
  · intro q
    obtain ⟨u, e2⟩ := Value.isStrOf_shape (show Value.isStrOf k (.str x tk) = true from q)
    injection e2
  · intro q
    have q' : x = k := q
    rw [q']
    exact strKind_is P w k tk
theorem tx_mem {l : List (Int × Value)} (g : ∀ e ∈ l, GoodT w e) (k : Str) : k ∈ l.map tkey ↔ ∃ e ∈ l, (strKind P w).is k e.2 = true := by
  rw [List.mem_map]
  constructor
  · rintro ⟨e, he, q⟩
    exact ⟨e, he, (tx_is (P := P) (g e he) k).2 q⟩
  · rintro ⟨e, he, q⟩
    exact ⟨e, he, (tx_is (P := P) (g e he) k).1 q⟩
end

section
variable {P : Program} {w : World} {A : Around} {E : Value → Shared → Prop} {s : Shared} {a : Addr} {S : Str → Bool} {n : Nat}

theorem setT_tail {g : Bool → Sem Unit}
    (hg : ∀ (b : Bool) (s₁ : Shared) (Q' : Unit → Shared → Prop), Q' () s₁ → wpAny (model P w) A (g b) Q' E s₁)
    {o : Obj} {es : Array (Int × Value)} {ep : Nat} {t : SetTable} (ho : s.heap.get? a = some o) (hex : o.ExactSet) (hd : o.data = .set es ep t)
    {es1 : Array (Int × Value)} {t2 : SetTable} {S' : Str → Bool} (T1 : TxIn w es1 S') (hf2 : t2.fits es1.size = true) (hw : Walked w t2)
    {wasDummy : Bool} {R : Option Bool → Shared → Prop}
    (hR : ∀ h', Heap.SameBut a s.heap h' → SetT w h' a S' es1.size → R (some true) { s with heap := h' }) :
    wpAny (model P w) A (do
        storeSet a es1 t2
        if (!wasDummy && t2.tooFull) = true then do
            g (relayAll t2 es1 (SetTable.grown es1.size)).2.2
            storeSet a (relayAll t2 es1 (SetTable.grown es1.size)).1
              (relayAll t2 es1 (SetTable.grown es1.size)).2.1
            pure (some true)
          else pure (some true)) R E s := by
  refine wpAny_bind (wpAny_storeSet_of ho hd ?_ (fits_of_scanBound T1.few))
  have ho1 := store_at (es' := es1) (t' := t2) ho hd
  have sb1 := Heap.SameBut.update s.heap a (Obj.putSet es1 t2)
  split
  · have pm := relayAll_perm t2 es1 (SetTable.grown es1.size)
    have q1 := relayAll_fits t2 es1 (SetTable.grown es1.size)
    have q2 := relayAll_ris t2 es1 (SetTable.grown es1.size)
    have q3 := relayAll_led t2 es1 (SetTable.grown es1.size)
    generalize relayAll t2 es1 (SetTable.grown es1.size) = Z at pm q1 q2 q3 ⊢
    obtain ⟨es2, t3, gave⟩ := Z
    dsimp only at pm q1 q2 q3 ⊢
    have hsz : es2.size = es1.size := by
      have := pm.length_eq
      rw [Array.length_toList, Array.length_toList] at this
      exact this
    have few2 : es2.size < scanBound := hsz ▸ T1.few
    refine wpAny_bind (hg _ _ _ ?_)
    refine wpAny_bind (wpAny_storeSet_of ho1 rfl ?_ (fits_of_scanBound few2))
    have ho2 := store_at (es' := es2) (t' := t3) ho1 rfl
    refine wpAny_pure (hR _ (sb1.trans (Heap.SameBut.update _ a _)) ?_)
    have pk := pm.map tkey
    have T2 : TxIn w es2 S' := ⟨fun e he => T1.good e (pm.mem_iff.mp he), pk.nodup_iff.mpr T1.nd, fun k => (T1.mem k).trans pk.mem_iff.symm, few2⟩
    refine ⟨_, es2, _, t3, ho2, hex, rfl, T2, q1, hsz, q2, ?_⟩
    rcases hw.2 with z | z
    · exact .inl z
    · exact .inr (q3.trans z)
  · exact wpAny_pure (hR _ sb1 ⟨_, es1, _, t2, ho1, hex, rfl, T1, hf2, rfl, hw⟩)

theorem setT_add {k : Str} {tk : Tok} {Q : Bool → Shared → Prop} (R : SetT w s.heap a S n) (room : n + 1 < scanBound)
    (hQ : ∀ h', Heap.SameBut a s.heap h' → SetT w h' a (fun j => S j || decide (j = k)) (if S k = true then n else n + 1) →
      Q (!S k) { s with heap := h' }) :
    wpAny (model P w) A (setAddHashed a (.str k tk) ((strKind P w).hash k)) Q E s := by
  obtain ⟨o, es, ep, t, ho, hex, hd, T, hf, hn, hw⟩ := R
  have hkey : (strKind P w).is k (.str k tk) = true := strKind_is P w k tk
  have hsc : (Value.str k tk).scannable = true := rfl
  have hel : ElemsOf (strKind P w) es.toList := tx_elems T.good
  unfold setAddHashed setAddHashedIn
  refine wpAny_holding (wpAny_bind (wpAny_setState_of ho hd hf ?_))
  dsimp only
  rw [byScan_of hsc T.few hel]
  simp only [↓reduceIte]
  unfold setAddByScan
  refine wpAny_bind ?_
  refine wpAny_bind (wpAny_rule ?_)
  refine wpAny_bind (wpAny_setScan_of hkey ho hd hf hel ?_)
  cases hfi : List.findIdx? (fun e => (strKind P w).is k e.2) es.toList with
  | some j =>
    dsimp only
    obtain ⟨hj, pj, _⟩ := List.findIdx?_eq_some_iff_getElem.mp hfi
    have hSk : S k = true := (T.mem k).2 ((tx_mem (P := P) T.good k).2 ⟨es.toList[j], List.getElem_mem hj, pj⟩)
    refine wpAny_pure (wpAny_pure ?_)
    have mem' : ∀ i, (S i || decide (i = k)) = true ↔ i ∈ es.toList.map tkey := by
      intro i
      rw [Bool.or_eq_true, decide_eq_true_eq, ← T.mem i]
      constructor
      · rintro (z | z)
        · exact z
        · rw [z]; exact hSk
      · exact .inl
    have q := hQ s.heap (Heap.SameBut.refl a s.heap) ⟨o, es, ep, t, ho, hex, hd, ⟨T.good, T.nd, mem', T.few⟩, hf, by rw [if_pos hSk]; exact hn, hw⟩
    rw [hSk] at q
    exact q
  | none =>
    dsimp only
    have hnk : k ∉ es.toList.map tkey := by
      intro z
      obtain ⟨e, he, q⟩ := (tx_mem (P := P) T.good k).1 z
      have c := List.findIdx?_eq_none_iff.mp hfi e he
      rw [q] at c
      cases c
    have hSk : S k = false := by
      cases q : S k with
      | false => rfl
      | true => exact absurd ((T.mem k).1 q) hnk
    have hgw : ∀ (b : Bool) {s₁ : Shared} {Q' : Unit → Shared → Prop}, Q' () s₁ →
        wpAny (model P w) A (match b with | true => rule "set.scan.the-table-gave-way" | false => pure ()) Q' E s₁ := by
      intro b s₁ Q' q
      cases b
      · exact wpAny_pure q
      · exact wpAny_rule q
    have pm := layNew_perm t es ((strKind P w).hash k) (.str k tk)
    have q1 := layNew_fits t es ((strKind P w).hash k) (.str k tk)
    have q2 := layNew_ris t es ((strKind P w).hash k) (.str k tk) hw.1
    have q3 := layNew_led t es ((strKind P w).hash k) (.str k tk)
    generalize layNew t es ((strKind P w).hash k) (.str k tk) = Z at pm q1 q2 q3 ⊢
    obtain ⟨es1, t1, wasDummy, gave⟩ := Z
    dsimp only at pm q1 q2 q3 ⊢
    rw [Array.toList_push] at pm
    have pc := pm.trans (List.perm_append_singleton _ _)
    have pk : (es1.toList.map tkey).Perm (k :: es.toList.map tkey) := pc.map tkey
    have hsz : es1.size = n + 1 := by
      have z := pc.length_eq
      rw [List.length_cons, Array.length_toList, Array.length_toList, hn] at z
      exact z
    have T1 : TxIn w es1 (fun j => S j || decide (j = k)) := by
      refine ⟨fun e he => ?_, pk.nodup_iff.mpr (List.nodup_cons.mpr ⟨hnk, T.nd⟩), fun i => ?_, hsz ▸ room⟩
      · rcases List.mem_cons.mp (pc.mem_iff.mp he) with z | z
        · rw [z]
          exact ⟨k, tk, rfl, rfl⟩
        · exact T.good e z
      · rw [Bool.or_eq_true, decide_eq_true_eq, T.mem i, pk.mem_iff, List.mem_cons]
        exact Or.comm
    have hw1 : Walked w t1 := by
      refine ⟨q2, ?_⟩
      rcases hw.2 with z | z
      · exact .inl z
      · exact .inr (q3.trans z)
    have fin : ∀ h', Heap.SameBut a s.heap h' → SetT w h' a (fun j => S j || decide (j = k)) es1.size → Q true { s with heap := h' } := by
      intro h' sb r
      have q := hQ h' sb
      rw [hSk] at q
      rw [hsz] at r
      exact q r
    refine wpAny_bind (hgw _ ?_)
    split
    · refine wpAny_bind ?_
      rw [hashByValue_scannable 8 hsc]
      refine wpAny_pure ?_
      refine setT_tail ?_ ho hex hd T1 ?_ ?_ ?_
      · intro b s₁ Q' q
        cases b
        · exact wpAny_pure q
        · exact wpAny_rule q
      · first | (split <;> first | exact q1 | exact SetTable.fits_plain_off q1) | exact q1
      · first | (split <;> exact hw1) | exact hw1
      · intro h' sb r
        dsimp only
        exact wpAny_pure (fin h' sb r)
    · refine wpAny_bind (wpAny_pure ?_)
      simp only [↓reduceIte]
      refine setT_tail ?_ ho hex hd T1 q1 hw1 ?_
      · intro b s₁ Q' q
        cases b
        · exact wpAny_pure q
        · exact wpAny_rule q
      · intro h' sb r
        dsimp only
        exact wpAny_pure (fin h' sb r)
end

/-! ### set(xs) -/
section
variable {prog : Program} {w : World} {A : Around} {R : Result → Shared → Prop} {I : Addr} {fp wr : List Addr}
  {G : Array GenState → Array GenState → Prop} {n : Nat} {P : Nat → Value → Prop} {St : Nat → Shared → Prop}

/-- the set at S holds just the first i of the texts -/
def HoldsT (w : World) (h : Heap) (S : Addr) (xs : List Str) (i : Nat) : Prop := ∃ (M : Str → Bool) (m : Nat), SetT w h S M m ∧ m ≤ i ∧ ∀ k, M k = true ↔ k ∈ xs.take i

theorem update_texts (W : WalksS prog w A.in1 I fp wr G n P St) (S : Addr) (hSf : S ∉ fp) (xs : List Str)
    (hval : ∀ (i : Nat) (v : Value), P i v → ∃ x t, xs[i]? = some x ∧ v = Value.str x t) (hb : n + 1 < scanBound) :
    ∀ (k i : Nat) (s : Shared), n - i = k → i ≤ n → St i s → HoldsT w s.heap S xs i →
      (∀ s', Moved (S :: wr) G s s' → HoldsT w s'.heap S xs n → R (.ok (.ret .none)) s') →
      codeAny (model prog w) A (.builtin "set.update.loop" ⟨[.ref S, .ref I], []⟩) R s := by
  have hSw : S ∉ wr := fun h => hSf (W.sub _ h)
  have hsub : ∀ b ∈ wr, b ∈ S :: wr := fun b hb => List.mem_cons_of_mem _ hb
  intro k
  induction k with
  | zero =>
    intro i s hk hi hst hS hR
    obtain rfl : i = n := by omega
    refine codeAny_builtin F.entry_set_update_loop ?_
    rw [Around.under_plainId F.plain_set_update_loop _]
    show wpAny _ A.in1 (pyNext (.ref I) >>= _) _ _ s
    refine wpAny_bind (W.done s _ _ hst ?_)
    intro s' hm
    show wpAny _ A.in1 (ret Value.none) _ _ s'
    refine wpAny_pure (hR s' (hm.mono hsub) ?_)
    obtain ⟨M, m, T, hmi, hM⟩ := hS
    exact ⟨M, m, T.at fun o ho => hm.heap S _ hSw ho, hmi, hM⟩
  | succ k ih =>
    intro i s hk hi hst hS hR
    have hlt : i < n := by omega
    refine codeAny_builtin F.entry_set_update_loop ?_
    rw [Around.under_plainId F.plain_set_update_loop _]
    show wpAny _ A.in1 (pyNext (.ref I) >>= _) _ _ s
    refine wpAny_bind (W.item i s _ _ hlt hst ?_)
    intro v s' hP hst' hm
    obtain ⟨x, t, hx, rfl⟩ := hval i v hP
    obtain ⟨M, m, T, hmi, hM⟩ := hS
    have T' : SetT w s'.heap S M m := T.at fun o ho => hm.heap S _ hSw ho
    show wpAny _ A.in1 (holding [Value.str x t] (setAdd S (.str x t)) >>= _) _ _ s'
    refine wpAny_bind (wpAny_holding ?_)
    unfold setAdd
    refine wpAny_holding ?_
    refine wpAny_bind ((strKind prog w).pyHash (k := x) (strKind_is _ _ _ _) ?_)
    refine setT_add (s := { s' with toks := s'.toks + 1 }) T' (by omega) ?_
    intro h' hsb T2
    have hSi : HoldsT w h' S xs (i + 1) := by
      refine ⟨_, _, T2, ?_, fun j => ?_⟩
      · split <;> omega
      · rw [Bool.or_eq_true, decide_eq_true_eq, hM j, List.take_add_one, hx, List.mem_append]
        show _ ↔ _ ∨ j ∈ [x]
        rw [List.mem_singleton]
    refine wpAny_pure ⟨plainId_quiet F.plain_set_update_loop _, ?_⟩
    refine ih (i + 1) _ (by omega) hlt (W.frame _ s' _ _ hst' (Nat.le_succ _) ?_) hSi ?_
    · intro b hb o e
      rw [hsb.2 b (fun h : b = S => hSf (by rw [← h]; exact hb))]
      exact e
    · intro s'' hm'' hS''
      refine hR s'' (Moved.trans W.gtrans ((hm.mono hsub).then_heap (Nat.le_succ _) ?_) hm'') hS''
      intro b o hb e
      rw [hsb.2 b (fun h : b = S => hb (by rw [h]; exact List.mem_cons_self))]
      exact e
end

section
variable {P : Program} {w : World} {A : Around} {E : Value → Shared → Prop} {s : Shared}
def freshSet (w : World) : Obj := { cls := .type "set", dict := none, data := .set #[] 0 (.fresh 0 0 (!w.params.followText "set-order")) }
theorem set_new1 (a : Value) {Q₁ : Value → Shared → Prop} (h : Q₁ (.ref s.heap.objs.size) { s with heap := s.heap.push (freshSet w) }) :
    codeAny (model P w) A (.call (.builtin "set.__new__") ⟨[.type "set", a], []⟩) (wants Q₁ E) s := by
  refine codeAny_of_tree ?_
  show wpAny _ A.in1 (do
    checkBuiltinCall "set.__new__" ⟨[.type "set", a], []⟩
    again (.builtin "set.__new__" ⟨[.type "set", a], []⟩)) _ _ s
  refine wpAny_bind (wpAny_of_eq (F.newCall_set_1 a) (wpAny_pure ⟨plainId_quiet F.plain_set_new _, ?_⟩))
  refine codeAny_builtin F.entry_set_new ?_
  rw [Around.under_plainId F.plain_set_new _]
  unfold Builtin.«set.__new__» Builtin.Frozenset.newClass
  have hsub := sub_set_self
  obtain ⟨hp, g, d, tk, os⟩ := s
  dsimp only
  wp_walk
  refine wpAny_askSetting (wpAny_pure ?_)
  dsimp only
  simp only [newObj]
  exact wpAny_bind (wpAny_alloc (wpAny_pure (wpAny_pure h)))
theorem setT_fresh {h : Heap} (w : World) (xs : List Str) : HoldsT w (h.push (freshSet w)) h.objs.size xs 0 := by
  refine ⟨fun _ => false, 0, ⟨_, #[], 0, _, Heap.get?_push_size _ rfl, ⟨rfl, rfl, rfl⟩, rfl, ⟨?_, ?_, ?_, ?_⟩, ?_, rfl, List.Pairwise.nil, ?_⟩, Nat.le_refl _, ?_⟩
  · intro e he
    simp at he
  · simp
  · intro k
    simp
  · decide
  · rfl
  · show _ ∨ (!w.params.followText "set-order") = true
    cases w.params.followText "set-order"
    · exact .inr rfl
    · exact .inl rfl
  · intro k
    simp

theorem call_set_texts {l : Addr} {items : Array Value} {xs : List Str} {Q : Value → Shared → Prop} (hh : A.handled = none)
    (hl : s.heap.IsList l items) (hi : ∀ (i : Nat) (v : Value), items[i]? = some v → ∃ x t, xs[i]? = some x ∧ v = Value.str x t) (hb : items.size + 1 < scanBound)
    (h : ∀ (h' : Heap) (tk : Nat), HoldsT w h' s.heap.objs.size xs items.size →
      (∀ b o, b < s.heap.objs.size → s.heap.get? b = some o → h'.get? b = some o) → Q (.ref s.heap.objs.size) { s with heap := h', toks := tk }) :
    wpAny (model P w) A (call (.type "set") [.ref l]) Q E s := by
  obtain ⟨c, tl, hmro⟩ := F.called_set.mro
  have hmade := F.called_set.made
  have hsub := F.called_set.sub
  refine wpAny_call (codeAny_of_tree ?_)
  show wpAny _ _ (callAny (.type "set") _) _ _ _
  refine wpAny_pure ⟨Code.quiet_builtin _ (by decide +kernel), ?_⟩
  refine codeAny_builtin F.entry_type_call ?_
  rw [Around.under_plain (weight_type_call_type "set" [.ref l] []) rfl]
  have h1 := F.called_set.notType
  have h2 := F.called_set.canCreate
  have hct := F.typeCall_set_1 (.ref l)
  repeat (any_goals (first | assumption | wp_step))
  refine codeAny_mono (set_new1 (.ref l) (E := E) (Q₁ := fun obj s₁ => obj = .ref s.heap.objs.size ∧ s₁ = { s with heap := s.heap.push (freshSet w) }) ⟨rfl, rfl⟩) ?_
  intro r s₁ hr
  cases r with
  | error e => exact hr
  | ok fl =>
    cases fl with
    | ret obj =>
      obtain ⟨rfl, rfl⟩ := hr
      have hS : (s.heap.push (freshSet w)).get? s.heap.objs.size = some (freshSet w) := Heap.get?_push_size _ rfl
      have hT : Shared.TypeIs { s with heap := s.heap.push (freshSet w) } (.ref s.heap.objs.size) "set" := ⟨_, hS, rfl⟩
      have hli := F.called_set.init.lookup
      have hbi := F.called_set.init.bind (.ref s.heap.objs.size)
      repeat (any_goals (first | assumption | wp_step))
      refine codeAny_mono (codeAny_call_builtin (R := wants (fun r s₂ => r = .none ∧ ∃ h' tk, s₂ = { s with heap := h', toks := tk } ∧
          HoldsT w h' s.heap.objs.size xs items.size ∧ (∀ b o, b < s.heap.objs.size → s.heap.get? b = some o → h'.get? b = some o)) E)
        F.called_set.init.plain F.entry_set_init (check_set_init_1 hT ?_)) ?_
      · obtain ⟨ol, hol, hcl, nl, hdl⟩ := hl
        obtain ⟨ocls, odict, odata, oslots⟩ := ol
        simp only at hcl hdl
        subst hcl
        subst hdl
        have hol' : (s.heap.push (freshSet w)).get? l = some { cls := .type "list", dict := odict, data := .seq items nl, slots := oslots } := Heap.get?_push_of_some _ hol
        have hsls := F.sub_list_set
        have hslf := F.sub_list_frozenset
        have hne : (Value.type "list" == Value.type "dict") = false := by decide
        have hl1 : (s.heap.push (freshSet w)).IsList l items := ⟨_, hol', rfl, nl, rfl⟩
        unfold Builtin.«set.__init__» noKeywords Builtin.Frozenset.updateFrom
        generalize hPI : pyIter = PI
        wp_walk
        subst hPI
        refine wpAny_pyIter_list hl1 ?_
        refine wpAny_bind (wpAny_runValue ?_)
        have hlS : l < s.heap.objs.size := Heap.lt_size hol
        have hh3 : A.in1.in1.in1.handled = none := by simp [hh]
        have hsz : (s.heap.push (freshSet w)).objs.size = s.heap.objs.size + 1 := Heap.size_push _ _
        have hneI : l ≠ (s.heap.push (freshSet w)).objs.size := by
          rw [hsz]
          exact Nat.ne_of_lt (Nat.lt_succ_of_lt hlS)
        have hSf : s.heap.objs.size ∉ [(s.heap.push (freshSet w)).objs.size, l] := by
          rw [hsz]
          simp only [List.mem_cons, List.not_mem_nil, or_false, not_or]
          exact ⟨Nat.ne_of_lt (Nat.lt_succ_self _), Nat.ne_of_gt hlS⟩
        refine update_texts ((Walks.list hh3 _ l hneI items).toS) s.heap.objs.size hSf xs hi hb (items.size - 0) 0 _ (by omega) (Nat.zero_le _)
          ⟨⟨_, Heap.get?_push_size _ rfl, rfl, rfl⟩, (hl1.push _)⟩ ?hS0 ?hR
        case hS0 =>
          obtain ⟨M, m, T, e1, e2⟩ := setT_fresh (h := s.heap) w xs
          exact ⟨M, m, T.at fun o ho => Heap.get?_push_of_some _ ho, e1, e2⟩
        case hR =>
          intro s' hm hS'
          obtain ⟨h', g', d', tk', os'⟩ := s'
          have eg : g' = s.gens := hm.gens
          have ed : d' = s.drawn := hm.drawn
          have eo : os' = s.os := hm.os
          subst eg
          subst ed
          subst eo
          show wpAny _ _ _ _ _ _
          refine wpAny_pure ?_
          show wpAny _ _ (ret Value.none) _ _ _
          refine wpAny_pure ⟨rfl, h', tk', rfl, hS', ?_⟩
          intro b o hb e
          have hb1 : b ≠ s.heap.objs.size := Nat.ne_of_lt hb
          have hb2 : b ≠ (s.heap.push (freshSet w)).objs.size := by
            rw [hsz]
            exact Nat.ne_of_lt (Nat.lt_succ_of_lt hb)
          refine hm.heap b o ?_ (Heap.get?_push_of_some _ (Heap.get?_push_of_some _ e))
          simp only [List.mem_cons, List.not_mem_nil, or_false, not_or]
          exact ⟨hb1, hb2⟩
      · intro r₂ s₂ hr₂
        cases r₂ with
        | error e => exact hr₂
        | ok fl₂ =>
          cases fl₂ with
          | ret r =>
            obtain ⟨rfl, h', tk, rfl, hS', hk'⟩ := hr₂
            repeat (any_goals (first | assumption | wp_step))
            exact h _ _ hS' hk'
          | _ => exact hr₂.elim
    | _ => exact hr.elim

/-! ### sorted(set) -/
def txtOf (v : Value) : Str := match v with
  | .str x _ => x
  | _ => Str.empty
theorem strs_of : ∀ (l : List Value), (∀ v ∈ l, ∃ x tk, v = Value.str x tk) → StrsAre l (l.map txtOf)
  | [], _ => .nil
  | v :: l, h => by
    obtain ⟨x, tk, rfl⟩ := h v List.mem_cons_self
    exact .cons x tk (strs_of l fun u hu => h u (List.mem_cons_of_mem _ hu))

theorem sorted_texts {a : Addr} {S : Str → Bool} {n : Nat} {Q : Value → Shared → Prop} (R : SetT w s.heap a S n) (hh : A.handled = none)
    (hQ : ∀ s' p (out : Array Value) (c : Nat) (ys : List Str), (∀ b o, s.heap.get? b = some o → s'.heap.get? b = some o) → s'.gens = s.gens → s'.os = s.os →
      s.heap.objs.size ≤ p → s'.heap.get? p = some (seqObj "list" out c) → StrsAre out.toList ys → sortedS ys = true → ys.Nodup → (∀ k, k ∈ ys ↔ S k = true) →
      ys.length = n → Q (.ref p) s') :
    wpAny (model P w) A (call (.builtin "sorted") [.ref a]) Q E s := by
  obtain ⟨o, es, ep, t, ho, hex, hd, T, hf, hn, hw⟩ := R
  refine Calls.call_function_entry kind_sorted plain_sorted entry_sorted (args_sorted1 _) ?_
  unfold Builtin.«sorted»
  refine wpAny_bind (m := checkCount "sorted" 1 1 _) (wpAny_pure ?_)
  refine wpAny_bind (collect_set (A := A.in1) hh ⟨o, ho, hex.1, hd⟩ hf T.few hw.1 hw.2 ?_)
  intro s1 vs k1 hz g1 o1 pm
  have hvl : vs.length = n := by
    rw [pm.length_eq, List.length_map, Array.length_toList]
    exact hn
  have hI : StrsAre vs (vs.map txtOf) := by
    refine strs_of vs fun v hv => ?_
    obtain ⟨e, he, q⟩ := List.mem_map.mp (pm.mem_iff.mp hv)
    obtain ⟨x, tk, h1, _⟩ := T.good e he
    exact ⟨x, tk, by rw [← q]; exact h1⟩
  have pk : (vs.map txtOf).Perm (es.toList.map tkey) := by
    have q := pm.map txtOf
    rw [List.map_map] at q
    exact q
  have hline : vs.length ≤ sizeLine := by
    rw [hvl, ← hn]
    exact fits_of_scanBound T.few
  refine wpAny_bind (wpAny_newList ?_ hline)
  have hoL : (s1.heap.push (seqObj "list" vs.toArray 0)).get? s1.heap.objs.size = some (seqObj "list" vs.toArray 0) := Heap.get?_push_size _ rfl
  refine wpAny_bind (wpAny_holding (wpAny_call_entry slot_list_sort ⟨_, hoL, rfl⟩ entry_list_sort
    (list_sort_treeKAny strKind_oneLt hoL hI.keysOf (fun v₁ v₂ rest e => keyKind_strs (by rw [← e]; exact hI)) hline ?_) (args_list_sort _)))
  intro st' hp hs
  obtain ⟨ys, a1, a2, a3⟩ := sorted_out_str hI hp hs
  refine ⟨_, rfl, ?_⟩
  obtain ⟨c, hc⟩ := sortedHeap_at (vs := vs) (out := (arrOf st').map (·.2)) hoL
  have pn : ys.Perm (es.toList.map tkey) := a2.trans pk
  refine wpAny_pure ⟨_, rfl, ?_⟩
  refine hQ _ s1.heap.objs.size _ c ys ?_ g1 o1 hz hc a1 a3 (pn.nodup_iff.mpr T.nd) (fun k => by rw [pn.mem_iff, ← T.mem k]) ?_
  · intro b u e
    have q := k1 b u e
    have hlt := Heap.lt_size q
    show (sortedHeap (s1.heap.push (seqObj "list" vs.toArray 0)) s1.heap.objs.size vs _).get? b = some u
    rw [sortedHeap_old (Nat.ne_of_lt hlt) (by rw [size_push']; exact Nat.lt_succ_of_lt hlt)]
    exact Heap.get?_push_of_some _ q
  · rw [pn.length_eq, List.length_map, Array.length_toList]
    exact hn
end

/-! ### over the layer -/
/-- a tracked set of just these texts -/
def TxS (w : World) (a : Addr) (xs : List Str) : HO := .ext fun h => HoldsT w h a xs xs.length
theorem txS_ok {P : Program} {w : World} {H : Hp} {h : Heap} {a : Addr} {xs : List Str} (T : HoldsT w h a xs xs.length) : ObjOk P w H h a (TxS w a xs) := by
  refine ⟨T, ?_, ?_⟩
  · obtain ⟨_, _, ⟨o, _, _, _, ho, _⟩, _⟩ := T
    exact ⟨o, ho⟩
  · rintro h1 h2 ⟨M, m, T1, e1, e2⟩ k
    exact ⟨M, m, T1.at k, e1, e2⟩
/-- sorted, each once, the same members -/
structure Sorted (ys xs : List Str) : Prop where
  up : sortedS ys = true
  nd : ys.Nodup
  mem : ∀ k, k ∈ ys ↔ k ∈ xs
  len : ys.length ≤ xs.length
def rSetT (w : World) : List V → Hp → VK → Prop := fun vs H Q => ∃ (l : Addr) (xs : List Str), vs = [.ref l] ∧ H l = some (.lst (xs.map V.str)) ∧ xs.length + 1 < scanBound ∧
  ∀ p, H p = none → Q (.ref p) (upd H p (TxS w p xs))
def rSortT (w : World) : List V → Hp → VK → Prop := fun vs H Q => ∃ (a : Addr) (xs : List Str), vs = [.ref a] ∧ H a = some (TxS w a xs) ∧
  ∀ ys p, Sorted ys xs → H p = none → Q (.ref p) (upd H p (.lst (ys.map V.str)))
theorem vals_str {xs : List Str} {us : List Value} (r : Vals (xs.map V.str) us) (i : Nat) (v : Value) (h : us[i]? = some v) : ∃ x t, xs[i]? = some x ∧ v = Value.str x t := by
  have hi : i < us.length := (List.getElem?_eq_some_iff.mp h).1
  have hx : i < xs.length := by
    have := r.length
    rw [List.length_map] at this
    omega
  obtain ⟨u, h1, h2⟩ := Vals.get (i := i) (x := V.str xs[i]) r (by rw [List.getElem?_map, List.getElem?_eq_getElem hx]; rfl)
  rw [h] at h1
  cases h1
  obtain ⟨t, e⟩ := h2
  exact ⟨xs[i], t, List.getElem?_eq_getElem hx, e⟩
section
variable {X : Cx}
theorem cr_setT (hc : X.calm = true) : CallR X (.type "set") (rSetT X.w) := by
  intro pins s σ H vs us Q I r h
  obtain ⟨l, xs, rfl, hl, hz, q⟩ := h
  obtain ⟨its, rv, pl, _⟩ := I.list (SqL.of hl)
  rw [Vals.ref1 r]
  have hlen : its.length = xs.length := by
    have := rv.length
    rw [List.length_map] at this
    exact this.symm
  refine call_set_texts (xs := xs) (I.ok.hd hc) pl.isList (fun i v hv => vals_str rv i v (by simpa using hv)) (by rw [List.size_toArray, hlen]; exact hz) ?_
  intro h' tk T k
  have ez : its.toArray.size = xs.length := by rw [List.size_toArray, hlen]
  rw [ez] at T
  have kk : ∀ b o, s.heap.get? b = some o → h'.get? b = some o := fun b o e => k b o (Heap.lt_size e) e
  exact ⟨.ref _, _, I.laid (t' := tk) kk (Nat.le_refl _) (txS_ok T), rfl, q _ (I.hok.fresh (Nat.le_refl _))⟩
theorem cr_sortT (hc : X.calm = true) : CallR X (.builtin "sorted") (rSortT X.w) := by
  intro pins s σ H vs us Q I r h
  obtain ⟨a, xs, rfl, ha, q⟩ := h
  have T : HoldsT X.w s.heap a xs xs.length := (I.hok a _ ha).1
  obtain ⟨M, m, T, hm, hM⟩ := T
  rw [List.take_length] at hM
  rw [Vals.ref1 r]
  refine sorted_texts T (I.ok.hd hc) ?_
  intro s' p out c ys k g o hp hg hs h1 h2 h3 h4
  have so : Sorted ys xs := ⟨h1, h2, fun j => (h3 j).trans (hM j), by rw [h4]; exact hm⟩
  have few : ys.length < scanBound := by
    obtain ⟨_, es, _, _, _, _, _, Tx, _, hn, _⟩ := T
    rw [h4, ← hn]
    exact Tx.few
  have hlen : (ys.map V.str).length ≤ sizeLine := by
    rw [List.length_map]
    exact fits_of_scanBound few
  have hn : H p = none := I.hok.fresh hp
  have J : Inv X pins σ (upd H p (.lst (ys.map V.str))) { s with heap := s'.heap, gens := s'.gens, drawn := s'.drawn, toks := s'.toks } :=
    I.call (ch := []) (Un.laid k hp hn) (I.hok.laid k hp ⟨hlen, out.toList, c, vals_of_strs hs, hg⟩) (by rw [g]; exact I.bare) (fun _ z => nomatch z)
  have e : s' = { s with heap := s'.heap, gens := s'.gens, drawn := s'.drawn, toks := s'.toks } := by
    cases s'
    cases s
    cases o
    rfl
  rw [e]
  exact ⟨.ref p, _, J, rfl, q ys p so hn⟩
end
end LP

set_option Elab.async false
set_option linter.all false
set_option maxRecDepth 100000
set_option maxHeartbeats 4000000
/-! LPX: further readings: texts repeated, signs of a text, tuples walked, all(..). -/
namespace LP
open PySem PySem.Spec L2
open PyProof.Rows hiding St

/-! ### a text repeated -/
def repS (z : Str) (n : Int) : Str := Txt.mul z n
theorem foldl_app {α : Type} : ∀ (l : List (Array α)) (a : Array α), (l.foldl (· ++ ·) a).toList = a.toList ++ (l.map Array.toList).flatten
  | [], a => by simp
  | x :: r, a => by
    rw [List.foldl_cons, foldl_app r (a ++ x)]
    simp
theorem tl_rep (z : Str) (n : Int) : TL.tl (repS z n) = (List.replicate n.toNat (TL.tl z)).flatten := by
  unfold repS Txt.mul
  by_cases h : n < 1
  · rw [if_pos h]
    have e : n.toNat = 0 := by omega
    rw [e]
    rfl
  · rw [if_neg h]
    by_cases h2 : (n == 1 || z.length == 0) = true
    · rw [if_pos h2]
      rw [Bool.or_eq_true, beq_iff_eq, beq_iff_eq] at h2
      rcases h2 with e | e
      · rw [e]
        simp
      · have e2 : TL.tl z = [] := List.length_eq_zero_iff.mp ((len_tl' z).symm.trans e)
        rw [e2]
        simp
    · rw [if_neg h2]
      show ((List.replicate n.toNat z.cps).foldl (· ++ ·) #[]).toList = _
      rw [foldl_app]
      simp
theorem len_rep (z : Str) (n : Int) : (repS z n).length = z.length * n.toNat := by
  rw [len_tl', tl_rep, List.length_flatten, len_tl']
  simp [Nat.mul_comm]
def rRepS : R2 := fun x y H Q => ∃ z n, x = .str z ∧ y = .int n ∧ (-(2 ^ 63) ≤ n ∧ n < 2 ^ 63 ∧ z.length * n.toNat ≤ sizeLine) ∧ Q (.str (repS z n)) H
section
variable {X : Cx}
theorem op_repS : OpR X (binaryOp .Mult) rRepS := by
  intro pins s σ H x y v u Q I rx ry h
  obtain ⟨z, n, rfl, rfl, ⟨h1, h2, h3⟩, q⟩ := h
  obtain ⟨t, rfl⟩ := rx
  obtain ⟨k, rfl⟩ := ry
  refine SB.mul ⟨?_, ?_, ?_⟩ (fun t' k' => ⟨.str _, H, I.tok _, ⟨_, rfl⟩, q⟩)
  · rw [Bool.or_eq_false_iff, decide_eq_false_iff_not, decide_eq_false_iff_not]
    omega
  · intro hn _ hc
    have e : sizeLine = 16777216 := sizeLine_eq
    rw [e] at h3
    have h5 : (z.length : Int) * n ≤ 16777216 := by
      have e2 : ((n.toNat : Nat) : Int) = n := Int.toNat_of_nonneg (by omega)
      have e3 := Int.ofNat_le.mpr h3
      rw [Int.natCast_mul, e2] at e3
      exact e3
    have h6 : (z.length : Int) ≤ (2 ^ 63 - 1) / n := by
      rw [Int.le_ediv_iff_mul_le (by omega)]
      omega
    omega
  · intro hn _
    show decide (z.length * n.toNat > sizeLine) = false
    rw [decide_eq_false_iff_not]
    exact Nat.not_lt_of_le h3
end

/-! ### the signs of a text -/
def sgn (c : Nat) : V := .str ⟨#[c]⟩
def signs (x : Str) : List V := x.cps.toList.map sgn
theorem signs_len (x : Str) : (signs x).length = x.length := by
  unfold signs
  rw [List.length_map, len_tl']
theorem walk_signs (x : Str) : Walk (Its x) (signs x).length (fun _ => True) (YAt (signs x)) := by
  have e : (signs x).length = x.cps.size := signs_len x
  refine ⟨fun i H hi _ => ?_, fun H _ => ?_, fun i H v H' hi _ y => ?_⟩
  · rw [e] at hi
    exact hi
  · exact Nat.le_of_eq e.symm
  · obtain ⟨e1, c, hc, e2⟩ := y
    refine ⟨e1, ?_⟩
    unfold signs
    rw [List.getElem?_map, Array.getElem?_toList, hc, e2]
    rfl

/-! ### comprehensions that leave what is known, over any walk -/
theorem lc_pureW {J : It} {G : Hp → Prop} {xs : List V} (W : Walk J xs.length G (YAt xs)) {j : Nat} {tt : TT} {te : TE} {vs : List Nat} {σ : St} {H : Hp} {Q : VK}
    (hG : ∀ H1, Same H H1 → G H1) (hz : xs.length ≤ 1000000) (f : V → Bool) (v : V → V)
    (hw : ∀ x, wipe ((wipe σ vs).set j (some x)) vs = wipe σ vs)
    (ht : ∀ x, x ∈ xs → ∀ H1, Same H H1 → ∀ R : Bool → Hp → Prop, (∀ H2, Same H1 H2 → R (f x) H2) → tt ((wipe σ vs).set j (some x)) H1 R)
    (he : ∀ x, x ∈ xs → f x = true → ∀ H1, Same H H1 → ∀ R : VK, (∀ H2, Same H1 H2 → R (v x) H2) → te ((wipe σ vs).set j (some x)) H1 R)
    (q : ∀ p H2, H p = none → Same H H2 → H2 p = some (.lst ((xs.filter f).map v)) → Q (.ref p) H2) : LcLoop J (gName j) tt te vs σ H Q := by
  intro D hD
  refine lc_it W (fun i H' => Same H H' ∧ H' D = some (.lst (((xs.take i).filter f).map v))) ⟨Same.new hD, upd_same⟩ (fun i H' _ p => hG H' p.1) ?_ ?_
  · rintro i x H1 H1' hi ⟨e1, d1⟩ ⟨rfl, hx⟩
    have hm : x ∈ xs := List.mem_of_getElem? hx
    have htk : xs.take (i + 1) = xs.take i ++ [x] := by rw [List.take_add_one, hx]; rfl
    refine ⟨hw x, ht x hm _ e1 _ fun H2 e2 => ?_⟩
    cases hf : f x with
    | true =>
      show te _ H2 _
      refine he x hm hf H2 (e1.trans e2) _ fun H3 e3 => ?_
      refine ⟨_, e3 _ _ (e2 _ _ d1), ?_, ?_, ?_⟩
      · have h1 : (((xs.take i).filter f).map v).length ≤ xs.length := by
          rw [List.length_map]
          exact Nat.le_trans (List.length_filter_le _ _) (by rw [List.length_take]; omega)
        exact Nat.lt_of_le_of_lt (Nat.le_trans h1 hz) (by decide)
      · intro b o e
        rw [upd_ne (ne_of_none e hD)]
        exact e3 _ _ (e2 _ _ (e1 _ _ e))
      · rw [htk, upd_same, List.filter_append, List.map_append, List.filter_cons, if_pos hf]
        rfl
    | false =>
      show Same H H2 ∧ _
      refine ⟨e1.trans e2, ?_⟩
      rw [htk, List.filter_append, List.filter_cons, if_neg (by rw [hf]; decide), List.map_append]
      show H2 D = some (.lst (_ ++ []))
      rw [List.append_nil]
      exact e2 _ _ d1
  · rintro H1 ⟨e1, d1⟩
    rw [List.take_length] at d1
    exact q D H1 hD e1 d1
/-- .. without a test -/
theorem lc_mapW {J : It} {G : Hp → Prop} {xs : List V} (W : Walk J xs.length G (YAt xs)) {j : Nat} {te : TE} {vs : List Nat} {σ : St} {H : Hp} {Q : VK}
    (hG : ∀ H1, Same H H1 → G H1) (hz : xs.length ≤ 1000000) (v : V → V)
    (hw : ∀ x, wipe ((wipe σ vs).set j (some x)) vs = wipe σ vs)
    (he : ∀ x, x ∈ xs → ∀ H1, Same H H1 → ∀ R : VK, (∀ H2, Same H1 H2 → R (v x) H2) → te ((wipe σ vs).set j (some x)) H1 R)
    (q : ∀ p H2, H p = none → Same H H2 → H2 p = some (.lst (xs.map v)) → Q (.ref p) H2) : LcLoop J (gName j) tYes te vs σ H Q := by
  refine lc_pureW W hG hz (fun _ => true) v hw (fun x _ H1 _ R h => h H1 (Same.refl _)) (fun x hx _ H1 e R h => he x hx H1 e R h) ?_
  intro p H2 hp e hl
  have ef : xs.filter (fun _ => true) = xs := List.filter_eq_self.mpr (fun _ _ => rfl)
  rw [ef] at hl
  exact q p H2 hp e hl

/-! ### loops over any walk -/
theorem loop_it {J : It} {n : Nat} {G : Hp → Prop} {Y : Nat → Hp → V → Hp → Prop} (W : Walk J n G Y) {g : TG} {tb : TS} {D : Ends} {σ : St} {H : Hp} (Pv : Nat → St → Hp → Prop) (h0 : Pv 0 σ H)
    (hG : ∀ i σ H, i ≤ n → Pv i σ H → G H)
    (hs : ∀ i x σ H H', i < n → Pv i σ H → Y i H x H' → g x σ H' fun σ2 H2 => Later tb { D with nx := Pv (i + 1), ct := Pv (i + 1), bk := D.nx } σ2 H2)
    (hd : ∀ σ H, Pv n σ H → D.nx σ H) : Loop J g tb D σ H := for_it W Pv h0 hG hs hd
theorem loop_tup {K : PySem.W.Frag} {a : Addr} {xs : List V} {g : TG} {tb : TS} {D : Ends} {σ : St} {H : Hp} (Pv : Nat → St → Hp → Prop) (h0 : Pv 0 σ H)
    (hl : ∀ i σ H, i ≤ xs.length → Pv i σ H → SqT K H a xs)
    (hs : ∀ (i : Nat) (x : V) (σ : St) (H : Hp), xs[i]? = some x → Pv i σ H → g x σ H fun σ2 H2 => Later tb { D with nx := Pv (i + 1), ct := Pv (i + 1), bk := D.nx } σ2 H2)
    (hd : ∀ σ H, Pv xs.length σ H → D.nx σ H) : Loop (Itt K a) g tb D σ H := for_tup (K := K) (a := a) (xs := xs) Pv h0 hl hs hd

/-! ### all(..), one sign in a text, ranges -/
def rAllM : List V → Hp → VK → Prop := fun vs H Q => ∃ (a : Addr) (bs : List Bool), vs = [V.ref a] ∧ H a = some (.lst (bs.map V.bl)) ∧ Q (.bl (bs.all id)) H
def rSgn : R2 := fun x y H Q => ∃ (c : Nat) (z : Str), x = sgn c ∧ y = .str z ∧ Q (.bl (decide (c ∈ z.cps.toList))) H
def rRng2 : List V → Hp → VK → Prop := fun vs H Q => ∃ i j, vs = [V.int i, V.int j] ∧ ∀ p, H p = none → Q (.ref p) (upd H p (.rng i j))
def rInRng : R2 := fun x y H Q => ∃ i a lo hi, x = V.int i ∧ y = V.ref a ∧ H a = some (.rng lo hi) ∧ Q (.bl (decide (lo ≤ i ∧ i < hi))) H
section
variable {X : Cx}
theorem op_eqK {K : PySem.W.Frag} (hK : X.K = K) (hu : X.A.units + 64 < cLine) : OpR X (compareOp .Eq) (rEqD K) := by
  subst hK
  exact op_eqD hu
theorem op_neK {K : PySem.W.Frag} (hK : X.K = K) (hu : X.A.units + 64 < cLine) : OpR X (compareOp .NotEq) (rNeD K) := by
  subst hK
  exact op_neD hu
theorem call_isiK' {K : PySem.W.Frag} (hK : X.K = K) : CallR X (.builtin "isinstance") (rIsi K) := by
  subst hK
  exact call_isi
theorem call_reprK {K : PySem.W.Frag} (hK : X.K = K) (gd : X.A.guards = some []) (hu : X.A.units + 64 < cLine) : CallR X (.builtin "repr") (rReprD K) := by
  subst hK
  exact call_reprD gd hu
theorem cr_allM (hc : X.calm = true) : CallR X (.builtin "all") rAllM := call_imp (cr_all hc) fun xs H Q ⟨a, bs, h1, h2, q⟩ => ⟨a, bs, h1, SqL.of h2, q⟩
theorem op_sgn : OpR X (compareOp .In) rSgn := op_imp op_in_sign fun x y H Q h => h
theorem cr_rng2 : CallR X (.type "range") rRng2 := cr_range2
theorem op_inRng : OpR X (compareOp .In) rInRng := op_in_rng
end
end LP

set_option Elab.async false
set_option linter.all false
set_option maxRecDepth 100000
set_option maxHeartbeats 4000000
/-! LPE: errors of own classes, over any built-in one, with an own __init__ that keeps one thing; as values, caught. -/
namespace LP
open PySem PySem.Spec L2
open PyProof.Rows hiding St

/-- what making such an error asks of the list of its bases -/
structure Tl (B : String) (bm : List Value) : Prop where
  has : bm.contains (.type B) = true
  noA : bm.contains (.type "AttributeError") = false
  noN : bm.contains (.type "NameError") = false

section
variable {prog : Program} {w : World} {A : Around} {E : Value → Shared → Prop} {R : Result → Shared → Prop} {hp : Heap}
  {gs : Array GenState} {dr : Drawn} {tk : Nat} {os : OsState} {nm qn : Str} {C N : Addr} {bs bm bmB : List Value} {hdt : Bool}
  {sn : List Str} {sub : List Value} {ab : Bool} {col : Option Bool} {dd : Option Addr} {k0 k1 k2 k3 k5 : Option Value}
  {B newId initId : String} {us : List Value}

theorem Tl.cons (T : Tl B bm) : Tl B (.ref C :: bm) := by
  obtain ⟨h1, h2, h3⟩ := T
  constructor
  · rw [List.contains_cons, h1, Bool.or_true]
  · rw [List.contains_cons, h2]
    rfl
  · rw [List.contains_cons, h3]
    rfl

/-- B.__new__ may be called with the class -/
theorem new_checked (F : ExcBaseFacts B newId initId bmB) (T : Tl B bm) {Q : Unit → Shared → Prop}
    (hC : hp.get? C = some (excClassObj nm qn C N bs bm hdt sn sub ab col dd k0 k1 k2 k3 k5 newId))
    (hq : Q () ⟨hp, gs, dr, tk, os⟩) :
    wpAny (model prog w) A (checkBuiltinCall newId ⟨.ref C :: us, []⟩) Q E ⟨hp, gs, dr, tk, os⟩ := by
  have c1 := (T.cons (C := C)).has
  have c2 := F.noStar
  simp only [checkBuiltinCall, F.newKind, F.newSplit, F.newRow]
  repeat (first
    | refine wpAny_loadPart_at hC ?_
    | (refine wpAny_isSubtype_exc hC ?_; rw [c1])
    | refine wpAny_staticBase_exc hC ?_
    | refine wpAny_madeBy_exc hC ?_
    | simp only [bne_self_eq_false, Bool.false_eq_true, if_false]
    | wp_step)
  exact hq

/-- .. and lays the error -/
theorem new_made (F : ExcBaseFacts B newId initId bmB) (T : Tl B bm)
    (hC : hp.get? C = some (excClassObj nm qn C N bs bm hdt sn sub ab col dd k0 k1 k2 k3 k5 newId)) (hl : us.length ≤ sizeLine)
    (hq : R (.ok (.ret (.ref (hp.objs.size + 1))))
      ⟨(hp.push (PySem.W.kdv_tup us)).push (PySem.HandSPX.excO C hp.objs.size), gs, dr, tk, os⟩) :
    codeAny (model prog w) A (.builtin newId ⟨.ref C :: us, []⟩) R ⟨hp, gs, dr, tk, os⟩ := by
  have c0 := F.ends
  have c1 := (T.cons (C := C)).has
  have c2 := (T.cons (C := C)).noA
  have c3 := (T.cons (C := C)).noN
  refine codeAny_builtinAt F.entry ?_
  unfold Builtin.«BaseException.__new__»
  refine PySem.wpAt_bind ?_
  show PySem.wpAt _ _ _ (stack >>= _) _ _ _
  refine PySem.wpAt_bind (PySem.wpAt_stack fun p below => PySem.wpAt_of_wpAny ?_)
  wp_walk
  refine PySem.wpAt_of_wpAny ?_
  rw [F.owner]
  repeat (first
    | with_reducible refine wpAny_madeHere_exc F.canon hC ?_
    | with_reducible refine wpAny_loadPart_at hC ?_
    | (with_reducible refine wpAny_isSubtype_exc hC ?_; first | rw [c1] | rw [c2] | rw [c3])
    | wp_step)
  show R _ _
  rw [Heap.size_push]
  exact hq

/-- type.__call__ of the class: the error is laid, then its own __init__ runs -/
theorem own_typed (F : ExcBaseFacts B newId initId bmB) (T : Tl B bm) {fI : Addr} {Q : Fin → Shared → Prop}
    (hC : hp.get? C = some (excClassObj nm qn C N bs bm hdt sn sub ab col dd k0 k1 k2 k3 k5 newId))
    (hi : PySem.W.Looks (model prog w) hp (typeLookup (.ref C) "__init__") (some (.ref fI)))
    (hb : ∀ self, PySem.W.Looks (model prog w) hp (bindSpecial (.ref fI) self) (.ref fI, [self])) (hl : us.length ≤ sizeLine)
    (hq : codeAny (model prog w) A (.call (.ref fI) ⟨.ref (hp.objs.size + 1) :: us, []⟩)
      (fun r s' => match r with
        | .ok (.ret v) => v = .none ∧ Q (.done (.ret (.ref (hp.objs.size + 1)))) s'
        | .ok _ => False
        | .error e => E e s')
      ⟨(hp.push (PySem.W.kdv_tup us)).push (PySem.HandSPX.excO C hp.objs.size), gs, dr, tk, os⟩) :
    wpAny (model prog w) A (Builtin.«type.__call__» ⟨.ref C :: us, []⟩) Q E ⟨hp, gs, dr, tk, os⟩ := by
  repeat (first
    | with_reducible refine wpAny_loadPart_at hC ?_
    | with_reducible refine wpAny_madeBy_exc hC ?_
    | wp_step)
  refine codeAny_call_builtin_code (Code.quiet_builtin _ F.quiet) (new_checked F T hC ?_)
  refine new_made F T hC hl ?_
  show wpAny _ _ _ _ _ _
  have kk : ∀ b o, hp.get? b = some o →
      ((hp.push (PySem.W.kdv_tup us)).push (PySem.HandSPX.excO C hp.objs.size)).get? b = some o :=
    fun b o e => Heap.get?_push_of_some _ (Heap.get?_push_of_some _ e)
  have e1 := kk _ _ hC
  have e2 : ((hp.push (PySem.W.kdv_tup us)).push (PySem.HandSPX.excO C hp.objs.size)).get? (hp.objs.size + 1) =
      some (PySem.HandSPX.excO C hp.objs.size) := by heap_get
  have e3 : (Value.ref C :: bm).contains (.ref C) = true := by simp
  have i1 := hi.keeps kk
  have b1 := (hb (.ref (hp.objs.size + 1))).keeps kk
  unfold isInstance
  repeat (first
    | with_reducible refine wpAny_loadPart_at e2 ?_
    | (with_reducible refine wpAny_isSubtype_exc e1 ?_; rw [e3])
    | wp_step)
  show wpAny _ _ (typeLookup (.ref C) _) _ _ _
  refine i1.at ?_
  refine wpAny_holding (wpAny_bind (b1.at ?_))
  refine wpAny_bind (wpAny_call (codeAny_mono hq fun r s' z => ?_))
  rcases r with e | (v | _ | _ | _)
  · exact z
  all_goals first | exact z.elim | skip
  obtain ⟨rfl, z⟩ := z
  first
    | exact wpAny_pure (wpAny_pure z)
    | (wp_walk; exact z)

/-- C(..) -/
theorem own_called (F : ExcBaseFacts B newId initId bmB) (T : Tl B bm) {fI : Addr}
    (hC : hp.get? C = some (excClassObj nm qn C N bs bm hdt sn sub ab col dd k0 k1 k2 k3 k5 newId))
    (hi : PySem.W.Looks (model prog w) hp (typeLookup (.ref C) "__init__") (some (.ref fI)))
    (hb : ∀ self, PySem.W.Looks (model prog w) hp (bindSpecial (.ref fI) self) (.ref fI, [self])) (hl : us.length ≤ sizeLine)
    (hq : codeAny (model prog w) (A.under (.builtin "type.__call__" ⟨.ref C :: us, []⟩))
      (.call (.ref fI) ⟨.ref (hp.objs.size + 1) :: us, []⟩) (PySem.W.InitBack (hp.objs.size + 1) R)
      ⟨(hp.push (PySem.W.kdv_tup us)).push (PySem.HandSPX.excO C hp.objs.size), gs, dr, tk, os⟩) :
    codeAny (model prog w) A (.call (.ref C) ⟨us, []⟩) R ⟨hp, gs, dr, tk, os⟩ := by
  have f1 := tc_lookup
  have f2 := tc_bind (.ref C)
  have hTy : (⟨hp, gs, dr, tk, os⟩ : Shared).TypeIs (.ref C) "type" := ⟨_, hC, rfl⟩
  refine codeAny_of_tree ?_
  show wpAny _ _ (callAny (.ref C) _) _ _ _
  repeat (any_goals (first
    | assumption
    | with_reducible refine wpAny_loadPart_at hC ?_
    | wp_step))
  refine ⟨rfl, ?_⟩
  refine codeAny_call_builtin_at (Code.quiet_builtin _ (by decide +kernel)) entry_typeCall (wpAny_check_type_call_sub hC ?_)
  refine own_typed F T hC hi hb hl (codeAny_mono hq fun r s' z => ?_)
  rcases r with e | (v | _ | _ | _) <;> exact z
end

theorem store_KE : StoreFacts "KeyError" [.type "KeyError", .type "LookupError", .type "Exception", .type "BaseException", .type "object"]
    "object.__setattr__" "object" where
  mro := by kernel_rfl
  slot := .of (owner := "object") (n := "__setattr__")
    (by rw [typeLookup_type, builtinLookup_eq_fast]; kernel_rfl) (by decide +kernel) (by decide +kernel) (by decide +kernel)
    (by first
      | exact .inl (by decide +kernel)
      | exact .inr (by decide +kernel)) (by rw [isSubtype_type]; kernel_rfl)
  entry := PySem.F.entry_object_sa
  kind := by decide +kernel
  split := by decide +kernel
  hasOwner := by decide +kernel
  args := fun x y z => by
    unfold argsOk
    kernel_rfl
  passes := fun me => by kernel_rfl

/-- an own class of errors whose __init__ keeps one thing under the name f -/
structure Oc (K : PySem.W.Frag) (C : Addr) (f : Str) : Prop where
  made : ∃ (B newId initId : String) (bmB bm : List Value) (nm q : Str) (N : Addr) (bs : List Value) (sn : List Str)
    (sub : List Value) (ab : Bool) (col : Option Bool) (dd : Option Addr) (k0 k1 k2 k3 k5 : Option Value),
    ExcBaseFacts B newId initId bmB ∧ Tl B bm ∧
    K.lookup C = some (excClassObj nm q C N bs bm true sn sub ab col dd k0 k1 k2 k3 k5 newId)
  sto : ∃ (B : String) (bmB : List Value), StoreFacts B bmB "object.__setattr__" "object" ∧ PySem.W.excOver K C bmB = true
  sa : PySem.W.findIn K (.ref C) "__setattr__" = some (some (.builtin "object.__setattr__"))
  exC : PySem.W.subIn K (.ref C) (.type "BaseException") = some true
  tyC : PySem.W.typeIn K (.ref C) = some (.type "type")
  kC : PySem.W.keepIn K (.ref C) = true
  hdC : PySem.W.hasDictIn K C = true
  no : PySem.W.findIn K (.ref C) f = some none

section
variable {X : Cx} {pins : List (Addr × Obj)} {σ : St} {H : Hp} {s : Shared} {a C dx : Addr} {f : Str} {y : V} {u : Value}
  {Q : Unit → Shared → Prop} {E : Value → Shared → Prop} {A : Around}
open PySem.Builtin PySem.Builtin.ObjectAttr in
/-- self.f = y: the error's dict is laid -/
theorem ost1 (T : Oc X.K C f) (I : Inv X pins σ H s) (e : H a = some (exo a C none)) (ry : RelV y u)
    (h : ∀ dx s', H dx = none → dx ≠ a → Inv X pins σ (upd (upd H dx (exd dx [(f, y)])) a (exo a C (some dx))) s' → Q () s') :
    wpAny (model X.prog X.w) A (setAttr (.ref a) f u) Q E s := by
  obtain ⟨t1, ho⟩ := exo_at I.hok e
  obtain ⟨B, bmB, SF, ov⟩ := T.sto
  have tk0 : PySem.W.takerIn X.K C f = some none := by
    unfold PySem.W.takerIn
    rw [T.no]
    rfl
  obtain ⟨cd, hc, hd'⟩ := PySem.W.any_some T.hdC
  obtain ⟨hp, g, d, t, os⟩ := s
  have KX : X.K.In hp := I.kIn
  refine PySem.W.set_plain KX (od := none) ⟨ho, rfl, rfl, trivial⟩ T.sa
    (PySem.W.osa_openX (od := none) SF KX ⟨ho, rfl, rfl, trivial⟩ ov tk0 fun b => ?_)
  have lt : a < hp.objs.size := Heap.lt_size ho
  refine wpAny_bind (wpAny_pure (wpAny_bind (PySem.W.instanceDict_exc (c2 := .none) ho (PySem.W.looks_clsIn KX hc) hd' ?_)))
  show wpAny _ _ (storeInDict hp.objs.size (.str f _) f u) _ _ _
  have n0 : ((hp.push (PySem.W.dictOf [] 0)).update a fun o => { o with dict := some hp.objs.size }).Ns hp.objs.size (fun _ => none) := by
    refine ⟨_, #[], _, (Heap.get?_update_ne _ _ _ _ (Nat.ne_of_gt lt)).trans (Heap.get?_push_at rfl rfl), rfl, ?_, fun _ => rfl⟩
    intro e he
    exact absurd he (by simp)
  refine PySem.HandSPX.store_in_new n0 fun h' tk' hn' hs => ?_
  have hxa : ((hp.push (PySem.W.dictOf [] 0)).update a fun o => { o with dict := some hp.objs.size }).get? a =
      some ({ cls := .ref C, dict := some hp.objs.size, data := .fields #[.ref t1, .none, .none, .none, .bool false, .none] } : Obj) :=
    Heap.get?_update_self _ (Heap.get?_push_of_some _ ho) rfl
  have hx : h'.get? a = some ({ cls := .ref C, dict := some hp.objs.size, data := .fields #[.ref t1, .none, .none, .none, .bool false, .none] } : Obj) :=
    (hs.2 a (Nat.ne_of_lt lt)).trans hxa
  have kk : ∀ b o, b ≠ a → hp.get? b = some o → h'.get? b = some o := fun b o hb q =>
    (hs.2 b (Nat.ne_of_lt (Heap.lt_size q))).trans ((Heap.get?_update_ne _ _ _ _ hb).trans (Heap.get?_push_of_some _ q))
  have hnd : H hp.objs.size = none := I.hok.fresh (Nat.le_refl _)
  have nd : ∀ {b : Addr} {o : Obj}, hp.get? b = some o → b ≠ hp.objs.size := fun q => Nat.ne_of_lt (Heap.lt_size q)
  have na : ∀ {b : Addr}, H b = none → b ≠ a := by
    intro b n z
    rw [z, e] at n
    cases n
  have U : Un X.fs [] H (upd (upd H hp.objs.size (exd hp.objs.size [(f, y)])) a (exo a C (some hp.objs.size))) hp h' := by
    constructor
    · intro b o q n _ _
      exact kk b o (na n) q
    · intro b o q n _ _
      exact ⟨o.slots, kk b o (na n) q⟩
    · intro b o q n _
      rw [upd_ne (na n), upd_ne (nd q)]
      exact n
    · intro b o q _
      by_cases hb : b = a
      · rw [hb]
        exact ⟨_, hx⟩
      · exact ⟨o, kk b o hb q⟩
    · intro b xs q
      rw [upd_ne (at_ne e q exo_tup), upd_ne (ne_of_none q hnd)]
      exact q
    · intro b o v q
      rw [upd_ne (at_ne e q exo_frz), upd_ne (ne_of_none q hnd)]
      exact q
    · intro b ps q
      refine ⟨#[], ?_⟩
      rw [upd_ne (at_ne e q exo_tbl), upd_ne (ne_of_none q hnd), q]
      simp
  refine h hp.objs.size _ hnd (Nat.ne_of_gt lt) (I.un (t' := tk') U ?_)
  intro b o q
  by_cases hb : b = a
  · subst hb
    rw [upd_same] at q
    cases q
    exact exo_ok hx
  rw [upd_ne hb] at q
  by_cases hd : b = hp.objs.size
  · subst hd
    rw [upd_same] at q
    cases q
    exact exd_ok hn' (relO_put (fs := []) ry fun g => True.intro)
  rw [upd_ne hd] at q
  refine (I.hok b o q).stay ?_ ?_ ?_
  · intro c v hc z
    refine kk c v ?_ z
    rcases hc with hc | hc
    · rw [hc]
      exact hb
    · exact at_ne e hc exo_own
  · intro c hc
    rw [upd_ne (at_ne e hc exo_own), upd_ne (ne_of_none hc hnd)]
    exact hc
  · intro c xs hc
    rw [upd_ne (at_ne e hc exo_tup), upd_ne (ne_of_none hc hnd)]
    exact hc
end

/-- self.f = e, of an error that is being made -/
def tOs1 (K : PySem.W.Frag) (f : Str) (to te : TE) : TS := fun D σ H => te σ H fun y H1 => to σ H1 fun x H2 =>
  ∃ a C : Addr, x = .ref a ∧ Oc K C f ∧ H2 a = some (exo a C none) ∧
    ∀ dx, H2 dx = none → dx ≠ a → D.nx σ (upd (upd H2 dx (exd dx [(f, y)])) a (exo a C (some dx)))
/-- what such an __init__ promises -/
def spIni (K : PySem.W.Frag) (C : Addr) (f : Str) : Sp := fun vs H Q _ => ∃ a y, vs = [.ref a, y] ∧ Oc K C f ∧ H a = some (exo a C none) ∧
  ∀ dx, H dx = none → dx ≠ a → Q .non (upd (upd H dx (exd dx [(f, y)])) a (exo a C (some dx)))
section
variable {X : Cx} {o e : Expr} {es : List Expr} {to te : TE} {ta : TA} {f x : Str} {p p' p1 p2 pos : Pos}
theorem ps_os1 (ho : PE X o to) (he : PE X e te) (hs : swapsWith e (some (.Attribute o f p')) pos.line X.env = pure false := by rfl) :
    PS X (.Assign [.Attribute o f p'] e pos) (tOs1 X.K f to te) := by
  constructor
  intro pins s σ H D I h
  refine plainObj_wpAny_Assign_Attribute (thn (he.run pins s σ H _ I h) ?_) hs
  rintro v s1 ⟨y, H1, I1, r1, q1⟩
  refine thn (ho.run pins s1 σ H1 _ I1 q1) ?_
  rintro u s2 ⟨x, H2, I2, r2, a, C, ex, T, ea, q⟩
  subst ex
  obtain rfl : u = Value.ref a := r2
  exact ost1 T I2 ea r1 fun dx s' n ne J => ⟨σ, _, J, q dx n ne⟩

/-- C(e) as a value -/
def tMkV (C : Addr) (f : Str) (ta : TA) : TE := fun σ H Q => ta σ H fun vs H1 => ∃ y, vs = [y] ∧
  ∀ a dx, H1 a = none → H1 dx = none → dx ≠ a → Q (.ref a) (upd (upd H1 dx (exd dx [(f, y)])) a (exo a C (some dx)))
/-- C(e), to be raised -/
def tMkR (C : Addr) (f : Str) (ta : TA) : St → Hp → XK → Prop := fun σ H Q => ta σ H fun vs H1 => ∃ y, vs = [y] ∧
  ∀ d, H1 d = none → Q (.ref C) (some d) (upd H1 d (.xd [(f, y)]))

theorem upd_shade {H : Hp} {a b : Addr} {o o1 o2 : HO} (h : b ≠ a) : upd (upd (upd H a o) b o1) a o2 = upd (upd H b o1) a o2 := by
  funext c
  by_cases h1 : c = a
  · rw [h1, upd_same, upd_same]
  rw [upd_ne h1, upd_ne h1]
  by_cases h2 : c = b
  · rw [h2, upd_same, upd_same]
  rw [upd_ne h2, upd_ne h2, upd_ne h1]
theorem del_shade {H : Hp} {a b : Addr} {o o1 o2 : HO} (hn : H a = none) (h : b ≠ a) :
    upd (del (upd (upd H b o1) a o) a) b o2 = upd H b o2 := by
  funext c
  by_cases h2 : c = b
  · rw [h2, upd_same, upd_same]
  rw [upd_ne h2, upd_ne h2]
  by_cases h1 : c = a
  · rw [h1, del_same, hn]
  rw [del_ne h1, upd_ne h1, upd_ne h2]

section
variable {k : Nat} {C fI : Addr} {fd : FuncData} {ps : List Str}
/-- C(e): __init__ has run on the new error -/
theorem own_made {pins : List (Addr × Obj)} {σ : St} {H1 : Hp} {s1 : Shared} {us : List Value} {y : V} {Q : Value → Shared → Prop}
    (T : Oc X.K C f) (iC : PySem.W.findIn X.K (.ref C) "__init__" = some (some (.ref fI)))
    (tI : PySem.W.typeIn X.K (.ref fI) = some (.type "function"))
    (F1 : FnOk X.prog X.w X.K X.mg X.base CX0 k fI fd ps (spIni X.K C f)) (hr : Room (k + 1) X.A) (hb : Binds X.K fd ps [])
    (I1 : Inv X pins σ H1 s1) (r1 : Vals [y] us)
    (h : ∀ (a dx : Addr) (hp2 : Heap) (s' : Shared), H1 a = none → H1 dx = none → dx ≠ a → s1.heap.objs.size ≤ a →
      (∀ b o, s1.heap.get? b = some o → hp2.get? b = some o) →
      Un (frs X.stack) [] (upd H1 a (exo a C none)) (upd (upd H1 dx (exd dx [(f, y)])) a (exo a C (some dx))) hp2 s'.heap →
      HOk X.prog X.w (upd (upd H1 dx (exd dx [(f, y)])) a (exo a C (some dx))) s'.heap → s'.os = s1.os → AllBare s'.gens →
      Inv X pins σ (upd H1 a (exo a C none)) { s1 with heap := hp2 } →
      CE X.stack X.prog X.w (upd H1 a (exo a C none)) { s1 with heap := hp2 }
        (fun v H' => v = .non ∧ H' = upd (upd H1 dx (exd dx [(f, y)])) a (exo a C (some dx))) .none s' → Q (.ref a) s') :
    wpAny (model X.prog X.w) X.A (call (.ref C) us) Q X.xe s1 := by
  obtain ⟨B, newId, initId, bmB, bm, nm, q, N, bs, sn, sub, ab, col, dd, k0, k1, k2, k3, k5, F, TL, hC⟩ := T.made
  obtain ⟨hp, g, dr, tk, os⟩ := s1
  have hsz : hp.objs.size ≤ hp.objs.size + 1 := Nat.le_succ _
  have hn : H1 (hp.objs.size + 1) = none := I1.hok.fresh hsz
  have kk : ∀ b o, hp.get? b = some o →
      ((hp.push (PySem.W.kdv_tup us)).push (PySem.HandSPX.excO C hp.objs.size)).get? b = some o :=
    fun b o e => Heap.get?_push_of_some _ (Heap.get?_push_of_some _ e)
  have hget : ((hp.push (PySem.W.kdv_tup us)).push (PySem.HandSPX.excO C hp.objs.size)).get? (hp.objs.size + 1) =
      some (PySem.HandSPX.excO C hp.objs.size) := by heap_get
  have I2 : Inv X pins σ (upd H1 (hp.objs.size + 1) (exo (hp.objs.size + 1) C none))
      ⟨(hp.push (PySem.W.kdv_tup us)).push (PySem.HandSPX.excO C hp.objs.size), g, dr, tk, os⟩ :=
    I1.laid (t' := tk) (a := hp.objs.size + 1) (o := exo (hp.objs.size + 1) C none) kk hsz (exo_ok hget)
  have r2 : Vals (V.ref (hp.objs.size + 1) :: [y]) (Value.ref (hp.objs.size + 1) :: us) := .cons rfl r1
  have hl1 : us.length = 1 := r1.length.symm
  have hus : us.length ≤ sizeLine := by
    rw [hl1, sizeLine_eq]
    omega
  have bd := hb ⟨(hp.push (PySem.W.kdv_tup us)).push (PySem.HandSPX.excO C hp.objs.size), g, dr, tk, os⟩
    (Value.ref (hp.objs.size + 1) :: us) I2.kIn
  refine wpAny_call (own_called F TL (I1.kIn _ _ hC) (PySem.W.looks_findIn I1.kIn iC)
    (fun self => PySem.W.bind_fn I1.kIn self tI) hus ?_)
  have sp0 : spIni X.K C f [.ref (hp.objs.size + 1), y] (upd H1 (hp.objs.size + 1) (exo (hp.objs.size + 1) C none))
      (fun v H' => ∃ dx, v = .non ∧ H1 dx = none ∧ dx ≠ hp.objs.size + 1 ∧
        H' = upd (upd H1 dx (exd dx [(f, y)])) (hp.objs.size + 1) (exo (hp.objs.size + 1) C (some dx))) E0 := by
    refine ⟨_, y, rfl, T, upd_same, ?_⟩
    intro dx n ne
    rw [upd_ne ne] at n
    exact ⟨dx, rfl, n, ne, upd_shade ne⟩
  have hl : (Value.ref (hp.objs.size + 1) :: us ++ []).length = ps.length := by
    rw [List.append_nil]
    exact r2.length.symm.trans (F1.len _ _ _ _ sp0)
  have bd' := bd hl
  rw [List.append_nil] at bd'
  refine codeAny_mono (F1.run _ X.stack _ _ ⟨Value.ref (hp.objs.size + 1) :: us, []⟩ (Value.ref (hp.objs.size + 1) :: us) _ _
    E0 (hr.make C us []) (I2.env0.make C us []) bd' r2 sp0) ?_
  intro r s' hq'
  cases r with
  | error er => exact hq'.elim
  | ok fl =>
    cases fl with
    | ret u =>
      obtain ⟨v, H2, os2, bare2, un2, hok2, rv, dx, ev, nx, ne, eH⟩ := hq'
      subst ev
      subst eH
      obtain rfl : u = Value.none := rv
      refine ⟨rfl, h _ dx _ s' hn nx ne hsz kk un2 hok2 os2 bare2 I2 ⟨.non, _, os2, bare2, un2, hok2, rfl, rfl, rfl⟩⟩
    | next => exact hq'.elim
    | brk => exact hq'.elim
    | cont => exact hq'.elim

theorem pe_mkv (T : Oc X.K C f) (iC : PySem.W.findIn X.K (.ref C) "__init__" = some (some (.ref fI)))
    (tI : PySem.W.typeIn X.K (.ref fI) = some (.type "function"))
    (F1 : FnOk X.prog X.w X.K X.mg X.base CX0 k fI fd ps (spIni X.K C f)) (hr : Room (k + 1) X.A) (hb : Binds X.K fd ps [])
    (hg : Gl X x) (hm : X.mg x = some (.ref C)) (ha : PA X [e] ta)
    (hdb : (x == ("__debug__" : Str)) = false := by decide)
    (he : starEach [e] X.env = (false, eval e X.env) :: starEach [] X.env := by rfl)
    (hpl : (backTo pos (starEach [] X.env)).any (·.1) = false := by rfl) :
    PE X (.Call (.Name x p) [e] [] pos) (tMkV C f ta) := by
  constructor
  intro pins s σ H Q I h
  refine wpAny_Call_Name_kw (ld_glob I hg hm ?_ hdb)
  refine PySem.W.callWith_K (h₀ := X.base) I.ok.mod.kin T.kC (thn (ha.run pos pins s σ H _ I h) ?_) he hpl
  rintro us s1 ⟨vs, H1, I1, r1, y, rfl, q1⟩
  refine ⟨I1.kIn, ?_⟩
  show wpAny _ _ (call (.ref C) us) _ _ _
  refine own_made T iC tI F1 hr hb I1 r1 ?_
  intro a dx hp2 s' na nd ne _ _ _ _ _ _ I2 ce
  obtain ⟨v, H', J, rv, ev, eH⟩ := I2.after ce
  subst eH
  exact ⟨.ref a, _, J, rfl, q1 a dx na nd ne⟩

theorem pmk_mkr (T : Oc X.K C f) (iC : PySem.W.findIn X.K (.ref C) "__init__" = some (some (.ref fI)))
    (tI : PySem.W.typeIn X.K (.ref fI) = some (.type "function"))
    (F1 : FnOk X.prog X.w X.K X.mg X.base CX0 k fI fd ps (spIni X.K C f)) (hr : Room (k + 1) X.A) (hb : Binds X.K fd ps [])
    (hg : Gl X x) (hm : X.mg x = some (.ref C)) (ha : PA X [e] ta)
    (hdb : (x == ("__debug__" : Str)) = false := by decide)
    (he : starEach [e] X.env = (false, eval e X.env) :: starEach [] X.env := by rfl)
    (hpl : (backTo pos (starEach [] X.env)).any (·.1) = false := by rfl) :
    PMk X (.Call (.Name x p) [e] [] pos) (tMkR C f ta) := by
  intro pins s σ H Q I h
  refine wpAny_Call_Name_kw (ld_glob I hg hm ?_ hdb)
  refine PySem.W.callWith_K (h₀ := X.base) I.ok.mod.kin T.kC (thn (ha.run pos pins s σ H _ I h) ?_) he hpl
  rintro us s1 ⟨vs, H1, I1, r1, y, rfl, q1⟩
  refine ⟨I1.kIn, ?_⟩
  show wpAny _ _ (call (.ref C) us) _ _ _
  refine own_made T iC tI F1 hr hb I1 r1 ?_
  intro a dx hp2 s' na nd ne hsz kk un hok eo ba I2 ce
  obtain ⟨hp1, g1, d1, t1, os1⟩ := s1
  obtain ⟨h2, g2, d2, t2, os2⟩ := s'
  refine mk_end (fs := [(f, y)]) (raises_own T.exC T.tyC) I1 hsz kk un hok eo ba upd_same ?_ nd ?_
  · rw [upd_ne ne, upd_same]
  · rw [del_shade na ne]
    exact q1 dx nd
end
end
end LP

set_option Elab.async false
set_option linter.all false
set_option maxRecDepth 100000
set_option maxHeartbeats 4000000
/-! LPY: errors of own classes as values: isinstance, what they keep; try with several clauses, named or not. -/
namespace LP
open PySem PySem.Spec L2
open PyProof.Rows hiding St

/-! ### isinstance of an error -/
/-- at a stands an error of the class C: tracked, or pinned -/
def XAt (pn : List (Addr × Obj)) (H : Hp) (a C : Addr) : Prop :=
  (H a = some (exo a C none)) ∨ (∃ dd fs, H a = some (exo a C (some dd)) ∧ H dd = some (exd dd fs)) ∨
    ∃ oe, (a, oe) ∈ pn ∧ Zc (.ref C) none oe ∧ ∃ vs, oe.data = .fields vs
def rIsX (K : PySem.W.Frag) (pn : List (Addr × Obj)) : List V → Hp → VK → Prop := fun xs H Q =>
  ∃ (a C : Addr) (c : V) (cv : Value) (b : Bool), xs = [.ref a, c] ∧ ClsV c cv ∧ ExcC K C ∧ XAt pn H a C ∧
    PySem.W.kitOne K (.ref C) cv = some b ∧ Q (.bl b) H

section
variable {X : Cx} {pins : List (Addr × Obj)} {σ : St} {H : Hp} {s : Shared} {a C : Addr}
theorem XAt.inst (I : Inv X pins σ H s) (h : XAt X.pn H a C) : ∃ ox od, PySem.W.InstAt s.heap a ox C od := by
  rcases h with h | ⟨dd, fs, h, hd⟩ | ⟨oe, hm, hz, vs, hv⟩
  · obtain ⟨t1, ho⟩ := exo_at I.hok h
    exact ⟨_, none, ho, rfl, rfl, trivial⟩
  · obtain ⟨t1, ho⟩ := exo_at I.hok h
    obtain ⟨mA, ⟨o, es, ep, e, _⟩, _⟩ := exd_at I.hok hd
    exact ⟨_, some o, ho, rfl, rfl, e⟩
  · obtain ⟨hg, _⟩ := I.pin (a, oe) (List.mem_append_left _ hm)
    obtain ⟨oc, od, oda, osl⟩ := oe
    obtain ⟨h1, h2⟩ := hz
    dsimp only at h1 h2 hv
    subst h1 h2 hv
    exact ⟨_, none, hg, rfl, rfl, trivial⟩

theorem call_isX : CallR X (.builtin "isinstance") (rIsX X.K X.pn) := by
  intro pins s σ H xs us Q I r h
  obtain ⟨a, C, c, cv, b, rfl, k, T, hx, e, q⟩ := h
  obtain ⟨u1, u2, rfl, r1, r2⟩ := vals2 r
  obtain rfl := k.eq r2
  cases (show u1 = Value.ref a from r1)
  obtain ⟨ox, od, J⟩ := hx.inst I
  obtain ⟨cd, hc, _⟩ := PySem.W.any_some T.hd
  have hcl : (PySem.W.clsIn X.K C).isSome = true := by
    rw [hc]
    rfl
  refine PySem.W.kia_one (PySem.W.kitx_exc hcl T.hg T.hk T.hs T.ha T.hn T.ht T.hm) I.kIn J e (fun z => nomatch z) ?_
  intro tk
  exact ⟨.bl b, H, I.tok tk, rfl, q⟩

/-! ### what a tracked error keeps -/
def tXv (K : PySem.W.Frag) (n : Str) (te : TE) : TE := fun σ H Q => te σ H fun x H1 => ∃ (a C d : Addr) (fs : List (Str × V)) (v : V),
  x = .ref a ∧ XfC K C ∧ PySem.W.findIn K (.ref C) n = some none ∧ H1 a = some (exo a C (some d)) ∧ H1 d = some (exd d fs) ∧
    fs.lookup n = some v ∧ Q v H1
theorem pe_xv {e : Expr} {te : TE} {pos : Pos} {n : Str} (he : PE X e te)
    (hb : attributeBase e n X.env (eval e X.env) = eval e X.env := by rfl) :
    PE X (.Attribute e n pos) (tXv X.K n te) := by
  constructor
  intro pins s σ H Q I h
  refine attr_of hb (thn (he.run pins s σ H _ I h) ?_)
  rintro u s1 ⟨x, H1, I1, rx, a, C, d, fs, v, ex, T, hno, ha, hd, l, q⟩
  subst ex
  obtain rfl : u = Value.ref a := rx
  obtain ⟨t1, ho⟩ := exo_at I1.hok ha
  obtain ⟨mA, hn1, rel⟩ := exd_at I1.hok hd
  obtain ⟨od, hod, hl⟩ := lookIn_ns hn1
  obtain ⟨u, hu, ru⟩ := RelO.some_of (v := v) (o := mA n) (by rw [← l]; exact rel n)
  have J : PySem.W.InstAt s1.heap a _ C (some od) := ⟨ho, rfl, rfl, hod⟩
  have fo := PySem.W.findObj_own T.hdC hno rfl (od := od) (v := u) (by rw [hl, hu])
  exact HandSPX.exc_get I1.kIn J T.ga T.gg T.exC fo (handed_of ru) ⟨v, H1, I1.tok _, ru, q⟩

/-! ### an error without own __init__, as a value -/
theorem pe_mk0 {bmB : List Value} {B newId initId : String} {x : Str} {e : Expr} {ta : TE} {p pos : Pos}
    (F : ExcBaseFacts B newId initId bmB) (q : PySem.W.excIn X.K C bmB newId = true) (gC : X.mg x = some (.ref C))
    (kC : PySem.W.keepIn X.K (.ref C) = true) (hg : Gl X x) (he : PE X e ta)
    (hs : starEach [e] X.env = (false, eval e X.env) :: starEach [] X.env := by rfl)
    (hdb : (x == ("__debug__" : Str)) = false := by decide) :
    PE X (.Call (.Name x p) [e] [] pos)
      (fun σ H Q => ta σ H fun _ H1 => ∀ a, H1 a = none → Q (.ref a) (upd H1 a (exo a C none))) := by
  constructor
  intro pins s σ H Q I h
  refine wpAny_Call_Name_kw (ld_glob I hg gC ?_ hdb)
  refine PySem.W.callWith_K (h₀ := X.base) I.ok.mod.kin kC ?_ hs (by rfl)
  rw [hs]
  show wpAny _ _ (spliced ((false, eval e X.env) :: backTo pos (starEach [] X.env))) _ _ s
  refine Calls.spliced_cons (thn (he.run pins s σ H _ I h) ?_)
  rintro u s1 ⟨v, H1, I1, r1, q1⟩
  refine Calls.spliced_nil ⟨I1.kIn, ?_⟩
  show wpAny _ _ (call (.ref C) [u]) _ _ _
  obtain ⟨bm, N, nm, qn, bs, hdct, sn, sub, ab, col, dd, k0, k1, k2, k3, k5, mN, hC, hN, hni, T⟩ := exc_obj I1.kIn q
  refine wpAny_call_exc_subT F T hC hN hni ?_ (by show 1 ≤ sizeLine; rw [sizeLine_eq]; omega)
  intro h' a hm
  have hn : H1 a = none := I1.hok.gone hm.new
  obtain ⟨t, ht, _, _⟩ := hm.there
  exact ⟨.ref a, _, I1.laidN hm.keeps hm.new hn (exo_ok ht), rfl, q1 a hn⟩
end

/-! ### try with several clauses, each with a name or without -/
abbrev Ts3 := Addr → Value → Option Addr → TS
/-- the ends of a suite behind which slot i is empty -/
def Ends.off (D : Ends) (i : Nat) : Ends :=
  { nx := fun σ H => D.nx (σ.set i none) H, rt := D.rt, bk := fun σ H => D.bk (σ.set i none) H, ct := fun σ H => D.ct (σ.set i none) H }
def wCl (K : PySem.W.Frag) (Wout : WX) (D : Ends) : List (Value × Option Nat × Ts3) → WX
  | [] => Wout
  | (c, none, ts) :: r => fun cls d σ H => ∃ b, PySem.W.exmOne K cls c = some b ∧
      (b = true → ∀ a, H a = none → ts a cls d D σ H) ∧ (b = false → wCl K Wout D r cls d σ H)
  | (c, some i, ts) :: r => fun cls d σ H => ∃ b, PySem.W.exmOne K cls c = some b ∧
      (b = true → ∀ a, H a = none → ts a cls d (Ends.off D i) (σ.set i (some (.ref a))) H) ∧ (b = false → wCl K Wout D r cls d σ H)
/-- a suite, whatever error it is that is caught -/
def Suit (X : Cx) (ss : List Stmt) (ts : Ts3) : Prop := ∀ (a : Addr) (oe : Obj) (cls : Value) (d : Option Addr) (pn : List (Addr × Obj)),
  Zc cls d oe → (∃ vs, oe.data = .fields vs) → PSs (X.suite a ((a, oe) :: pn)) ss (ts a cls d)
inductive Cls3 (X : Cx) : List ExceptHandler → List (Value × Option Nat × Ts3) → Prop
  | nil : Cls3 X [] []
  | bare {x : Str} {c : Value} {ts : Ts3} {b₀ : Stmt} {suite : List Stmt} {np pos : Pos} {hds : List ExceptHandler}
      {l : List (Value × Option Nat × Ts3)} (hc : Names X x c) (hsu : Suit X (b₀ :: suite) ts) (r : Cls3 X hds l) :
      Cls3 X (.ExceptHandler (some (.Name x np)) none (b₀ :: suite) pos :: hds) ((c, none, ts) :: l)
  | named {x n : Str} {i : Nat} {c : Value} {ts : Ts3} {b₀ : Stmt} {suite : List Stmt} {np pos : Pos} {hds : List ExceptHandler}
      {l : List (Value × Option Nat × Ts3)} (hN : X.N.Nodup) (hi : X.N[i]? = some n) (hln : X.env.kindOf n = some .local)
      (hc : Names X x c) (hsu : Suit X (b₀ :: suite) ts) (r : Cls3 X hds l) :
      Cls3 X (.ExceptHandler (some (.Name x np)) (some n) (b₀ :: suite) pos :: hds) ((c, some i, ts) :: l)

section
variable {X : Cx} {body : List Stmt} {h₀ : ExceptHandler} {hds : List ExceptHandler} {l : List (Value × Option Nat × Ts3)} {pos : Pos}
  {tb : WX → TS} {Wout : WX}
theorem ps_try3 (hs : X.stack = X.env :: X.outer) (hf : X.env.frame = some X.env.locals) (tk : Takes X Wout)
    (hb : ∀ (W : WX) (pn : List (Addr × Obj)) (xe : Value → Shared → Prop), Takes (X.tr pn xe) W →
      PassesOwn (model X.prog X.w) X.A X.env xe → PSs (X.tr pn xe) body (tb W))
    (hh : Cls3 X (h₀ :: hds) l) :
    PS X (.Try body (h₀ :: hds) [] [] pos) (fun D σ H => tb (wCl X.K Wout D l) D σ H) := by
  constructor
  intro pins s σ H D I h
  have ok := I.ok
  have hfr : X.A.frames = some (X.env :: X.outer) := by
    rw [ok.frames, hs]
  refine wpAny_Try_except ?_
  have run := hb (wCl X.K Wout D l) (X.pn ++ pins)
    (fun e s₁ => wpAny (model X.prog X.w) X.A (noteFrame e X.env) (fun _ s₂ => wpAny (model X.prog X.w) X.A (setFlight e none)
      (fun _ s₃ => wpAny (model X.prog X.w) X.A (handleBy e X.env (h₀ :: hds)) (SP X pins D) X.xe s₃) X.xe s₂) X.xe s₁)
    ?_ PassesOwn.looking
  refine wpAny_mono (run.run [] s σ H D (I.toTry _) h) ?_ (fun _ _ z => z)
  · intro fl s1 hsp
    cases fl with
    | next =>
      obtain ⟨σ', H', J', q⟩ := hsp
      exact wpAny_execs_nil ⟨σ', H', J'.ofTry ok, q⟩
    | brk =>
      obtain ⟨σ', H', J', q⟩ := hsp
      exact ⟨σ', H', J'.ofTry ok, q⟩
    | cont =>
      obtain ⟨σ', H', J', q⟩ := hsp
      exact ⟨σ', H', J'.ofTry ok, q⟩
    | ret u =>
      obtain ⟨v, σ', H', J', r, q⟩ := hsp
      exact ⟨v, σ', H', J'.ofTry ok, r, q⟩
  rintro u s' ⟨a, B, sI, pins', σ', H', cls, d, rfl, J', nb, up, sky, na, os, ag, w0⟩
  have J : Inv X pins σ' H' sI := J'.ofTry ok
  have sky' : Sky B (X.env :: X.outer) a (Zc cls d) X.env.locals s'.heap := by
    rw [← hs]
    exact sky
  show wpAny (model X.prog X.w) X.A (noteFrame (.ref a) X.env) _ _ _
  refine Sky.land Zc.steady hfr hf sky' ?_
  intro h3 fl3 up3
  have J3 : Inv X pins σ' H' { s' with heap := h3 } := J.landed nb fl3.1 (up.trans up3) os ag
  obtain ⟨oe3, vs3, he3, hz3, hd3⟩ := fl3.there
  have nfr : a ∉ frs (X.env :: X.outer) := by
    intro hm
    obtain ⟨_, o', e', hnf⟩ := fl3.2.2.1.mem hm
    rw [he3] at e'
    cases e'
    exact hnf _ hd3
  have nL : a ≠ X.env.locals := by
    intro z
    exact nfr (List.mem_filterMap.mpr ⟨X.env, List.mem_cons_self, by rw [hf, z]⟩)
  have nF : a ∉ X.fs := by
    intro hm
    obtain ⟨e, he, q⟩ := List.mem_filterMap.mp hm
    exact nfr (List.mem_filterMap.mpr ⟨e, List.mem_cons_of_mem _ he, q⟩)
  have S3 := J3.suite he3 hd3 na nL nF
  have LT : PySem.W.Looks (model X.prog X.w) h3 (typeOf (.ref a)) cls := by
    intro A Q E s k q
    exact wpAny_typeOf_ref (k _ _ he3) (by rw [hz3.1]; exact q)
  have test : ∀ {x : Str} {np : Pos} {c : Value} {Q : Value → Shared → Prop} {E : Value → Shared → Prop}, Names X x c →
      Q c { s' with heap := h3 } →
      wpAny (model X.prog X.w) (X.A.mark (some (.ref a))) (eval (.Name x np) X.env) Q E { s' with heap := h3 } := by
    intro x np c Q E hc q
    obtain ⟨hg, hdbg, hm | ⟨hm, hv, hnn⟩⟩ := hc
    · exact ld_glob (X := X.suite a ((a, oe3) :: (X.pn ++ pins))) S3 hg hm q hdbg
    · exact ld_blt (X := X.suite a ((a, oe3) :: (X.pn ++ pins))) S3 hg hm hv q hnn hdbg
  have go : ∀ {hds' : List ExceptHandler} {l' : List (Value × Option Nat × Ts3)}, Cls3 X hds' l' → wCl X.K Wout D l' cls d σ' H' →
      wpAny (model X.prog X.w) X.A (handleBy (.ref a) X.env hds') (SP X pins D) X.xe { s' with heap := h3 } := by
    intro hds' l' hk
    induction hk with
    | nil =>
      intro w
      refine wpAny_handleBy_nil ?_
      obtain ⟨k1, k2, k3, oe, vs, T, oT, ts', he, hz, hd, h1, hr⟩ := id fl3
      unfold PySem.passOn
      refine wpAny_bind (wpAny_field he hd h1 ?_)
      rw [if_neg (show ¬ ((Value.ref T == Value.none) = true) by simp)]
      have fin : wpAny (model X.prog X.w) X.A (setFlight (.ref a) X.env.frame)
          (fun _ s4 => wpAny (model X.prog X.w) X.A (throw (.ref a) : Sem Flow) (SP X pins D) X.xe s4) X.xe { s' with heap := h3 } := by
        rw [hf]
        refine HandSPX.setFlight_upZ fl3 ?_
        intro h4 hh4 up4
        refine wpAny_throw (tk _ _ ?_)
        refine ⟨a, B, sI, pins, σ', H', cls, d, rfl, J, nb, (up.trans up3).trans up4, .inr (.inr ?_), na, os, ag, w⟩
        rw [hs]
        exact hh4
      first
        | exact wpAny_bind (wpAny_pure (wpAny_bind fin))
        | exact wpAny_bind fin
    | @bare x c ts b₀ suite np pos' hds2 l2 hc hsu r ih =>
      rintro ⟨b, hb1, hyes, hno⟩
      refine wpAny_handleBy_cons (codeAny_handlers_test ?_) (by intro q; cases q)
      refine test hc ((PySem.W.exm_one (M := model X.prog X.w) J3.kIn LT hb1).here ?_)
      cases b with
      | false =>
        show wpAny _ X.A (handleBy (.ref a) X.env hds2) _ _ _
        exact ih (hno rfl)
      | true =>
        refine codeAny_handlers_suite (HandSPX.lands_againZ fl3 ?_)
        intro h4 fl4 up4
        have J4 : Inv X pins σ' H' { s' with heap := h4 } := J.landed nb fl4.1 ((up.trans up3).trans up4) os ag
        obtain ⟨oe4, vs4, he4, hz4, hd4⟩ := fl4.there
        have S4 := J4.suite he4 hd4 na nL nF
        refine wpAny_mono ((hsu a oe4 cls d (X.pn ++ pins) hz4 ⟨_, hd4⟩).run [] _ _ H' _ S4 (hyes rfl a na)) ?_ (fun _ _ z => z.elim)
        intro f s6 hsp
        cases f with
        | ret u =>
          obtain ⟨v6, σ6, H6, S6, r6, q6⟩ := hsp
          exact ⟨_, _, _, S6.unsuite ok, r6, q6⟩
        | next =>
          obtain ⟨σ6, H6, S6, q6⟩ := hsp
          exact ⟨_, _, S6.unsuite ok, q6⟩
        | brk =>
          obtain ⟨σ6, H6, S6, q6⟩ := hsp
          exact ⟨_, _, S6.unsuite ok, q6⟩
        | cont =>
          obtain ⟨σ6, H6, S6, q6⟩ := hsp
          exact ⟨_, _, S6.unsuite ok, q6⟩
    | @named x n i c ts b₀ suite np pos' hds2 l2 hN hi hln hc hsu r ih =>
      rintro ⟨b, hb1, hyes, hno⟩
      refine wpAny_handleBy_cons (codeAny_handlers_test ?_) (by intro q; cases q)
      refine test hc ((PySem.W.exm_one (M := model X.prog X.w) J3.kIn LT hb1).here ?_)
      cases b with
      | false =>
        show wpAny _ X.A (handleBy (.ref a) X.env hds2) _ _ _
        exact ih (hno rfl)
      | true =>
        refine codeAny_handlers_suite_as (HandSPX.lands_againZ fl3 ?_)
        intro h4 fl4 up4
        have J4 : Inv X pins σ' H' { s' with heap := h4 } := J.landed nb fl4.1 ((up.trans up3).trans up4) os ag
        obtain ⟨oe4, vs4, he4, hz4, hd4⟩ := fl4.there
        have S4 := J4.suite he4 hd4 na nL nF
        refine store_ok (X := X.suite a ((a, oe4) :: (X.pn ++ pins))) (v := .ref a) S4 hN hi (.inl hln) rfl ?_ (.inr hln)
        intro s5 S5
        refine wpAny_mono ((hsu a oe4 cls d (X.pn ++ pins) hz4 ⟨_, hd4⟩).run [] s5 _ H' _ S5 (hyes rfl a na)) ?_ (fun _ _ z => z.elim)
        intro f s6 hsp
        have bye : ∀ {σ6 : St} {H6 : Hp} {Q : Shared → Prop}, Inv (X.suite a ((a, oe4) :: (X.pn ++ pins))) [] σ6 H6 s6 →
            (∀ s7, Inv X pins (σ6.set i none) H6 s7 → Q s7) →
            wpAny (model X.prog X.w) X.A (do bindName X.env n .none; unbindBehindTheSuite X.env n pos') (fun _ s7 => Q s7) X.xe s6 :=
          fun S6 hq => gone_ok (S6.unsuite ok) hN hi hln hq
        cases f with
        | ret u =>
          obtain ⟨v6, σ6, H6, S6, r6, q6⟩ := hsp
          exact bye S6 fun s7 J7 => ⟨_, _, _, J7, r6, q6⟩
        | next =>
          obtain ⟨σ6, H6, S6, q6⟩ := hsp
          exact bye S6 fun s7 J7 => ⟨_, _, J7, q6⟩
        | brk =>
          obtain ⟨σ6, H6, S6, q6⟩ := hsp
          exact bye S6 fun s7 J7 => ⟨_, _, J7, q6⟩
        | cont =>
          obtain ⟨σ6, H6, S6, q6⟩ := hsp
          exact bye S6 fun s7 J7 => ⟨_, _, J7, q6⟩
  exact go hh w0
end
end LP

set_option Elab.async false
set_option linter.all false
set_option maxRecDepth 100000
set_option maxHeartbeats 4000000
/-! LPZ: data with dicts and its repr; defs that are called while an error is handled; facts of own errors' classes. -/
namespace LP
open PySem PySem.Spec L2
open PyProof.Rows hiding St

/-! ### data, dicts among it; z: no list of it lies where sys.modules does -/
def keyD : Key → PyData
  | .inl i => .int i
  | .inr x => .str x
mutual
inductive Dd (z : Prop) (H : Hp) : V → PyData → Prop
  | non : Dd z H .non .none
  | bl (b : Bool) : Dd z H (.bl b) (.bool b)
  | int (i : Int) : Dd z H (.int i) (.int i)
  | str (x : Str) : Dd z H (.str x) (.str x)
  | lst {a : Addr} {xs : List V} {ds : List PyData} : H a = some (.lst xs) → (z → a ≠ sysModules) → DdA z H xs ds → Dd z H (.ref a) (.list ds)
  | tup {a : Addr} {xs : List V} {ds : List PyData} : H a = some (.tup xs) → DdA z H xs ds → Dd z H (.ref a) (.tuple ds)
  | dct {a : Addr} {kvs : List (Key × V)} {ds : List PyData} {ps : List (PyData × PyData)} : H a = some (.dK kvs) →
      DdA z H (kvs.map (·.2)) ds → ps.map (·.1) = kvs.map (fun p => keyD p.1) → ps.map (·.2) = ds → Dd z H (.ref a) (.dict ps)
inductive DdA (z : Prop) (H : Hp) : List V → List PyData → Prop
  | nil : DdA z H [] []
  | cons {v : V} {vs : List V} {d : PyData} {ds : List PyData} : Dd z H v d → DdA z H vs ds → DdA z H (v :: vs) (d :: ds)
end

section
variable {z : Prop} {H H' : Hp}
mutual
theorem Dd.same (e : Same H H') : ∀ (d : PyData) (v : V), Dd z H v d → Dd z H' v d
  | _, _, .non => .non
  | _, _, .bl b => .bl b
  | _, _, .int i => .int i
  | _, _, .str x => .str x
  | .list ds, _, .lst h n hs => .lst (e _ _ h) n (DdA.same e ds _ hs)
  | .tuple ds, _, .tup h hs => .tup (e _ _ h) (DdA.same e ds _ hs)
  | .dict ps, _, .dct (ds := ds) h hs h1 h2 => .dct (e _ _ h) (DdA.same e ds _ hs) h1 h2
termination_by structural _ _ h => h
theorem DdA.same (e : Same H H') : ∀ (ds : List PyData) (vs : List V), DdA z H vs ds → DdA z H' vs ds
  | _, _, .nil => .nil
  | d :: ds, _, .cons h hs => .cons (Dd.same e d _ h) (DdA.same e ds _ hs)
termination_by structural _ _ h => h
end
end

section
variable {X : Cx} {pins : List (Addr × Obj)} {σ : St} {H : Hp} {s : Shared} {z : Prop}
theorem reads_keys {P : Program} {w : World} (hp : Heap) {es : List DictEntry} {kvs : List (Key × Value)} (h : Pairs (mixKind P w) es kvs) :
    ReadsAll hp (es.map (·.key)) (kvs.map fun p => keyD p.1) [] := by
  induction h with
  | nil => exact .nil
  | @cons e kv es kvs h1 h2 h3 ih =>
    obtain ⟨k, v⟩ := kv
    have one : Reads hp e.key (keyD k) [] := by
      rcases keyIs_shape h1 with ⟨i, t, q, e1⟩ | ⟨x, t, q, e1⟩
      · rw [e1, show k = Sum.inl i from q]
        exact .int i t
      · rw [e1, show k = Sum.inr x from q]
        exact .str x t
    exact .cons (as := []) (bs := []) one ih
theorem pairs_vals {P : Program} {w : World} {es : List DictEntry} {kvs : List (Key × Value)} (h : Pairs (mixKind P w) es kvs) :
    es.map (·.val) = kvs.map (·.2) := by
  induction h with
  | nil => rfl
  | cons h1 h2 h3 ih => rw [List.map_cons, List.map_cons, h2, ih]
theorem kv_parts {kvs : List (Key × V)} {vs : List (Key × Value)} (r : KV kvs vs) :
    kvs.map (fun p => keyD p.1) = vs.map (fun p => keyD p.1) ∧ Vals (kvs.map (·.2)) (vs.map (·.2)) := by
  induction r with
  | nil => exact ⟨rfl, .nil⟩
  | cons h t ih =>
    obtain ⟨h1, h2⟩ := h
    refine ⟨?_, .cons h2 ih.2⟩
    rw [List.map_cons, List.map_cons, ih.1, h1]
mutual
theorem Dd.reads (I : Inv X pins σ H s) : ∀ (d : PyData) (v : V) (u : Value), Dd z H v d → RelV v u → ∃ as, Reads s.heap u d as ∧ (z → sysModules ∉ as)
  | _, _, u, .non, r => by
    cases r
    exact ⟨_, .none, fun _ => by simp⟩
  | _, _, u, .bl b, r => by
    cases r
    exact ⟨_, .bool b, fun _ => by simp⟩
  | _, _, u, .int i, r => by
    obtain ⟨t, rfl⟩ := r
    exact ⟨_, .int i t, fun _ => by simp⟩
  | _, _, u, .str x, r => by
    obtain ⟨t, rfl⟩ := r
    exact ⟨_, .str x t, fun _ => by simp⟩
  | .list ds, .ref a, u, .lst h n hs, r => by
    cases r
    obtain ⟨its, rv, ⟨o, n', ho, hc, _, hd⟩, _⟩ := I.list (SqL.of h)
    obtain ⟨as, hr, hz⟩ := DdA.reads I ds _ its hs rv
    refine ⟨_, Reads.list ho hc hd hr, fun q => ?_⟩
    intro hm
    rcases List.mem_cons.mp hm with e | e
    · exact n q e.symm
    · exact hz q e
  | .tuple ds, .ref a, u, .tup h hs, r => by
    cases r
    obtain ⟨its, rv, ⟨o, ho, hc, n, hd⟩, _⟩ := I.tuple (SqT.of h)
    obtain ⟨as, hr, hz⟩ := DdA.reads I ds _ its hs rv
    exact ⟨_, Reads.tuple ho hc hd hr, hz⟩
  | .dict ps, .ref a, u, .dct (kvs := kvs) (ds := ds) h hs h1 h2, r => by
    cases r
    obtain ⟨_, hsm, vs, rel, o, es, ep, ho, hx, hd, _, hp, _⟩ := (show ObjOk X.prog X.w H s.heap a (.dK kvs) from I.hok a _ h)
    obtain ⟨k1, k2⟩ := kv_parts rel
    obtain ⟨as, hr, hz⟩ := DdA.reads I ds _ _ hs k2
    refine ⟨_, Reads.dict (as := []) (bs := as) ho hx.1 hd ?_ ?_, fun q hm => ?_⟩
    · rw [h1, k1]
      exact reads_keys s.heap hp
    · rw [h2, pairs_vals hp]
      exact hr
    · rcases List.mem_cons.mp hm with e | e
      · rw [e, beq_self_eq_true] at hsm
        cases hsm
      · exact hz q e
termination_by structural _ _ _ h => h
theorem DdA.reads (I : Inv X pins σ H s) : ∀ (ds : List PyData) (vs : List V) (us : List Value), DdA z H vs ds → Vals vs us → ∃ as, ReadsAll s.heap us ds as ∧ (z → sysModules ∉ as)
  | _, _, us, .nil, r => by
    cases r
    exact ⟨_, .nil, fun _ => by simp⟩
  | d :: ds, _, us, .cons h hs, r => by
    cases r with
    | cons r1 r2 =>
      obtain ⟨as, q1, z1⟩ := Dd.reads I d _ _ h r1
      obtain ⟨bs, q2, z2⟩ := DdA.reads I ds _ _ hs r2
      refine ⟨_, .cons q1 q2, fun q hm => ?_⟩
      rcases List.mem_append.mp hm with e | e
      · exact z1 q e
      · exact z2 q e
termination_by structural _ _ _ h => h
end

/-- repr of data -/
def rReprZ : List V → Hp → VK → Prop := fun xs H Q => ∃ x d, xs = [x] ∧ Dd (d.hasDict = true) H x d ∧ d.showable = true ∧ d.depth ≤ 60 ∧
  d.shown.length ≤ sizeLine ∧ Q (.str d.shown) H
theorem call_reprZ (gd : X.A.guards = some []) (hu : X.A.units + 64 < cLine) : CallR X (.builtin "repr") rReprZ := by
  intro pins s σ H xs us Q I r h
  obtain ⟨x, d, rfl, hd, hs, hz, hl, q⟩ := h
  obtain ⟨u, rfl, r1⟩ := vals1 r
  obtain ⟨as, rd, na⟩ := Dd.reads I d x u hd r1
  cases rd with
  | none => exact PySem.P.repr_of_none ⟨.str _, H, I.tok _, ⟨_, rfl⟩, q⟩
  | bool b => exact PySem.P.repr_of_bool ⟨.str _, H, I.tok _, ⟨_, rfl⟩, q⟩
  | int i t =>
    have hi : i.natAbs.log2 < 1920 := by simpa [PyData.showable] using hs
    exact PySem.P.repr_of_int hi ⟨.str _, H, I.tok _, ⟨_, rfl⟩, q⟩
  | str y t => exact PySem.P.repr_of_str ⟨.str _, H, I.tok _, ⟨_, rfl⟩, q⟩ hl
  | list h1 h2 h3 h4 =>
    exact repr_of_reads' (.list h1 h2 h3 h4) hs na gd (by omega) (fun _ _ e => e) (fun h' v tk hk => ⟨.str _, H, I.kept hk, ⟨_, rfl⟩, q⟩) hl
  | tuple h1 h2 h3 h4 =>
    exact repr_of_reads' (.tuple h1 h2 h3 h4) hs na gd (by omega) (fun _ _ e => e) (fun h' v tk hk => ⟨.str _, H, I.kept hk, ⟨_, rfl⟩, q⟩) hl
  | dict h1 h2 h3 h4 h5 =>
    exact repr_of_reads' (.dict h1 h2 h3 h4 h5) hs na gd (by omega) (fun _ _ e => e) (fun h' v tk hk => ⟨.str _, H, I.kept hk, ⟨_, rfl⟩, q⟩) hl

/-- list + list: the new one does not lie where sys.modules does -/
def rCatX : R2 := fun x y H Q => ∃ l b xs zs, x = .ref l ∧ y = .ref b ∧ H l = some (.lst xs) ∧ H b = some (.lst zs) ∧
  xs.length + zs.length ≤ sizeLine ∧ ∀ p, p ≠ sysModules → H p = none → Q (.ref p) (upd H p (.lst (xs ++ zs)))
theorem op_catX : OpR X (binaryOp .Add) rCatX := by
  intro pins s σ H x y v u Q I rx ry h
  obtain ⟨l, b, xs, zs, rfl, rfl, hH, hB, hz, q⟩ := h
  cases rx
  cases ry
  obtain ⟨z, its, n, r, hl, e⟩ := I.lstM hH
  obtain ⟨z2, its2, n2, r2, hl2, e2⟩ := I.lstM hB
  refine PySem.P.add_list e e2 ?_ (by rw [List.size_toArray, List.size_toArray]; omega)
  rw [show its.toArray ++ its2.toArray = (its ++ its2).toArray by simp]
  refine ⟨.ref _, _, I.lnew (t' := s.toks) (r.append r2) ?_, rfl, q _ (Nat.ne_of_gt I.big) I.fresh⟩
  rw [List.length_append]
  omega
end

/-! ### defs that are called while an error is handled: the error is pinned -/
structure FnP (P : Program) (w : World) (K : PySem.W.Frag) (mg : Str → Option Value) (base : Heap) (CX : CXT)
    (k : Nat) (f : Addr) (fd : FuncData) (ps : List Str) (sp : Addr → Value → Option Addr → Sp) : Prop where
  len : ∀ a c d vs H Q E, sp a c d vs H Q E → vs.length = ps.length
  go : ∀ (A : Around) (outer : List Env) (s : Shared) (H : Hp) (args : Args) (us : List Value) (vs : List V) (Q : VK) (E : XK)
    (p : Addr × Obj) (c : Value) (d : Option Addr), A.guards = some [] → L2H.RoomH k A → L2H.PinOk outer H s p → Zc c d p.2 →
    (∃ fv, p.2.data = .fields fv) → Env0 P w K mg base A outer s H →
    BindsTo s fd args (ps.zip us) → Vals vs us → sp p.1 c d vs H Q E →
    codeAny (model P w) A (.call (.ref f) args) (CR CX outer P w H s Q E) s

theorem fnP_of {CX : CXT} {P : Program} {w : World} {K : PySem.W.Frag} {mg : Str → Option Value} {base : Heap} {k : Nat}
    {f : Addr} {name qual : Str} {params : Arguments} {body : List Stmt} {scope : Scope} {dV kV doc pm cdv ct oc : Value}
    {an od : Option Addr} {osl : Array (Option Value)} {N ps : List Str} {sp : Addr → Value → Option Addr → Sp}
    (lk : K.lookup f = some ⟨oc, od, .func (PySem.W.fnOf name qual params body scope dV kV doc pm an cdv ct), osl⟩)
    (hcd : PySem.W.codeIn K cdv qual = true) (S : FnScope N ps scope)
    (len : ∀ a c d vs H Q E, sp a c d vs H Q E → vs.length = ps.length)
    (hbody : ∀ (A : Around) (outer : List Env) (s : Shared) (H : Hp) (vs : List V) (Q : VK) (E : XK) (p : Addr × Obj) (c : Value)
      (d : Option Addr), A.guards = some [] → L2H.RoomH k (A.deeper (envOfC qual scope s.heap.objs.size f cdv)) → Zc c d p.2 →
      (∃ fv, p.2.data = .fields fv) → sp p.1 c d vs H Q E →
      ∃ t, PSs (L2H.cxH CX P w K mg base N qual scope f cdv A outer s H E p) body t ∧
        t { nx := fun _ H' => Q .non H', rt := Q } (start N vs) H) :
    FnP P w K mg base CX (k + 1) f (PySem.W.fnOf name qual params body scope dV kV doc pm an cdv ct) ps sp := by
  constructor
  · exact len
  intro A outer s H args us vs Q E p c d gd hr hpin hz hf e0 hb r hsp
  have hl := len _ _ _ _ _ _ _ hsp
  have KX : K.In s.heap := e0.mod.kin.keeps fun b o e => (e0.bs b o e).1
  have lim : s.heap.NoLimit := e0.mod.nolimit.keeps fun b o e => (e0.bs b o e).1
  have hk : ∀ y ∈ ps.zip us, scope.names.lookup y.1 = some .local ∨
      (scope.names.lookup y.1 = some .cell ∧
        ((cellsFrom (s.heap.objs.size + 1) scope.names []).lookup y.1).isSome = true) := by
    rintro ⟨n, v⟩ hy
    rcases S.par n (List.of_mem_zip hy).1 with q | q
    · exact .inl q
    · exact .inr ⟨q, PySem.W.cellsFrom_some _ _ _ (.inl q)⟩
  refine codeAny_call_function hr.depth (KX _ _ lk) rfl S.co S.gen rfl (PySem.W.codeRec_of KX hcd) ?_
  refine hb _ _ _ _ (wpAny_newFunctionEnv_cells S.kind hk ?_)
  intro env he s1 x
  subst he
  refine ⟨lim.keeps x.toInCall.keep, ?_⟩
  refine codeAny_func ?_
  obtain ⟨t, ht, hq⟩ := hbody A outer s H vs Q E p c d gd (hr.deeper _) hz hf hsp
  have I := L2H.inv_startH (CX := CX) (N := N) (E := E) S hpin e0 hl r x
  refine wpAny_mono (ht.run [] s1 (start N vs) H _ I hq) ?_ (fun e s' hs => hs)
  intro fl s' hs
  cases fl with
  | ret u =>
    obtain ⟨v, σ', H', J, rv, q⟩ := hs
    exact ⟨v, H', J.os, J.bare, J.base, J.hok, rv, q⟩
  | next =>
    obtain ⟨σ', H', J, q⟩ := hs
    exact ⟨V.non, H', J.os, J.bare, J.base, J.hok, rfl, q⟩
  | brk =>
    obtain ⟨_, _, _, q⟩ := hs
    exact q.elim
  | cont =>
    obtain ⟨_, _, _, q⟩ := hs
    exact q.elim

section
variable {P : Program} {w : World} {K : PySem.W.Frag} {mg : Str → Option Value} {base : Heap}
theorem okP {x qual : Str} {st : Stmt} {f : Addr} {fd : FuncData} {N ps : List Str} {k : Nat} {sp : Addr → Value → Option Addr → Sp}
    (F : Fun K x qual st f fd) (S : FnScope N ps (defScope st)) (len : ∀ a c d vs H Q E, sp a c d vs H Q E → vs.length = ps.length)
    (hbody : ∀ (cdv : Value) (A : Around) (outer : List Env) (s : Shared) (H : Hp) (vs : List V) (Q : VK) (E : XK) (p : Addr × Obj)
      (c : Value) (d : Option Addr), A.guards = some [] → L2H.RoomH k (A.deeper (envOfC qual (defScope st) s.heap.objs.size f cdv)) →
      Zc c d p.2 → (∃ fv, p.2.data = .fields fv) → sp p.1 c d vs H Q E →
      ∃ t, PSs (L2H.cxH CX0 P w K mg base N qual (defScope st) f cdv A outer s H E p).nox (defBody st) t ∧
        t { nx := fun _ H' => Q .non H', rt := Q } (start N vs) H) :
    FnP P w K mg base CX0 (k + 1) f fd ps sp := by
  obtain ⟨oc, od, kV, doc, pm, an, cdv, ct, osl, rfl, lk, hcd⟩ := F.ex
  refine fnP_of lk hcd S len ?_
  intro A outer s H vs Q E p c d g hr hz hf hsp
  obtain ⟨t, h, q⟩ := hbody cdv A outer s H vs Q E p c d g hr hz hf hsp
  exact ⟨t, h.nox, q⟩
end

section
variable {X : Cx} {k : Nat} {f : Addr} {fd : FuncData} {ps : List Str} {sp : Addr → Value → Option Addr → Sp} {x : Str} {p pos : Pos} {e : Expr}
  {es : List Expr} {t : TA} {a : Addr} {oe : Obj} {st : Stmt} {c : Value} {d : Option Addr}
theorem pe_dfP (D : Df X.K X.mg x st ps f fd) (F : FnP X.prog X.w X.K X.mg X.base CX0 k f fd ps sp) (gd : X.A.guards = some [])
    (hr : L2H.RoomH k X.A) (hp : (a, oe) ∈ X.pn) (hz : Zc c d oe) (hf : ∃ fv, oe.data = .fields fv) (hg : Gl X x) (ha : PA X (e :: es) t)
    (hdb : (x == ("__debug__" : Str)) = false := by decide)
    (he : starEach (e :: es) X.env = (false, eval e X.env) :: starEach es X.env := by rfl)
    (hpl : (backTo pos (starEach es X.env)).any (·.1) = false := by rfl) :
    PE X (.Call (.Name x p) (e :: es) [] pos) (tCall (sp a c d) [] E0 t) := by
  constructor
  intro pins s σ H Q I h
  refine wpAny_Call_Name_kw (ld_glob I hg D.g ?_ hdb)
  refine PySem.W.callWith_K (h₀ := X.base) I.ok.mod.kin D.F.kp (thn (ha.run pos pins s σ H _ I h) ?_) he hpl
  rintro us s1 ⟨vs, H1, I1, r, q⟩
  refine ⟨I1.kIn, ?_⟩
  rw [List.append_nil] at q
  have hl : us.length = ps.length := r.length.symm.trans (F.len _ _ _ _ _ _ _ q)
  have b := D.b s1 us I1.kIn (by rw [List.append_nil]; exact hl)
  rw [List.append_nil] at b
  have P1 := I1.pin (a, oe) (List.mem_append_left _ hp)
  have hpin : L2H.PinOk X.stack H1 s1 (a, oe) := by
    refine ⟨P1.1, P1.2.1, ?_, P1.2.2.2.2⟩
    intro hm
    exact (List.mem_cons.mp (I1.stkSub a hm)).elim P1.2.2.1 P1.2.2.2.1
  refine wpAny_call (codeAny_mono (F.go X.A X.stack s1 H1 ⟨us, []⟩ us vs Q E0 (a, oe) c d gd hr hpin hz hf I1.env0 b r q) ?_)
  intro r s' hq
  cases r with
  | error e => exact hq.elim
  | ok fl =>
    cases fl with
    | ret u => exact I1.after hq
    | next => exact hq.elim
    | brk => exact hq.elim
    | cont => exact hq.elim
end
end LP

set_option Elab.async false
set_option linter.all false
set_option maxRecDepth 100000
set_option maxHeartbeats 4000000
/-! LPQ: facts of the classes of own errors by one look at the written part; their __init__. -/
namespace LP
open PySem PySem.Spec L2
open PyProof.Rows hiding St

/-- what is wanted of each own class of errors -/
structure Xk (K : PySem.W.Frag) (C : Addr) : Prop where
  ec : ExcC K C
  kC : PySem.W.keepIn K (.ref C) = true
  tyC : PySem.W.typeIn K (.ref C) = some (.type "type")
def xkB (K : PySem.W.Frag) (C : Addr) : Bool :=
  decide (PySem.W.findIn K (.ref C) "__getattribute__" = some (some (.builtin "BaseException.__getattribute__"))) &&
  decide (PySem.W.findIn K (.ref C) "__getattr__" = some none) &&
  decide (PySem.W.subIn K (.ref C) (.type "BaseException") = some true) &&
  PySem.W.hasDictIn K C &&
  decide (PySem.W.findIn K (.ref C) "__class__" = some (some (.builtin "object.__class__"))) &&
  decide (PySem.W.specialIn K (.builtin "object.__class__") "__get__" = some (some (.builtin "getset_descriptor.__get__"))) &&
  decide (PySem.W.takesIn K (.builtin "object.__class__") = some true) &&
  decide (PySem.W.mroIn K C (.type "object") = some true) &&
  PySem.W.keepIn K (.ref C) && decide (PySem.W.typeIn K (.ref C) = some (.type "type"))
theorem xk_of {K : PySem.W.Frag} {C : Addr} (h : xkB K C = true) : Xk K C := by
  unfold xkB at h
  simp only [Bool.and_eq_true, decide_eq_true_eq] at h
  obtain ⟨⟨⟨⟨⟨⟨⟨⟨⟨h1, h2⟩, h3⟩, h4⟩, h5⟩, h6⟩, h7⟩, h8⟩, h9⟩, h10⟩ := h
  exact ⟨⟨h1, h2, h3, h4, h5, h6, h7, h8⟩, h9, h10⟩
theorem Xk.xf {K : PySem.W.Frag} {C : Addr} (h : Xk K C) : XfC K C := ⟨h.ec.hg, h.ec.hk, h.ec.hs, h.ec.hd⟩
theorem Xk.raises {X : Cx} {C : Addr} (h : Xk X.K C) : Raises X (.ref C) := raises_own h.ec.hs h.tyC

/-- a class with an own __init__ that keeps f; B: what makes it; bmS: the built-in bases -/
def ocB (K : PySem.W.Frag) (C : Addr) (B newId : String) (bmS : List Value) (f : Str) : Bool := (match K.lookup C with
  | some ⟨.type "type", _, .cls cd, sl⟩ => (match cd.mro, sl.toList with
    | .ref C' :: bm, [_, _, _, _, some (.builtin n), _] => C' == C && n == newId && !cd.hasDel && cd.hasDict && bm.contains (.type B) &&
        !bm.contains (.type "AttributeError") && !bm.contains (.type "NameError")
    | _, _ => false)
  | _ => false) && PySem.W.excOver K C bmS &&
  decide (PySem.W.findIn K (.ref C) "__setattr__" = some (some (.builtin "object.__setattr__"))) &&
  decide (PySem.W.findIn K (.ref C) f = some none)
theorem oc_of {K : PySem.W.Frag} {C : Addr} {B B' newId initId : String} {bmB bmS : List Value} {f : Str}
    (F : ExcBaseFacts B newId initId bmB) (SF : StoreFacts B' bmS "object.__setattr__" "object") (x : Xk K C)
    (q : ocB K C B newId bmS f = true) : Oc K C f := by
  unfold ocB at q
  simp only [Bool.and_eq_true, decide_eq_true_eq] at q
  obtain ⟨⟨⟨q, h2⟩, h3⟩, h4⟩ := q
  refine ⟨?_, ⟨_, _, SF, h2⟩, h3, x.ec.hs, x.tyC, x.kC, x.ec.hd, h4⟩
  split at q
  · rename_i dd cd sl ho
    split at q
    · rename_i C' bm k0 k1 k2 k3 n k5 hm hs
      simp only [Bool.and_eq_true, beq_iff_eq, Bool.not_eq_true'] at q
      obtain ⟨⟨⟨⟨⟨⟨rfl, rfl⟩, hdel⟩, hdt⟩, c1⟩, c2⟩, c3⟩ := q
      obtain ⟨nm, bs, mro, ns, qn, hd, sn, sub, ab, col, del⟩ := cd
      dsimp only at hm hdel hdt
      subst hm hdel hdt
      have hsl : sl = #[k0, k1, k2, k3, some (.builtin n), k5] := by
        obtain ⟨l⟩ := sl
        simp only at hs
        rw [hs]
      subst hsl
      exact ⟨B, n, initId, bmB, bm, nm, qn, ns, bs, sn, sub, ab, col, dd, k0, k1, k2, k3, k5, F, ⟨c1, c2, c3⟩, ho⟩
    · cases q
  · cases q

/-- an own class whose __init__ keeps f: all that making it asks -/
structure Ok1 (K : PySem.W.Frag) (mg : Str → Option Value) (x : Str) (C : Addr) (f : Str) (st : Stmt) (ps : List Str) (fI : Addr) (fd : FuncData) : Prop where
  g : mg x = some (.ref C)
  k : Xk K C
  o : Oc K C f
  i : PySem.W.findIn K (.ref C) "__init__" = some (some (.ref fI))
  t : PySem.W.typeIn K (.ref fI) = some (.type "function")
  F : Fun K "__init__" (x ++ ".__init__") st fI fd
  b : Binds K fd ps []
/-- the j-th statement of a class's body -/
def mth (s : Stmt) (j : Nat) : Stmt := match s with
  | .ClassDef _ _ _ body _ _ _ _ _ _ _ => body.getD j (.Pass ⟨0, 0, 0, 0⟩)
  | _ => .Pass ⟨0, 0, 0, 0⟩

section
variable {P : Program} {w : World} {K : PySem.W.Frag} {mg : Str → Option Value} {base : Heap}
/-- def __init__(self, v): self.f = v -/
theorem ok_ini {x : Str} {C fI : Addr} {fd : FuncData} {f v : Str} {st : Stmt} {p1 p2 p3 p4 : Pos} {qn : Str}
    (F : Fun K "__init__" qn st fI fd) (T : Oc K C f) (S : FnScope ["self", v] ["self", v] (defScope st))
    (hb : defBody st = [.Assign [.Attribute (.Name "self" p1) f p2] (.Name v p3) p4])
    (h0 : Vis (defScope st) "self") (h1 : Vis (defScope st) v) (d1 : (v == ("__debug__" : Str)) = false) (d2 : (v == ("__classdict__" : Str)) = false) :
    FnOk P w K mg base CX0 1 fI fd ["self", v] (spIni K C f) := by
  refine F.ok S ?_ ?_
  · rintro vs H Q E ⟨a, y, rfl, _⟩
    rfl
  rintro cdv A outer s H vs Q E hr ⟨a, y, rfl, _, ha, q⟩
  rw [hb]
  refine ⟨_, pss_one (ps_os1 (pe_var (i := 0) rfl h0 (by decide) (by decide)) (pe_var (i := 1) rfl h1 d1 d2)), ?_⟩
  refine ⟨y, rfl, .ref a, rfl, a, C, rfl, T, ha, ?_⟩
  intro dx n ne
  exact q dx n ne
end
section
variable {X : Cx} {k : Nat} {C fI : Addr} {fd : FuncData} {ps : List Str} {x f : Str} {st : Stmt} {e : Expr} {ta : TA} {p pos : Pos}
theorem pe_new1 (D : Ok1 X.K X.mg x C f st ps fI fd) (G : FnOk X.prog X.w X.K X.mg X.base CX0 k fI fd ps (spIni X.K C f)) (hr : Room (k + 1) X.A)
    (hg : Gl X x) (ha : PA X [e] ta) (hdb : (x == ("__debug__" : Str)) = false := by decide)
    (he : starEach [e] X.env = (false, eval e X.env) :: starEach [] X.env := by rfl)
    (hpl : (backTo pos (starEach [] X.env)).any (·.1) = false := by rfl) :
    PE X (.Call (.Name x p) [e] [] pos) (tMkV C f ta) := pe_mkv D.o D.i D.t G hr D.b hg D.g ha hdb he hpl
theorem pmk_new1 (D : Ok1 X.K X.mg x C f st ps fI fd) (G : FnOk X.prog X.w X.K X.mg X.base CX0 k fI fd ps (spIni X.K C f)) (hr : Room (k + 1) X.A)
    (hg : Gl X x) (ha : PA X [e] ta) (hdb : (x == ("__debug__" : Str)) = false := by decide)
    (he : starEach [e] X.env = (false, eval e X.env) :: starEach [] X.env := by rfl)
    (hpl : (backTo pos (starEach [] X.env)).any (·.1) = false := by rfl) :
    PMk X (.Call (.Name x p) [e] [] pos) (tMkR C f ta) := pmk_mkr D.o D.i D.t G hr D.b hg D.g ha hdb he hpl
end

/-- an own class over ValueError without own __init__ -/
structure Ok0 (K : PySem.W.Frag) (mg : Str → Option Value) (x : Str) (C : Addr) : Prop where
  g : mg x = some (.ref C)
  k : Xk K C
  e : PySem.W.excIn K C [.type "ValueError", .type "Exception", .type "BaseException", .type "object"] "ValueError.__new__" = true
section
variable {X : Cx} {C : Addr} {x m : Str} {e : Expr} {ta : TE} {p p2 pos : Pos} {j : Nat}
def tMk0 (C : Addr) (ta : TE) : TE := fun σ H Q => ta σ H fun _ H1 => ∀ a, H1 a = none → Q (.ref a) (upd H1 a (exo a C none))
theorem pe_new0 (D : Ok0 X.K X.mg x C) (hg : Gl X x) (he : PE X e ta)
    (hs : starEach [e] X.env = (false, eval e X.env) :: starEach [] X.env := by rfl)
    (hdb : (x == ("__debug__" : Str)) = false := by decide) :
    PE X (.Call (.Name x p) [e] [] pos) (tMk0 C ta) := pe_mk0 PySem.F.excBase_ValueError D.e D.g D.k.kC hg he hs hdb
theorem pmk_new0 (D : Ok0 X.K X.mg x C) (hg : Gl X x) (hdb : (x == ("__debug__" : Str)) = false := by decide) :
    PMk X (.Call (.Name x p) [.Constant (.str m) j p2] [] pos) (fun _ H Q => Q (.ref C) none H) :=
  pmk_own PySem.F.excBase_ValueError D.e D.g D.k.kC D.k.raises hg hdb
end

/-! ### isinstance of errors, by a table -/
def isOf (K : PySem.W.Frag) (C : Addr) : V → Option Bool
  | .ty n => PySem.W.kitOne K (.ref C) (.type n)
  | .ref D => PySem.W.kitOne K (.ref C) (.ref D)
  | _ => none
def rIsA (K : PySem.W.Frag) (pn : List (Addr × Obj)) (a C : Addr) : List V → Hp → VK → Prop := fun xs H Q =>
  ∃ c b, xs = [.ref a, c] ∧ ExcC K C ∧ XAt pn H a C ∧ isOf K C c = some b ∧ Q (.bl b) H
theorem call_isA {X : Cx} {K : PySem.W.Frag} {pn : List (Addr × Obj)} {a C : Addr} (eK : X.K = K) (ep : X.pn = pn) : CallR X (.builtin "isinstance") (rIsA K pn a C) := by
  subst eK
  subst ep
  refine call_imp call_isX ?_
  rintro xs H Q ⟨c, b, rfl, T, hx, e, q⟩
  cases c with
  | ty n => exact ⟨a, C, .ty n, .type n, b, rfl, .ty n, T, hx, e, q⟩
  | ref D => exact ⟨a, C, .ref D, .ref D, b, rfl, .own D, T, hx, e, q⟩
  | _ => cases e

theorem lookup1 {n : Str} {v : V} : List.lookup n [(n, v)] = some v := by simp [List.lookup]
/-! ### 'x' * int(b) -/
def bi (b : Bool) : Int := if b then 1 else 0
theorem bi_inj {a b : Bool} : bi a = bi b ↔ a = b := by
  cases a <;> cases b <;> decide
def ob (b : Bool) (z : Str) : Str := if b then z else ""
theorem len_ob (b : Bool) (z : Str) : (ob b z).length ≤ z.length := by
  unfold ob
  cases b
  · exact Nat.zero_le _
  · exact Nat.le_refl _
theorem len_ob1 (b : Bool) (z : Str) (n : Nat) (h : z.length ≤ n) : (ob b z).length ≤ n := Nat.le_trans (len_ob b z) h
section
variable {X : Cx}
def rIntX : List V → Hp → VK → Prop := fun xs H Q => ∃ k, xs = [.bl k] ∧ Q (.int (bi k)) H
theorem call_intX : CallR X (.type "int") rIntX := call_imp call_intB fun xs H Q ⟨k, h, q⟩ => ⟨k, h, q⟩
theorem rep_bi (b : Bool) (z : Str) : repS z (bi b) = ob b z := by
  cases b
  · simp [repS, Txt.mul, bi, ob]
    rfl
  · simp [repS, Txt.mul, bi, ob]
def rBit : R2 := fun x y H Q => ∃ z b, x = .str z ∧ y = .int (bi b) ∧ z.length ≤ 100 ∧ Q (.str (ob b z)) H
theorem op_bit : OpR X (binaryOp .Mult) rBit := by
  refine op_imp op_repS ?_
  rintro x y H Q ⟨z, b, rfl, rfl, hl, q⟩
  refine ⟨z, bi b, rfl, rfl, ⟨?_, ?_, ?_⟩, ?_⟩
  · cases b <;> decide
  · cases b <;> decide
  · rw [sizeLine_eq]
    cases b
    · show z.length * 0 ≤ _
      omega
    · show z.length * 1 ≤ _
      omega
  · rw [rep_bi]
    exact q
end
end LP

set_option Elab.async false
set_option linter.all false
set_option maxRecDepth 100000
set_option maxHeartbeats 2000000
/-! ZN0: zip over any number of lists, tuples, texts, at the library's level. -/
namespace LZ
open PySem
open PySem.Sem (wp)

/-- what an iterator goes over -/
inductive Sk
  | lst (a : Addr)
  | tup (a : Addr)
  | asc (x : Str) (t : Tok)
  | wid (x : Str) (t : Tok)
def Sk.at : Sk → Nat → Nat → Heap → Prop
  | .lst a, it, i, h => h.IsListIter it a i
  | .tup a, it, i, h => h.IsTupleIter it a i
  | .asc x t, it, i, h => h.IsStrIter it "str_ascii_iterator" x t i
  | .wid x t, it, i, h => h.IsStrIter it "str_iterator" x t i
def Sk.gives : Sk → Heap → Nat → (Value → Prop) → Prop
  | .lst a, h, i, P => ∃ its v, h.IsList a its ∧ its[i]? = some v ∧ P v
  | .tup a, h, i, P => ∃ its v, h.IsTuple a its ∧ its[i]? = some v ∧ P v
  | .asc x _, _, i, P => ∃ c, x.cps[i]? = some c ∧ ∀ u, P (.str ⟨#[c]⟩ u)
  | .wid x _, _, i, P => ∃ c, x.cps[i]? = some c ∧ ∀ u, P (.str ⟨#[c]⟩ u)
def Sk.ends : Sk → Heap → Nat → Prop
  | .lst a, h, i => ∃ its, h.IsList a its ∧ its[i]? = none
  | .tup a, h, i => ∃ its, h.IsTuple a its ∧ its[i]? = none
  | .asc x _, _, i => x.cps[i]? = none
  | .wid x _, _, i => x.cps[i]? = none
/-- the thing itself does not lie at c -/
def Sk.apart : Sk → Nat → Prop
  | .lst a, c => a ≠ c
  | .tup a, c => a ≠ c
  | _, _ => True
theorem Sk.at.over {sk : Sk} {it x : Nat} {i : Nat} {h h' : Heap} (st : sk.at it i h) (hs : Heap.ExtBut x h h') (hx : it ≠ x) : sk.at it i h' := by
  cases sk with
  | lst a => exact Heap.IsListIter.at st fun o e => hs _ _ hx e
  | tup a => exact Heap.IsTupleIter.at st fun o e => hs _ _ hx e
  | asc z t => exact let ⟨o, ho, r⟩ := st; ⟨o, hs _ _ hx ho, r⟩
  | wid z t => exact let ⟨o, ho, r⟩ := st; ⟨o, hs _ _ hx ho, r⟩
theorem Sk.at.over' {sk : Sk} {it : Nat} {i : Nat} {h h' : Heap} (st : sk.at it i h) (hs : ∀ o, h.get? it = some o → h'.get? it = some o) : sk.at it i h' := by
  cases sk with
  | lst a => exact Heap.IsListIter.at st fun o e => hs o e
  | tup a => exact Heap.IsTupleIter.at st fun o e => hs o e
  | asc z t => exact let ⟨o, ho, r⟩ := st; ⟨o, hs o ho, r⟩
  | wid z t => exact let ⟨o, ho, r⟩ := st; ⟨o, hs o ho, r⟩
theorem Sk.at.obj {sk : Sk} {it : Nat} {i : Nat} {h : Heap} (st : sk.at it i h) : ∃ o, h.get? it = some o ∧ ∀ v, o.data ≠ .cell v := by
  cases sk with
  | lst a => exact let ⟨o, ho, _, hd⟩ := st; ⟨o, ho, fun v q => by rw [hd] at q; cases q⟩
  | tup a => exact let ⟨o, ho, _, hd⟩ := st; ⟨o, ho, fun v q => by rw [hd] at q; cases q⟩
  | asc z t => exact let ⟨o, ho, _, hd⟩ := st; ⟨o, ho, fun v q => by rw [hd] at q; cases q⟩
  | wid z t => exact let ⟨o, ho, _, hd⟩ := st; ⟨o, ho, fun v q => by rw [hd] at q; cases q⟩
theorem Sk.gives.over {sk : Sk} {x : Nat} {i : Nat} {h h' : Heap} {P : Value → Prop} (g : sk.gives h i P) (hs : Heap.ExtBut x h h') (hx : sk.apart x) : sk.gives h' i P := by
  cases sk with
  | lst a => exact let ⟨its, v, l, r⟩ := g; ⟨its, v, l.extBut hs hx, r⟩
  | tup a => exact let ⟨its, v, l, r⟩ := g; ⟨its, v, l.extBut hs hx, r⟩
  | asc z t => exact g
  | wid z t => exact g
theorem Sk.ends.over {sk : Sk} {x : Nat} {i : Nat} {h h' : Heap} (g : sk.ends h i) (hs : Heap.ExtBut x h h') (hx : sk.apart x) : sk.ends h' i := by
  cases sk with
  | lst a => exact let ⟨its, l, r⟩ := g; ⟨its, l.extBut hs hx, r⟩
  | tup a => exact let ⟨its, l, r⟩ := g; ⟨its, l.extBut hs hx, r⟩
  | asc z t => exact g
  | wid z t => exact g
section
variable {prog : Program} {w : World} {A : Around} {E : Value → Shared → Prop} {s : Shared}
theorem draw_item {sk : Sk} {it : Nat} {i : Nat} {P : Value → Prop} {Q : Value → Shared → Prop} (st : sk.at it i s.heap) (g : sk.gives s.heap i P)
    (hQ : ∀ u h' tk, P u → sk.at it (i + 1) h' → Heap.SameBut it s.heap h' → Q u { s with heap := h', toks := tk }) : wpAny (model prog w) A (Builtin.SmallTypes.nextOf (.ref it)) Q E s := by
  cases sk with
  | lst a =>
    obtain ⟨its, v, l, e, p⟩ := g
    exact wpAny_nextOf_list_item st l e fun h' a b => hQ v h' s.toks p a b
  | tup a =>
    obtain ⟨its, v, l, e, p⟩ := g
    exact RZ.nextOf_tuple_item st l e fun h' a b => hQ v h' s.toks p a b
  | asc z t =>
    obtain ⟨c, e, p⟩ := g
    exact wpAny_nextOf_ascii_item st e fun h' a b => hQ _ h' _ (p _) a b
  | wid z t =>
    obtain ⟨c, e, p⟩ := g
    exact wpAny_nextOf_wide_item st e fun h' a b => hQ _ h' _ (p _) a b
theorem draw_end {sk : Sk} {it : Nat} {i : Nat} {Q : Value → Shared → Prop} (hh : A.handled = none) (st : sk.at it i s.heap) (g : sk.ends s.heap i)
    (hE : ∀ h' e, Heap.ExtBut it s.heap h' → (∃ o, h'.get? e = some o ∧ o.cls = .type "StopIteration") → E (.ref e) { s with heap := h' }) : wpAny (model prog w) A (Builtin.SmallTypes.nextOf (.ref it)) Q E s := by
  cases sk with
  | lst a =>
    obtain ⟨its, l, e⟩ := g
    exact wpAny_nextOf_list_end hh st l e hE
  | tup a =>
    obtain ⟨its, l, e⟩ := g
    exact RZ.nextOf_tuple_end hh st l e hE
  | asc z t => exact wpAny_nextOf_ascii_end hh st g hE
  | wid z t => exact wpAny_nextOf_wide_end hh st g hE
end
section
variable {M : Model} {A : Around} {E : Value → Shared → Prop} {α β : Type}
theorem forIn_run {f : α → β → Sem (ForInStep β)} {Q : β → Shared → Prop} (Iv : Nat → β → Shared → Prop) : ∀ {l : List α} {j : Nat} {b : β} {s : Shared}, Iv j b s →
    (∀ j' a b s, l[j']? = some a → Iv (j + j') b s → wpAny M A (f a b) (fun r s' => ∃ b', r = .yield b' ∧ Iv (j + j' + 1) b' s') E s) → (∀ b s, Iv (j + l.length) b s → Q b s) → wpAny M A (forIn l b f) Q E s
  | [], j, b, s, h0, _, hq => by
    rw [List.forIn_nil]
    exact wpAny_pure (hq b s h0)
  | a :: l, j, b, s, h0, hs, hq => by
    rw [List.forIn_cons]
    refine wpAny_bind (wpAny_mono (hs 0 a b s rfl h0) (fun r s' z => ?_) fun _ _ x => x)
    obtain ⟨b', rfl, z⟩ := z
    refine forIn_run Iv (j := j + 1) z (fun j' a b s e i => ?_) (fun b s i => hq b s ?_)
    · have z := hs (j' + 1) a b s e (by rw [show j + (j' + 1) = j + 1 + j' by omega]; exact i)
      rw [show j + (j' + 1) + 1 = j + 1 + j' + 1 by omega] at z
      exact z
    · rw [List.length_cons, show j + (l.length + 1) = j + 1 + l.length by omega]
      exact i
theorem forIn_raise {f : α → β → Sem (ForInStep β)} {Q : β → Shared → Prop} (Iv : Nat → β → Shared → Prop) (j0 : Nat) : ∀ {l : List α} {j : Nat} {b : β} {s : Shared}, Iv j b s → j ≤ j0 → j0 < j + l.length →
    (∀ j' a b s, l[j']? = some a → j + j' < j0 → Iv (j + j') b s → wpAny M A (f a b) (fun r s' => ∃ b', r = .yield b' ∧ Iv (j + j' + 1) b' s') E s) → (∀ j' a b s, l[j']? = some a → j + j' = j0 → Iv j0 b s → wpAny M A (f a b) (fun _ _ => False) E s) → wpAny M A (forIn l b f) Q E s
  | [], j, b, s, h0, h1, h2, _, _ => by
    rw [List.length_nil] at h2
    omega
  | a :: l, j, b, s, h0, h1, h2, hs, he => by
    rw [List.forIn_cons]
    rcases Nat.lt_or_eq_of_le h1 with h | h
    · refine wpAny_bind (wpAny_mono (hs 0 a b s rfl h h0) (fun r s' z => ?_) fun _ _ x => x)
      obtain ⟨b', rfl, z⟩ := z
      refine forIn_raise Iv j0 (j := j + 1) z h (by rw [List.length_cons] at h2; omega) (fun j' a b s e hj i => ?_) (fun j' a b s e hj i => ?_)
      · have z := hs (j' + 1) a b s e (by omega) (by rw [show j + (j' + 1) = j + 1 + j' by omega]; exact i)
        rw [show j + (j' + 1) + 1 = j + 1 + j' + 1 by omega] at z
        exact z
      · exact he (j' + 1) a b s e (by omega) i
    · exact wpAny_bind (wpAny_mono (he 0 a b s rfl h (by rw [← h]; exact h0)) (fun r s' z => z.elim) fun _ _ x => x)
end
end LZ

set_option Elab.async false
set_option linter.all false
set_option maxRecDepth 100000
set_option maxHeartbeats 2000000
namespace LZ
open PySem
open PySem.Sem (wp)

abbrev TupAt (h : Heap) (T : Nat) (vs : Array Value) : Prop := h.get? T = some { cls := .type "tuple", data := .seq vs }
abbrev ZipObj (h : Heap) (z TI TO : Nat) (f0 : Value) (f : Bool) : Prop := h.get? z = some { cls := .type "zip", dict := none, data := .fields #[f0, .bool f, .bool false, .ref TI, .ref TO], slots := #[] }
/-- a zip ahead of a turn -/
def ZipAt (h : Heap) (z TI TO : Nat) : Prop := ∃ f0 f, ZipObj h z TI TO f0 f ∧ (f0 = .none ∨ ∃ T : Nat, f0 = rawInt T)
def itsAt (m k : Nat) : Array Value := ((List.range k).map fun j => Value.ref (m + j)).toArray
theorem itsAt_get {m k j : Nat} {v : Value} (h : (itsAt m k).toList[j]? = some v) : j < k ∧ v = .ref (m + j) := by
  unfold itsAt at h
  simp only [List.getElem?_map, List.getElem?_range] at h
  obtain ⟨a, e, rfl⟩ := Option.map_eq_some_iff.mp h
  obtain ⟨hl, rfl⟩ := List.getElem?_eq_some_iff.mp e
  simp at hl ⊢
  exact hl
theorem itsAt_len {m k : Nat} : (itsAt m k).toList.length = k := by simp [itsAt]




theorem ane {a b : Nat} (h : a = b → False) : a ≠ b := h






section
variable {prog : Program} {w : World} {A : Around} {E : Value → Shared → Prop} {s : Shared}
theorem alive_any {a : Addr} {Q : Option Obj → Shared → Prop} (h : Q (s.heap.get? a) s) : wpAny (model prog w) A (loadIfAlive a) Q E s := fun _ _ _ => h
/-- whether the tuple is free: both ways are open -/
theorem free_any {z TI TO : Addr} {f0 : Value} {f : Bool} {Q : Bool → Shared → Prop} (hz : ZipObj s.heap z TI TO f0 f) (h0 : f0 = .none ∨ ∃ T : Nat, f0 = rawInt T)
    (h1 : Q true s) (h2 : ∀ h', ZipObj h' z TI TO f0 true → (∃ T : Nat, f0 = rawInt T) → Heap.SameBut z s.heap h' → Q false { s with heap := h' }) : wpAny (model prog w) A (Builtin.SmallTypes.ownedTupleIsFree (.ref z)) Q E s := by
  unfold Builtin.SmallTypes.ownedTupleIsFree
  rcases h0 with rfl | ⟨T, rfl⟩
  · exact wpAny_bind (wpAny_field hz rfl (x := .none) rfl (wpAny_pure h1))
  · refine wpAny_bind (wpAny_field hz rfl (x := rawInt T) rfl ?_)
    show wpAny _ _ (loadIfAlive ((T : Int).toNat) >>= _) _ _ _
    rw [Int.toNat_natCast]
    refine wpAny_bind (alive_any ?_)
    cases s.heap.get? T with
    | none =>
      simp only [Option.isNone_none, if_true]
      exact wpAny_pure h1
    | some o =>
      simp only [Option.isNone_some, Bool.false_eq_true, if_false]
      refine wpAny_bind (wpAny_field hz rfl (x := .bool f) rfl ?_)
      cases f with
      | true =>
        rw [if_neg (show ¬ ((Value.bool true != Value.bool true) = true) from Bool.false_ne_true)]
        exact wpAny_pure (h2 s.heap hz ⟨T, rfl⟩ (Heap.SameBut.refl _ _))
      | false =>
        rw [if_pos (show (Value.bool false != Value.bool true) = true from rfl)]
        exact wpAny_bind (wpAny_setField_rec hz (by simp) fun h₁ hz₁ hs₁ => wpAny_pure (h2 h₁ hz₁ ⟨T, rfl⟩ hs₁))

/-- the cells of a zip that has just been made: its iterators at m, .., then the tuples, then itself -/
structure ZSt (m : Nat) (ss : List Sk) (i : Nat) (h : Heap) : Prop where
  z : ZipAt h (m + ss.length + 2) (m + ss.length) (m + ss.length + 1)
  ti : TupAt h (m + ss.length) (itsAt m ss.length)
  to : ∃ vs : Array Value, vs.size = ss.length ∧ TupAt h (m + ss.length + 1) vs
  it : ∀ (j : Nat) (sk : Sk), ss[j]? = some sk → sk.at (m + j) i h
def Outs (m k : Nat) (h h' : Heap) : Prop := ∀ (c : Nat) o, (c < m ∨ m + k + 3 ≤ c) → h.get? c = some o → h'.get? c = some o
theorem Outs.refl (m k : Nat) (h : Heap) : Outs m k h h := fun _ _ _ e => e
theorem Outs.trans {m k : Nat} {h h' h'' : Heap} (a : Outs m k h h') (b : Outs m k h' h'') : Outs m k h h'' := fun c o hc e => b c o hc (a c o hc e)
theorem Outs.ext {m k : Nat} {h h' : Heap} {x : Nat} (e : Heap.ExtBut x h h') (h1 : m ≤ x) (h2 : x < m + k + 3) : Outs m k h h' := fun c o hc q => e c o (fun z => by have z' : (c : Nat) = x := z; omega) q

/-- within a turn: j iterators have gone on -/
structure ZMid (m : Nat) (ss : List Sk) (i j : Nat) (f0 : Value) (f : Bool) (vs : Array Value) (P : Nat → Value → Prop) (h0 h : Heap) : Prop where
  z : ZipObj h (m + ss.length + 2) (m + ss.length) (m + ss.length + 1) f0 f
  ti : TupAt h (m + ss.length) (itsAt m ss.length)
  sz : vs.size = ss.length
  to : TupAt h (m + ss.length + 1) vs
  it : ∀ (j' : Nat) (sk : Sk), ss[j']? = some sk → sk.at (m + j') (if j' < j then i + 1 else i) h
  out : Outs m ss.length h0 h
  size : h.objs.size = h0.objs.size
theorem len_of {α : Type} {l : List α} {j : Nat} {a : α} (h : l[j]? = some a) : j < l.length := (List.getElem?_eq_some_iff.mp h).1
/-- one iterator goes on -/
theorem ZMid.drawn {m i j : Nat} {ss : List Sk} {f0 : Value} {f : Bool} {vs : Array Value} {P : Nat → Value → Prop} {h0 h h' : Heap} (Z : ZMid m ss i j f0 f vs P h0 h) {sk : Sk} (e : ss[j]? = some sk) (st : sk.at (m + j) (i + 1) h') (hs : Heap.SameBut (m + j : Nat) h h') :
    ZMid m ss i (j + 1) f0 f vs P h0 h' := by
  have hj := len_of e
  refine ⟨hs.extBut _ _ (by first | omega | exact ane (by intro z; omega)) Z.z, hs.extBut _ _ (by first | omega | exact ane (by intro z; omega)) Z.ti, Z.sz, hs.extBut _ _ (by first | omega | exact ane (by intro z; omega)) Z.to, fun j' sk' e' => ?_, Z.out.trans (Outs.ext hs.extBut (by first | omega | exact ane (by intro z; omega)) (by first | omega | exact ane (by intro z; omega))), hs.1.trans Z.size⟩
  by_cases hc : j' = j
  · subst hc
    rw [e] at e'
    cases e'
    rw [if_pos (show j' < j' + 1 by omega)]
    exact st
  · have q := (Z.it j' sk' e').over hs.extBut (by first | omega | exact ane (by intro z; omega))
    by_cases hl : j' < j
    · rw [if_pos (show j' < j + 1 by omega)]
      rw [if_pos hl] at q
      exact q
    · rw [if_neg (show ¬ j' < j + 1 by omega)]
      rw [if_neg hl] at q
      exact q
/-- one cell of the owned tuple is written -/
theorem ZMid.wrote {m i j : Nat} {ss : List Sk} {f0 : Value} {f : Bool} {vs vs' : Array Value} {P : Nat → Value → Prop} {h0 h h' : Heap} (Z : ZMid m ss i j f0 f vs P h0 h) (st : TupAt h' (m + ss.length + 1) vs') (sz : vs'.size = ss.length) (hs : Heap.SameBut (m + ss.length + 1 : Nat) h h') :
    ZMid m ss i j f0 f vs' P h0 h' := by
  refine ⟨hs.extBut _ _ (by first | omega | exact ane (by intro z; omega)) Z.z, hs.extBut _ _ (by first | omega | exact ane (by intro z; omega)) Z.ti, sz, st, fun j' sk' e' => ?_, Z.out.trans (Outs.ext hs.extBut (by first | omega | exact ane (by intro z; omega)) (by first | omega | exact ane (by intro z; omega))), hs.1.trans Z.size⟩
  have hj := len_of e'
  exact (Z.it j' sk' e').over hs.extBut (by first | omega | exact ane (by intro z; omega))
/-- the zip itself is written -/
theorem ZMid.own {m i j : Nat} {ss : List Sk} {f0 f1 : Value} {f f' : Bool} {vs : Array Value} {P : Nat → Value → Prop} {h0 h h' : Heap} (Z : ZMid m ss i j f0 f vs P h0 h) (st : ZipObj h' (m + ss.length + 2) (m + ss.length) (m + ss.length + 1) f1 f') (hs : Heap.SameBut (m + ss.length + 2 : Nat) h h') :
    ZMid m ss i j f1 f' vs P h0 h' := by
  refine ⟨st, hs.extBut _ _ (by first | omega | exact ane (by intro z; omega)) Z.ti, Z.sz, hs.extBut _ _ (by first | omega | exact ane (by intro z; omega)) Z.to, fun j' sk' e' => ?_, Z.out.trans (Outs.ext hs.extBut (by first | omega | exact ane (by intro z; omega)) (by first | omega | exact ane (by intro z; omega))), hs.1.trans Z.size⟩
  have hj := len_of e'
  exact (Z.it j' sk' e').over hs.extBut (by first | omega | exact ane (by intro z; omega))
theorem ZSt.mid {m i : Nat} {ss : List Sk} {h : Heap} {f0 : Value} {f : Bool} (Z : ZSt m ss i h) {vs : Array Value} (P : Nat → Value → Prop) (hz : ZipObj h (m + ss.length + 2) (m + ss.length) (m + ss.length + 1) f0 f) (sz : vs.size = ss.length) (to : TupAt h (m + ss.length + 1) vs) :
    ZMid m ss i 0 f0 f vs P h h := ⟨hz, Z.ti, sz, to, fun j sk e => by rw [if_neg (Nat.not_lt_zero j)]; exact Z.it j sk e, Outs.refl _ _ _, rfl⟩
theorem ZMid.ends {m i : Nat} {ss : List Sk} {h0 h h' : Heap} {f0 f1 : Value} {f f' : Bool} {vs : Array Value} {P : Nat → Value → Prop} (Z : ZMid m ss i ss.length f0 f vs P h0 h) (st : ZipObj h' (m + ss.length + 2) (m + ss.length) (m + ss.length + 1) f1 f')
    (hf : f1 = .none ∨ ∃ T : Nat, f1 = rawInt T) (hs : Heap.ExtBut (m + ss.length + 2 : Nat) h h') : ZSt m ss (i + 1) h' := by
  refine ⟨⟨f1, f', st, hf⟩, hs _ _ (by first | omega | exact ane (by intro z; omega)) Z.ti, ⟨vs, Z.sz, hs _ _ (by first | omega | exact ane (by intro z; omega)) Z.to⟩, fun j sk e => ?_⟩
  have hj := len_of e
  have q := (Z.it j sk e).over hs (by first | omega | exact ane (by intro z; omega))
  rw [if_pos hj] at q
  exact q
theorem gives_out {m k i : Nat} {sk : Sk} {h h' : Heap} {P : Value → Prop} (ap : ∀ c : Nat, m ≤ c → sk.apart c) (g : sk.gives h i P) (o : Outs m k h h') : sk.gives h' i P := by
  have lt : ∀ a : Nat, (∀ c : Nat, m ≤ c → a ≠ c) → a < m := fun a h => Nat.lt_of_not_le fun q => h a q rfl
  cases sk with
  | lst a =>
    obtain ⟨its, v, l, r⟩ := g
    exact ⟨its, v, l.at fun ob e => o a ob (.inl (lt a ap)) e, r⟩
  | tup a =>
    obtain ⟨its, v, l, r⟩ := g
    obtain ⟨ob, e, q⟩ := l
    exact ⟨its, v, ⟨ob, o a ob (.inl (lt a ap)) e, q⟩, r⟩
  | asc z t => exact g
  | wid z t => exact g
theorem ends_out {m k i : Nat} {sk : Sk} {h h' : Heap} (ap : ∀ c : Nat, m ≤ c → sk.apart c) (g : sk.ends h i) (o : Outs m k h h') : sk.ends h' i := by
  have lt : ∀ a : Nat, (∀ c : Nat, m ≤ c → a ≠ c) → a < m := fun a h => Nat.lt_of_not_le fun q => h a q rfl
  cases sk with
  | lst a =>
    obtain ⟨its, l, r⟩ := g
    exact ⟨its, l.at fun ob e => o a ob (.inl (lt a ap)) e, r⟩
  | tup a =>
    obtain ⟨its, l, r⟩ := g
    obtain ⟨ob, e, q⟩ := l
    exact ⟨its, ⟨ob, o a ob (.inl (lt a ap)) e, q⟩, r⟩
  | asc z t => exact g
  | wid z t => exact g
theorem zipIdx_get {α : Type} {l : List α} {j : Nat} {p : α × Nat} (h : l.zipIdx[j]? = some p) : l[j]? = some p.1 ∧ p.2 = j := by
  rw [List.getElem?_zipIdx] at h
  obtain ⟨a, e, rfl⟩ := Option.map_eq_some_iff.mp h
  exact ⟨e, by simp⟩
theorem tup_set {T k : Nat} {vs : Array Value} {x : Value} {Q : Unit → Shared → Prop} (hT : TupAt s.heap T vs) (hl : vs.size ≤ 1000)
    (h : ∀ h', TupAt h' T (vs.setIfInBounds k x) → Heap.SameBut T s.heap h' → Q () { s with heap := h' }) : wpAny (model prog w) A (updateSeq T (·.setIfInBounds k x)) Q E s := by
  refine wpAny_updateSeq hT rfl (h _ ?_ (Heap.SameBut.update ..)) (Nat.le_trans hl (by decide)) (by rw [Array.size_setIfInBounds]; exact Nat.le_trans hl (by decide))
  unfold TupAt
  rw [Heap.get?_update_self _ hT rfl]
  simp [Obj.mapSeq]

theorem zip_item {m i : Nat} {ss : List Sk} {P : Nat → Value → Prop} {Q : Value → Shared → Prop} (hk : 0 < ss.length) (hl : ss.length ≤ 1000) (ap : ∀ sk : Sk, sk ∈ ss → ∀ c : Nat, m ≤ c → sk.apart c) (Z : ZSt m ss i s.heap)
    (g : ∀ (j : Nat) (sk : Sk), ss[j]? = some sk → sk.gives s.heap i (P j))
    (hQ : ∀ vs h' tk, vs.size = ss.length → (∀ j u, vs[j]? = some u → P j u) → ZSt m ss (i + 1) h' → TupAt h' s.heap.objs.size vs → Outs m ss.length s.heap h' → Q (.ref s.heap.objs.size) { s with heap := h', toks := tk }) :
    wpAny (model prog w) A (Builtin.«zip.__next__» ⟨[.ref (m + ss.length + 2 : Nat)], []⟩) (fun fin s' => ∃ v, fin = .done (.ret v) ∧ Q v s') E s := by
  obtain ⟨hp, gg, d, tk0, os⟩ := s
  obtain ⟨f0, f, hz, hf⟩ := Z.z
  obtain ⟨vs0, sz0, to0⟩ := Z.to
  have hzl : (m + ss.length + 2 : Nat) < hp.objs.size := Heap.lt_size hz
  show wpAny _ _ (field (.ref (m + ss.length + 2 : Nat)) 2 >>= _) _ _ _
  refine wpAny_bind (wpAny_field hz rfl (x := .bool false) rfl ?_)
  show wpAny _ _ (field (.ref (m + ss.length + 2 : Nat)) 3 >>= _) _ _ _
  refine wpAny_bind (wpAny_field hz rfl (x := .ref (m + ss.length : Nat)) rfl ?_)
  refine wpAny_bind (wpAny_seqItems Z.ti rfl ?_)
  have hne : (itsAt m ss.length).isEmpty = false := by
    rw [Array.isEmpty_eq_false_iff]
    intro z
    have := itsAt_len (m := m) (k := ss.length)
    rw [z] at this
    simp at this
    omega
  simp only [hne, Bool.false_eq_true, if_false]
  refine wpAny_bind (free_any hz hf ?_ fun h1 hz1 hT hs1 => ?_)
  · -- the owned tuple
    simp only [if_true]
    refine wpAny_bind (wpAny_rule ?_)
    refine wpAny_bind (wpAny_field hz rfl (x := .ref (m + ss.length + 1 : Nat)) rfl ?_)
    refine wpAny_bind (wpAny_setField_rec hz (by simp) fun g0 hz0 hs0 => ?_)
    have M0 : ZMid m ss i 0 .ellipsis f vs0 P hp g0 := (Z.mid P hz sz0 to0).own hz0 hs0
    refine wpAny_bind ?_
    refine forIn_run (fun j b s' => b = _ ∧ ∃ h' tk vs, s' = ⟨h', gg, d, tk, os⟩ ∧ ZMid m ss i j .ellipsis f vs P hp h' ∧ ∀ j', j' < j → ∃ u, vs[j']? = some u ∧ P j' u) (j := 0) ⟨rfl, g0, tk0, vs0, rfl, M0, fun j' z => absurd z (Nat.not_lt_zero _)⟩ ?_ ?_
    · rintro n ⟨v, j⟩ b s' e ⟨rfl, h', tk, vs, rfl, M, hv⟩
      obtain ⟨e1, e2⟩ := zipIdx_get e
      obtain ⟨hj, ev⟩ := itsAt_get e1
      dsimp only at e2 ev
      subst e2 ev
      rw [Nat.zero_add] at M hv ⊢
      obtain ⟨sk, hsk⟩ : ∃ sk, ss[j]? = some sk := ⟨_, List.getElem?_eq_getElem hj⟩
      have st := M.it j sk hsk
      rw [if_neg (Nat.lt_irrefl _)] at st
      have gv := gives_out (ap sk (List.mem_of_getElem? hsk)) (g j sk hsk) M.out
      refine wpAny_bind (wpAny_onRaise ?_)
      show wpAny _ _ (Builtin.SmallTypes.nextOf (.ref (m + j : Nat)) >>= _) _ _ ⟨h', gg, d, tk, os⟩
      refine wpAny_bind (draw_item (s := ⟨h', gg, d, tk, os⟩) st gv fun u h1 tk1 pu st1 hs1 => wpAny_pure ?_)
      have M1 := M.drawn hsk st1 hs1
      refine wpAny_bind (wpAny_seqItems (s := ⟨h1, gg, d, tk1, os⟩) M1.to rfl ?_)
      refine wpAny_bind (tup_set (s := ⟨h1, gg, d, tk1, os⟩) M1.to (by rw [M1.sz]; exact hl) fun h2 hT2 hs2 => ?_)
      have M2 := M1.wrote hT2 (by rw [Array.size_setIfInBounds]; exact M1.sz) hs2
      refine wpAny_bind (wpAny_letGo (wpAny_pure ⟨_, rfl, rfl, h2, tk1, _, rfl, M2, fun j' hj' => ?_⟩))
      by_cases ej : j' = j
      · subst ej
        refine ⟨u, ?_, pu⟩
        rw [Array.getElem?_setIfInBounds, if_pos rfl, if_pos (by rw [M1.sz]; exact hj)]
      · obtain ⟨u', e', p'⟩ := hv j' (by omega)
        refine ⟨u', ?_, p'⟩
        rw [Array.getElem?_setIfInBounds, if_neg (Ne.symm ej)]
        exact e'
    · rintro b s' ⟨rfl, h', tk, vs, rfl, M, hv⟩
      rw [Nat.zero_add, List.length_zipIdx, itsAt_len] at M hv
      show wpAny _ _ (seqItems? (.ref (m + ss.length + 1 : Nat)) >>= _) _ _ _
      refine wpAny_bind (wpAny_seqItems (s := ⟨h', gg, d, tk, os⟩) M.to rfl ?_)
      refine wpAny_bind (wpAny_newTuple ?_ (by rw [Array.length_toList, M.sz]; exact Nat.le_trans hl (by decide)))
      show wpAny _ _ (Builtin.SmallTypes.ownedTupleHandOut (.ref (m + ss.length + 2 : Nat)) (.ref h'.objs.size) >>= _) _ _ _
      refine wpAny_bind ?_
      unfold Builtin.SmallTypes.ownedTupleHandOut
      have hz6 : ZipObj (h'.push { cls := .type "tuple", data := .seq vs.toList.toArray }) (m + ss.length + 2) (m + ss.length) (m + ss.length + 1) .ellipsis f := Heap.get?_push_of_some _ M.z
      refine wpAny_bind (wpAny_setField_rec hz6 (by simp) fun h7 hz7 hs7 => ?_)
      replace hz7 : ZipObj h7 (m + ss.length + 2) (m + ss.length) (m + ss.length + 1) (rawInt h'.objs.size) f := hz7
      refine wpAny_setField_rec hz7 (by simp) fun h8 hz8 hs8 => ?_
      replace hz8 : ZipObj h8 (m + ss.length + 2) (m + ss.length) (m + ss.length + 1) (rawInt h'.objs.size) false := hz8
      have up : Heap.ExtBut (m + ss.length + 2 : Nat) h' h8 := fun c o c1 e => hs8.extBut _ _ c1 (hs7.extBut _ _ c1 (Heap.get?_push_of_some _ e))
      have hsz : h'.objs.size = hp.objs.size := M.size
      have hT8 : TupAt h8 hp.objs.size vs := by
        have z : (h'.push { cls := .type "tuple", data := .seq vs.toList.toArray }).get? h'.objs.size = some { cls := .type "tuple", data := .seq vs.toList.toArray } := Heap.get?_push_size _ rfl
        rw [hsz] at z
        have z2 := hs8.extBut _ _ (show (hp.objs.size : Nat) ≠ m + ss.length + 2 by omega) (hs7.extBut _ _ (show (hp.objs.size : Nat) ≠ m + ss.length + 2 by omega) z)
        simpa using z2
      refine wpAny_pure ⟨_, rfl, ?_⟩
      show Q (.ref h'.objs.size) ⟨h8, gg, d, tk, os⟩
      rw [hsz]
      refine hQ vs h8 tk M.sz (fun j u e => ?_) (M.ends hz8 (.inr ⟨_, rfl⟩) up) hT8 (M.out.trans (Outs.ext up (by omega) (by omega)))
      obtain ⟨u', e', p'⟩ := hv j (by rw [← M.sz]; exact (Array.getElem?_eq_some_iff.mp e).1)
      rw [e] at e'
      cases e'
      exact p'
  · simp only [Bool.false_eq_true, if_false]
    have M0 : ZMid m ss i 0 f0 true vs0 P hp h1 := (Z.mid P hz sz0 to0).own hz1 hs1
    refine wpAny_bind ?_
    rw [← Array.forIn_toList]
    refine forIn_run (fun j b s' => ∃ (items : Array Value) (h' : Heap) (tk : Nat), b = (none, items) ∧ s' = ⟨h', gg, d, tk, os⟩ ∧ ZMid m ss i j f0 true vs0 P hp h' ∧ items.size = j ∧ ∀ j' u, items[j']? = some u → P j' u) (j := 0)
      ⟨#[], h1, tk0, rfl, rfl, M0, rfl, fun j' u z => by simp at z⟩ ?_ ?_
    · rintro j v b s' e ⟨items, h', tk, rfl, rfl, M, hsz, hv⟩
      obtain ⟨hj, rfl⟩ := itsAt_get e
      rw [Nat.zero_add] at M hsz ⊢
      obtain ⟨sk, hsk⟩ : ∃ sk, ss[j]? = some sk := ⟨_, List.getElem?_eq_getElem hj⟩
      have st := M.it j sk hsk
      rw [if_neg (Nat.lt_irrefl _)] at st
      have gv := gives_out (ap sk (List.mem_of_getElem? hsk)) (g j sk hsk) M.out
      refine wpAny_bind (wpAny_holding ?_)
      show wpAny _ _ (Builtin.SmallTypes.nextOf (.ref (m + j : Nat)) >>= _) _ _ ⟨h', gg, d, tk, os⟩
      refine wpAny_bind (draw_item (s := ⟨h', gg, d, tk, os⟩) st gv fun u h2 tk1 pu st1 hs2 => wpAny_pure ?_)
      have M1 := M.drawn hsk st1 hs2
      refine wpAny_pure ⟨_, rfl, items.push u, h2, tk1, rfl, rfl, M1, by rw [Array.size_push, hsz], fun j' u' e' => ?_⟩
      rw [Array.getElem?_push] at e'
      by_cases ej : j' = items.size
      · rw [if_pos ej] at e'
        cases e'
        rw [ej, hsz]
        exact pu
      · rw [if_neg ej] at e'
        exact hv j' u' e'
    · rintro b s' ⟨items, h', tk, rfl, rfl, M, hsz, hv⟩
      rw [Nat.zero_add, itsAt_len] at M hsz
      dsimp only
      refine wpAny_bind (wpAny_newTuple ?_ (by rw [Array.length_toList, hsz]; exact Nat.le_trans hl (by decide)))
      have es : h'.objs.size = hp.objs.size := M.size
      refine wpAny_pure ⟨_, rfl, ?_⟩
      show Q (.ref h'.objs.size) ⟨h'.push { cls := .type "tuple", data := .seq items.toList.toArray }, gg, d, tk, os⟩
      have up : Heap.ExtBut (m + ss.length + 2 : Nat) h' (h'.push { cls := .type "tuple", data := .seq items.toList.toArray }) := fun c o _ e => Heap.get?_push_of_some _ e
      have hT8 : TupAt (h'.push { cls := .type "tuple", data := .seq items.toList.toArray }) h'.objs.size items := by
        have z : (h'.push { cls := .type "tuple", data := .seq items.toList.toArray }).get? h'.objs.size = some { cls := .type "tuple", data := .seq items.toList.toArray } := Heap.get?_push_size _ rfl
        simpa using z
      rw [es] at hT8 ⊢
      exact hQ items _ tk hsz hv (M.ends (Heap.get?_push_of_some _ M.z) (.inr hT) up) hT8 (M.out.trans (Outs.ext up (by omega) (by omega)))

theorem zip_end {m i : Nat} {ss : List Sk} {Q : Fin → Shared → Prop} (hh : A.handled = none) (hl : ss.length ≤ 1000) (ap : ∀ sk : Sk, sk ∈ ss → ∀ c : Nat, m ≤ c → sk.apart c) (Z : ZSt m ss i s.heap)
    (j0 : Nat) (hj0 : j0 < ss.length) (g : ∀ (j : Nat) (sk : Sk), j < j0 → ss[j]? = some sk → sk.gives s.heap i (fun _ => True)) (ge : ∀ sk : Sk, ss[j0]? = some sk → sk.ends s.heap i)
    (hE : ∀ h' e tk, Outs m ss.length s.heap h' → (∃ o, h'.get? e = some o ∧ o.cls = .type "StopIteration") → E (.ref e) { s with heap := h', toks := tk }) :
    wpAny (model prog w) A (Builtin.«zip.__next__» ⟨[.ref (m + ss.length + 2 : Nat)], []⟩) Q E s := by
  obtain ⟨hp, gg, d, tk0, os⟩ := s
  obtain ⟨f0, f, hz, hf⟩ := Z.z
  obtain ⟨vs0, sz0, to0⟩ := Z.to
  have hzl : (m + ss.length + 2 : Nat) < hp.objs.size := Heap.lt_size hz
  show wpAny _ _ (field (.ref (m + ss.length + 2 : Nat)) 2 >>= _) _ _ _
  refine wpAny_bind (wpAny_field hz rfl (x := .bool false) rfl ?_)
  show wpAny _ _ (field (.ref (m + ss.length + 2 : Nat)) 3 >>= _) _ _ _
  refine wpAny_bind (wpAny_field hz rfl (x := .ref (m + ss.length : Nat)) rfl ?_)
  refine wpAny_bind (wpAny_seqItems Z.ti rfl ?_)
  have hne : (itsAt m ss.length).isEmpty = false := by
    rw [Array.isEmpty_eq_false_iff]
    intro z
    have := itsAt_len (m := m) (k := ss.length)
    rw [z] at this
    simp at this
    omega
  simp only [hne, Bool.false_eq_true, if_false]
  refine wpAny_bind (free_any hz hf ?_ fun h1 hz1 hT hs1 => ?_)
  · simp only [if_true]
    refine wpAny_bind (wpAny_rule ?_)
    refine wpAny_bind (wpAny_field hz rfl (x := .ref (m + ss.length + 1 : Nat)) rfl ?_)
    refine wpAny_bind (wpAny_setField_rec hz (by simp) fun g0 hz0 hs0 => ?_)
    have M0 : ZMid m ss i 0 .ellipsis f vs0 (fun _ _ => True) hp g0 := (Z.mid _ hz sz0 to0).own hz0 hs0
    refine wpAny_bind ?_
    refine forIn_raise (fun j b s' => b = _ ∧ ∃ h' tk vs, s' = ⟨h', gg, d, tk, os⟩ ∧ ZMid m ss i j .ellipsis f vs (fun _ _ => True) hp h') j0 (j := 0) ⟨rfl, g0, tk0, vs0, rfl, M0⟩ (Nat.zero_le _) (by rw [Nat.zero_add, List.length_zipIdx, itsAt_len]; exact hj0) ?_ ?_
    · rintro n ⟨v, j⟩ b s' e hlt ⟨rfl, h', tk, vs, rfl, M⟩
      obtain ⟨e1, e2⟩ := zipIdx_get e
      obtain ⟨hj, ev⟩ := itsAt_get e1
      dsimp only at e2 ev
      subst e2 ev
      rw [Nat.zero_add] at M hlt ⊢
      obtain ⟨sk, hsk⟩ : ∃ sk, ss[j]? = some sk := ⟨_, List.getElem?_eq_getElem hj⟩
      have st := M.it j sk hsk
      rw [if_neg (Nat.lt_irrefl _)] at st
      have gv := gives_out (ap sk (List.mem_of_getElem? hsk)) (g j sk hlt hsk) M.out
      refine wpAny_bind (wpAny_onRaise ?_)
      show wpAny _ _ (Builtin.SmallTypes.nextOf (.ref (m + j : Nat)) >>= _) _ _ ⟨h', gg, d, tk, os⟩
      refine wpAny_bind (draw_item (s := ⟨h', gg, d, tk, os⟩) st gv fun u h1 tk1 pu st1 hs1 => wpAny_pure ?_)
      have M1 := M.drawn hsk st1 hs1
      refine wpAny_bind (wpAny_seqItems (s := ⟨h1, gg, d, tk1, os⟩) M1.to rfl ?_)
      refine wpAny_bind (tup_set (s := ⟨h1, gg, d, tk1, os⟩) M1.to (by rw [M1.sz]; exact hl) fun h2 hT2 hs2 => ?_)
      have M2 := M1.wrote hT2 (by rw [Array.size_setIfInBounds]; exact M1.sz) hs2
      exact wpAny_bind (wpAny_letGo (wpAny_pure ⟨_, rfl, rfl, h2, tk1, _, rfl, M2⟩))
    · rintro n ⟨v, j⟩ b s' e hlt ⟨rfl, h', tk, vs, rfl, M⟩
      obtain ⟨e1, e2⟩ := zipIdx_get e
      obtain ⟨hj, ev⟩ := itsAt_get e1
      dsimp only at e2 ev
      subst e2 ev
      rw [Nat.zero_add] at hlt
      subst hlt
      obtain ⟨sk, hsk⟩ : ∃ sk, ss[j]? = some sk := ⟨_, List.getElem?_eq_getElem hj⟩
      have st := M.it j sk hsk
      rw [if_neg (Nat.lt_irrefl _)] at st
      have gv := ends_out (ap sk (List.mem_of_getElem? hsk)) (ge sk hsk) M.out
      refine wpAny_bind (wpAny_onRaise ?_)
      show wpAny _ _ (Builtin.SmallTypes.nextOf (.ref (m + j : Nat)) >>= _) _ _ ⟨h', gg, d, tk, os⟩
      refine wpAny_bind (draw_end (s := ⟨h', gg, d, tk, os⟩) hh st gv fun h1 ex he hx => ?_)
      obtain ⟨oe, hoe, hce⟩ := hx
      have hzq : ZipObj h1 (m + ss.length + 2) (m + ss.length) (m + ss.length + 1) .ellipsis f := he _ _ (by first | omega | exact ane (by intro z; omega)) M.z
      have hez : ex ≠ (m + ss.length + 2 : Nat) := fun x => by
        subst x
        rw [hzq] at hoe
        cases hoe
        simp at hce
      refine wpAny_setField_rec (s := ⟨h1, gg, d, tk, os⟩) hzq (by simp) fun q' _ hq' => ?_
      exact hE q' ex tk (M.out.trans ((Outs.ext he (by omega) (by omega)).trans (Outs.ext hq'.extBut (by omega) (by omega)))) ⟨oe, hq'.extBut _ _ hez hoe, hce⟩
  · simp only [Bool.false_eq_true, if_false]
    have M0 : ZMid m ss i 0 f0 true vs0 (fun _ _ => True) hp h1 := (Z.mid _ hz sz0 to0).own hz1 hs1
    refine wpAny_bind ?_
    rw [← Array.forIn_toList]
    refine forIn_raise (fun j b s' => ∃ (items : Array Value) (h' : Heap) (tk : Nat), b = (none, items) ∧ s' = ⟨h', gg, d, tk, os⟩ ∧ ZMid m ss i j f0 true vs0 (fun _ _ => True) hp h') j0 (j := 0)
      ⟨#[], h1, tk0, rfl, rfl, M0⟩ (Nat.zero_le _) (by rw [Nat.zero_add, itsAt_len]; exact hj0) ?_ ?_
    · rintro j v b s' e hlt ⟨items, h', tk, rfl, rfl, M⟩
      obtain ⟨hj, rfl⟩ := itsAt_get e
      rw [Nat.zero_add] at M hlt ⊢
      obtain ⟨sk, hsk⟩ : ∃ sk, ss[j]? = some sk := ⟨_, List.getElem?_eq_getElem hj⟩
      have st := M.it j sk hsk
      rw [if_neg (Nat.lt_irrefl _)] at st
      have gv := gives_out (ap sk (List.mem_of_getElem? hsk)) (g j sk hlt hsk) M.out
      refine wpAny_bind (wpAny_holding ?_)
      show wpAny _ _ (Builtin.SmallTypes.nextOf (.ref (m + j : Nat)) >>= _) _ _ ⟨h', gg, d, tk, os⟩
      refine wpAny_bind (draw_item (s := ⟨h', gg, d, tk, os⟩) st gv fun u h2 tk1 pu st1 hs2 => wpAny_pure ?_)
      exact wpAny_pure ⟨_, rfl, items.push u, h2, tk1, rfl, rfl, M.drawn hsk st1 hs2⟩
    · rintro n v b s' e hlt ⟨items, h', tk, rfl, rfl, M⟩
      obtain ⟨hj, rfl⟩ := itsAt_get e
      rw [Nat.zero_add] at hlt
      subst hlt
      obtain ⟨sk, hsk⟩ : ∃ sk, ss[n]? = some sk := ⟨_, List.getElem?_eq_getElem hj⟩
      have st := M.it n sk hsk
      rw [if_neg (Nat.lt_irrefl _)] at st
      have gv := ends_out (ap sk (List.mem_of_getElem? hsk)) (ge sk hsk) M.out
      refine wpAny_bind (wpAny_holding ?_)
      show wpAny _ _ (Builtin.SmallTypes.nextOf (.ref (m + n : Nat)) >>= _) _ _ ⟨h', gg, d, tk, os⟩
      refine wpAny_bind (draw_end (s := ⟨h', gg, d, tk, os⟩) hh st gv fun h2 ex he hx => ?_)
      exact hE h2 ex tk (M.out.trans (Outs.ext he (by omega) (by omega))) hx

theorem next_item {m i : Nat} {ss : List Sk} {P : Nat → Value → Prop} {Q : Option Value → Shared → Prop} (hk : 0 < ss.length) (hl : ss.length ≤ 1000) (ap : ∀ sk : Sk, sk ∈ ss → ∀ c : Nat, m ≤ c → sk.apart c) (Z : ZSt m ss i s.heap)
    (g : ∀ (j : Nat) (sk : Sk), ss[j]? = some sk → sk.gives s.heap i (P j))
    (hQ : ∀ vs h' tk, vs.size = ss.length → (∀ j u, vs[j]? = some u → P j u) → ZSt m ss (i + 1) h' → TupAt h' s.heap.objs.size vs → Outs m ss.length s.heap h' → Q (some (.ref s.heap.objs.size)) { s with heap := h', toks := tk }) :
    wpAny (model prog w) A (pyNext (.ref (m + ss.length + 2 : Nat))) Q E s := by
  have hT : s.TypeIs (.ref (m + ss.length + 2 : Nat)) "zip" := let ⟨f0, f, hz, _⟩ := Z.z; ⟨_, hz, rfl⟩
  unfold pyNext
  exact wpAny_bind (wpAny_attempt (wpAny_callSpecial?_slot (name := Str.ofString "__next__") hT F.slot_zip_next
    (wpAny_call_entry F.slot_zip_next hT F.entry_zip_next (zip_item hk hl ap Z g fun vs h' tk a b c d e => wpAny_pure (hQ vs h' tk a b c d e)) (F.args_zip_next_1 _))))
theorem next_end {m i : Nat} {ss : List Sk} {Q : Option Value → Shared → Prop} (hh : A.handled = none) (hl : ss.length ≤ 1000) (ap : ∀ sk : Sk, sk ∈ ss → ∀ c : Nat, m ≤ c → sk.apart c) (Z : ZSt m ss i s.heap)
    (j0 : Nat) (hj0 : j0 < ss.length) (g : ∀ (j : Nat) (sk : Sk), j < j0 → ss[j]? = some sk → sk.gives s.heap i (fun _ => True)) (ge : ∀ sk : Sk, ss[j0]? = some sk → sk.ends s.heap i)
    (hQ : ∀ h' tk, Outs m ss.length s.heap h' → Q none { s with heap := h', toks := tk }) :
    wpAny (model prog w) A (pyNext (.ref (m + ss.length + 2 : Nat))) Q E s := by
  have hT : s.TypeIs (.ref (m + ss.length + 2 : Nat)) "zip" := let ⟨f0, f, hz, _⟩ := Z.z; ⟨_, hz, rfl⟩
  unfold pyNext
  refine wpAny_bind (wpAny_attempt (wpAny_callSpecial?_slot (name := Str.ofString "__next__") hT F.slot_zip_next
    (wpAny_call_entry F.slot_zip_next hT F.entry_zip_next (zip_end hh hl ap Z j0 hj0 g ge fun h' e tk hk he => ?_) (F.args_zip_next_1 _))))
  obtain ⟨o, ho, hc⟩ := he
  refine wpAny_bind (wpAny_isInstance (T := "StopIteration") (b := true) ⟨o, ho, hc⟩ isSubtype_stop ?_)
  exact wpAny_pure (hQ _ _ hk)
/-- ahead of the store: the tuple that is unpacked is let go -/
theorem zip_go {tg : Expr} {m i : Nat} {ss : List Sk} {T : Addr} {Q : Unit → Shared → Prop} (Z : ZSt m ss i s.heap)
    (hQ : ∀ h', ZSt m ss i h' → Heap.SameBut (m + ss.length + 2 : Nat) s.heap h' → Q () { s with heap := h' }) : wpAny (model prog w) A (letOwnedTupleGo tg (.ref (m + ss.length + 2 : Nat)) (.ref T)) Q E s := by
  obtain ⟨f0, f, hz, hf⟩ := Z.z
  have q0 : Q () s := hQ s.heap Z (Heap.SameBut.refl _ _)
  have q1 : wpAny (model prog w) A (do
      let o ← load (m + ss.length + 2 : Nat)
      match o.cls, o.data with
      | .type n, .fields vs =>
        if ["enumerate", "zip", "dict_itemiterator", "dict_reverseitemiterator", "odict_iterator", "itertools.zip_longest", "itertools.pairwise"].contains n && vs[0]? == some (rawInt T) then
          rule "for.unpacks-the-owned-tuple"
          updateField (m + ss.length + 2 : Nat) 0 .none
      | _, _ => pure ()) Q E s := by
    refine wpAny_bind (wpAny_load hz ?_)
    show wpAny _ _ (if (true && (#[f0, Value.bool f, .bool false, .ref (m + ss.length : Nat), .ref (m + ss.length + 1 : Nat)] : Array Value)[0]? == some (rawInt T)) = true then _ else _) _ _ _
    by_cases hc : (true && (#[f0, Value.bool f, .bool false, .ref (m + ss.length : Nat), .ref (m + ss.length + 1 : Nat)] : Array Value)[0]? == some (rawInt T)) = true
    · rw [if_pos hc]
      refine wpAny_bind (wpAny_rule ?_)
      show wpAny _ _ (setField (.ref (m + ss.length + 2 : Nat)) 0 .none) Q E s
      refine wpAny_setField_rec hz (by simp) fun h' hz' hs' => hQ h' ?_ hs'
      refine ⟨⟨.none, f, hz', .inl rfl⟩, hs'.extBut _ _ (by first | omega | exact ane (by intro z; omega)) Z.ti, ?_, fun j sk e => ?_⟩
      · obtain ⟨vs, sz, to⟩ := Z.to
        exact ⟨vs, sz, hs'.extBut _ _ (by first | omega | exact ane (by intro z; omega)) to⟩
      · have hj := len_of e
        exact (Z.it j sk e).over hs'.extBut (by first | omega | exact ane (by intro z; omega))
    · rw [if_neg hc]
      exact wpAny_pure q0
  unfold letOwnedTupleGo
  cases tg <;> first
    | exact wpAny_pure q0
    | exact q1
end
end LZ

set_option Elab.async false
set_option linter.all false
set_option maxRecDepth 100000
set_option maxHeartbeats 2000000
namespace LZ
open PySem
open PySem.Sem (wp)
theorem typeCall_zip (us : List Value) : checkTypeCall "zip" ⟨us, []⟩ = pure () := by kernel_rfl
theorem newCall_zip (a : Value) (us : List Value) : checkBuiltinCall "zip.__new__" ⟨.type "zip" :: a :: us, []⟩ = pure () := by kernel_rfl
theorem args_init (a : Value) (us : List Value) : argsOk "object.__init__" ⟨a :: us, []⟩ := by
  unfold argsOk; rw [signature?_of (id := "object.__init__") (n := ['_', '_', 't', 'i', 'n', 'i', '_', '_']) (o := ['t', 'c', 'e', 'j', 'b', 'o']) (by kernel_rfl) F.owner_object]; kernel_rfl
/-- the value that is iterated over -/
def Sk.of : Sk → Value → Heap → Prop
  | .lst a, v, h => v = .ref a ∧ ∃ its, h.IsList a its
  | .tup a, v, h => v = .ref a ∧ ∃ its, h.IsTuple a its
  | .asc x t, v, _ => v = .str x t ∧ x.cps.all (· < 128) = true
  | .wid x t, v, _ => v = .str x t ∧ x.cps.all (· < 128) = false
theorem Sk.of.over {sk : Sk} {v : Value} {h h' : Heap} (p : sk.of v h) (k : ∀ c o, h.get? c = some o → h'.get? c = some o) : sk.of v h' := by
  cases sk with
  | lst a => exact let ⟨e, its, l⟩ := p; ⟨e, its, l.at fun o q => k _ o q⟩
  | tup a => exact let ⟨e, its, ⟨o, q, r⟩⟩ := p; ⟨e, its, ⟨o, k _ o q, r⟩⟩
  | asc z t => exact p
  | wid z t => exact p
section
variable {prog : Program} {w : World} {A : Around} {E : Value → Shared → Prop} {s : Shared}
theorem iter_any {sk : Sk} {v : Value} {Q : Value → Shared → Prop} (p : sk.of v s.heap) (h : ∀ o : Obj, sk.at s.heap.objs.size 0 (s.heap.push o) → (s.heap.push o).objs.size = s.heap.objs.size + 1 → Q (.ref s.heap.objs.size) { s with heap := s.heap.push o }) :
    wpAny (model prog w) A (pyIter v) Q E s := by
  have sz : ∀ o : Obj, (s.heap.push o).objs.size = s.heap.objs.size + 1 := fun o => Heap.size_push ..
  cases sk with
  | lst a =>
    obtain ⟨rfl, its, l⟩ := p
    exact wpAny_pyIter_list l (h _ ⟨_, Heap.get?_push_size _ rfl, rfl, rfl⟩ (sz _))
  | tup a =>
    obtain ⟨rfl, its, l⟩ := p
    exact wpAny_pyIter_tuple l (h _ ⟨_, Heap.get?_push_size _ rfl, rfl, rfl⟩ (sz _))
  | asc z t =>
    obtain ⟨rfl, l⟩ := p
    exact wpAny_pyIter_ascii l (h _ ⟨_, Heap.get?_push_size _ rfl, rfl, rfl⟩ (sz _))
  | wid z t =>
    obtain ⟨rfl, l⟩ := p
    exact wpAny_pyIter_wide l (h _ ⟨_, Heap.get?_push_size _ rfl, rfl, rfl⟩ (sz _))
theorem itsAt_push (m k : Nat) : (itsAt m k).push (.ref (m + k : Nat)) = itsAt m (k + 1) := by
  unfold itsAt
  rw [List.range_succ, List.map_append]
  simp
theorem iterAll_any {ss : List Sk} {us : List Value} {Q : List Value → Shared → Prop} (hl : ss.length = us.length) (hp : ∀ (j : Nat) (sk : Sk) v, ss[j]? = some sk → us[j]? = some v → sk.of v s.heap)
    (h : ∀ h', h'.objs.size = s.heap.objs.size + ss.length → (∀ (j : Nat) (sk : Sk), ss[j]? = some sk → sk.at (s.heap.objs.size + j) 0 h') → (∀ c o, s.heap.get? c = some o → h'.get? c = some o) → Q (itsAt s.heap.objs.size ss.length).toList { s with heap := h' }) :
    wpAny (model prog w) A (Builtin.SmallTypes.iterAll us) Q E s := by
  obtain ⟨hp0, gg, d, tk0, os⟩ := s
  unfold Builtin.SmallTypes.iterAll
  refine wpAny_bind ?_
  refine forIn_run (fun j b s' => b = itsAt hp0.objs.size j ∧ ∃ h', s' = ⟨h', gg, d, tk0, os⟩ ∧ h'.objs.size = hp0.objs.size + j ∧ (∀ c o, hp0.get? c = some o → h'.get? c = some o) ∧ ∀ (j' : Nat) (sk : Sk), j' < j → ss[j']? = some sk → sk.at (hp0.objs.size + j') 0 h') (j := 0)
    ⟨rfl, hp0, rfl, rfl, fun _ _ e => e, fun j' sk z => absurd z (Nat.not_lt_zero _)⟩ ?_ ?_
  · rintro j v b s' e ⟨rfl, h', rfl, hsz, hk, ha⟩
    rw [Nat.zero_add] at hsz ha ⊢
    have hj : j < ss.length := by rw [hl]; exact len_of e
    obtain ⟨sk, hsk⟩ : ∃ sk, ss[j]? = some sk := ⟨_, List.getElem?_eq_getElem hj⟩
    refine wpAny_bind (wpAny_holding (iter_any (sk := sk) (s := ⟨h', gg, d, tk0, os⟩) ((hp j sk v hsk e).over hk) fun o st sz => wpAny_pure ⟨_, rfl, ?_, h'.push o, rfl, ?_, fun c ob q => Heap.get?_push_of_some _ (hk c ob q), fun j' sk' hj' e' => ?_⟩))
    · show (itsAt hp0.objs.size j).push (.ref h'.objs.size) = _
      rw [hsz]
      exact itsAt_push _ _
    · rw [sz]
      show h'.objs.size + 1 = _
      rw [hsz]
      omega
    · by_cases ej : j' = j
      · subst ej
        rw [hsk] at e'
        cases e'
        rw [← hsz]
        exact st
      · have q := ha j' sk' (by omega) e'
        have lt : hp0.objs.size + j' ≠ h'.objs.size := by rw [hsz]; omega
        exact q.over (x := h'.objs.size) (fun c ob _ z => Heap.get?_push_of_some _ z) lt
  · rintro b s' ⟨rfl, h', rfl, hsz, hk, ha⟩
    rw [Nat.zero_add, ← hl] at hsz ha ⊢
    exact wpAny_pure (h h' hsz (fun j sk e => ha j sk (len_of e) e) hk)
theorem size_itsAt {m k : Nat} : (itsAt m k).size = k := by simp [itsAt]
theorem meets_zip {ss : List Sk} (us : List Value) :
    Meets (Builtin.«zip.__new__» ⟨.type "zip" :: us, []⟩) (fun _ R s => (ss.length = us.length ∧ ss.length ≤ 1000) ∧ (∀ (j : Nat) (sk : Sk) v, ss[j]? = some sk → us[j]? = some v → sk.of v s.heap) ∧
      ∀ h', ZSt s.heap.objs.size ss 0 h' → (∀ c o, s.heap.get? c = some o → h'.get? c = some o) → R (.ok (.ret (.ref (s.heap.objs.size + ss.length + 2 : Nat)))) { s with heap := h' }) :=
  .of_wp fun prog w A R s h => by
    obtain ⟨⟨hl, h1000⟩, hp, h⟩ := h
    obtain ⟨hp0, gg, d, tk0, os⟩ := s
    have hsub := sub_zip
    have e0 : Builtin.SmallTypes.newClass "zip" ⟨.type "zip" :: us, []⟩ = pure (.type "zip", us) := by
      unfold Builtin.SmallTypes.newClass
      simp only [show isType (.type "zip") = pure true from rfl, pure_bind, hsub]
      rfl
    unfold Builtin.«zip.__new__»
    refine wpAny_bind (wpAny_of_eq e0 ?_)
    dsimp only
    refine wpAny_bind (iterAll_any (s := ⟨hp0, gg, d, tk0, os⟩) hl hp fun h' hsz ha hk => ?_)
    refine wpAny_bind (wpAny_newTuple ?_ (by rw [Array.length_toList, size_itsAt]; exact Nat.le_trans h1000 (by decide)))
    refine wpAny_bind (wpAny_newTuple ?_ (by rw [List.length_map, Array.length_toList, size_itsAt]; exact Nat.le_trans h1000 (by decide)))
    show wpAny _ _ (newObj (.type "zip") (.fields #[.none, .bool false, .bool false, _, _]) >>= _) _ _ _
    refine wpAny_bind (wpAny_newObj_type (wpAny_pure ⟨_, rfl, ?_⟩) (by size_fits))
    have s1 : ∀ o : Obj, (h'.push o).objs.size = hp0.objs.size + ss.length + 1 := fun o => by rw [Heap.size_push, hsz]
    have s2 : ∀ o o2 : Obj, ((h'.push o).push o2).objs.size = hp0.objs.size + ss.length + 2 := fun o o2 => by rw [Heap.size_push, s1]
    have k3 : ∀ (o o2 o3 : Obj) c ob, h'.get? c = some ob → (((h'.push o).push o2).push o3).get? c = some ob := fun o o2 o3 c ob q => Heap.get?_push_of_some _ (Heap.get?_push_of_some _ (Heap.get?_push_of_some _ q))
    have g3 : ∀ o o2 o3 : Obj, o3.isFreed = false → (((h'.push o).push o2).push o3).get? (hp0.objs.size + ss.length + 2 : Nat) = some o3 := fun o o2 o3 hf => by
      rw [← s2 o o2]
      exact Heap.get?_push_size _ hf
    have g2 : ∀ o o2 o3 : Obj, o2.isFreed = false → (((h'.push o).push o2).push o3).get? (hp0.objs.size + ss.length + 1 : Nat) = some o2 := fun o o2 o3 hf => by
      refine Heap.get?_push_of_some _ ?_
      rw [← s1 o]
      exact Heap.get?_push_size _ hf
    have g1 : ∀ o o2 o3 : Obj, o.isFreed = false → (((h'.push o).push o2).push o3).get? (hp0.objs.size + ss.length : Nat) = some o := fun o o2 o3 hf => by
      refine Heap.get?_push_of_some _ (Heap.get?_push_of_some _ ?_)
      rw [← hsz]
      exact Heap.get?_push_size _ hf
    have r := h (((h'.push { cls := .type "tuple", data := .seq (itsAt hp0.objs.size ss.length).toList.toArray }).push { cls := .type "tuple", data := .seq ((itsAt hp0.objs.size ss.length).toList.map fun _ => Value.none).toArray }).push
      { cls := .type "zip", data := .fields #[.none, .bool false, .bool false, .ref (hp0.objs.size + ss.length : Nat), .ref (hp0.objs.size + ss.length + 1 : Nat)] })
      ⟨⟨.none, false, g3 _ _ _ rfl, .inl rfl⟩, by have z := g1 { cls := .type "tuple", data := .seq (itsAt hp0.objs.size ss.length).toList.toArray } { cls := .type "tuple", data := .seq ((itsAt hp0.objs.size ss.length).toList.map fun _ => Value.none).toArray } { cls := .type "zip", data := .fields #[.none, .bool false, .bool false, .ref (hp0.objs.size + ss.length : Nat), .ref (hp0.objs.size + ss.length + 1 : Nat)] } rfl; simpa using z,
        ⟨_, by rw [List.size_toArray, List.length_map, Array.length_toList, size_itsAt], g2 _ _ _ rfl⟩, fun j sk e => (ha j sk e).over (x := (hp0.objs.size + ss.length : Nat)) (fun c ob _ q => k3 _ _ _ c ob q) (by have := len_of e; show (hp0.objs.size + j : Nat) ≠ _; omega)⟩
      (fun c o q => k3 _ _ _ c o (hk c o q))
    simp only [s1, s2, hsz]
    exact r
theorem call_zipN {ss : List Sk} {us : List Value} {Q : Value → Shared → Prop} (hl : ss.length = us.length) (h0 : 0 < ss.length) (h1000 : ss.length ≤ 1000) (hp : ∀ (j : Nat) (sk : Sk) v, ss[j]? = some sk → us[j]? = some v → sk.of v s.heap)
    (h : ∀ h', ZSt s.heap.objs.size ss 0 h' → (∀ c o, s.heap.get? c = some o → h'.get? c = some o) → Q (.ref (s.heap.objs.size + ss.length + 2 : Nat)) { s with heap := h' }) :
    wpAny (model prog w) A (call (.type "zip") us) Q E s := by
  obtain ⟨u, us', rfl⟩ : ∃ u us', us = u :: us' := by
    cases us with
    | nil => rw [List.length_nil] at hl; omega
    | cons u us' => exact ⟨u, us', rfl⟩
  refine callType_new F.called_zip (by decide) (typeCall_zip _) (newCall_zip _ _) (fun obj => args_init obj _) F.entry_zip_new (meets_zip (ss := ss) _) ⟨⟨hl, h1000⟩, hp, fun h' Z k => ?_⟩
  obtain ⟨f0, f, hz, _⟩ := id Z.z
  exact ⟨⟨_, hz, rfl⟩, h h' Z k⟩
theorem iter_zip {m i : Nat} {ss : List Sk} {Q : Value → Shared → Prop} (Z : ZSt m ss i s.heap) (h : Q (.ref (m + ss.length + 2 : Nat)) s) : wpAny (model prog w) A (pyIter (.ref (m + ss.length + 2 : Nat))) Q E s := by
  have hT : s.TypeIs (.ref (m + ss.length + 2 : Nat)) "zip" := let ⟨f0, f, hz, _⟩ := Z.z; ⟨_, hz, rfl⟩
  refine wpAny_pyIter_slot hT F.slot_zip_iter (wpAny_call_entry F.slot_zip_iter hT F.entry_zip_iter ?_ (F.args_zip_iter_1 _))
  show wpAny _ _ (ret (.ref (m + ss.length + 2 : Nat))) _ _ s
  exact wpAny_pure ⟨_, rfl, "zip", _, hT, F.slot_zip_next.lookup, h⟩
end
end LZ

set_option Elab.async false
set_option linter.all false
set_option maxRecDepth 100000
set_option maxHeartbeats 2000000
/-! ZN3: zip of any number of lists, tuples and texts, in for and comprehensions, any target; zip( *e). -/
namespace LZ
open PySem PySem.Spec L2 LP
open PyProof.Rows hiding St signs

inductive Sv
  | lst (a : Addr)
  | tup (a : Addr)
  | str (x : Str)
def Sv.v : Sv → V
  | .lst a => .ref a
  | .tup a => .ref a
  | .str x => .str x
def Sv.has (K : PySem.W.Frag) (H : Hp) : Sv → List V → Prop
  | .lst a, xs => SqL K H a xs
  | .tup a, xs => SqT K H a xs
  | .str x, xs => xs = signs x
inductive Skv : Sv → Sk → Prop
  | lst (a : Addr) : Skv (.lst a) (.lst a)
  | tup (a : Addr) : Skv (.tup a) (.tup a)
  | asc (x : Str) (t : Tok) : Skv (.str x) (.asc x t)
  | wid (x : Str) (t : Tok) : Skv (.str x) (.wid x t)
theorem sign_at {x : Str} {i : Nat} {v : V} (h : (signs x)[i]? = some v) : ∃ c, x.cps[i]? = some c ∧ v = .str ⟨#[c]⟩ := by
  unfold signs at h
  rw [List.getElem?_map] at h
  obtain ⟨c, e, rfl⟩ := Option.map_eq_some_iff.mp h
  exact ⟨c, by simpa using e, rfl⟩
theorem sign_len (x : Str) : (signs x).length = x.cps.size := by simp [signs]
section
variable {X : Cx} {pins : List (Addr × Obj)} {σ : L2.St} {H : Hp} {s : Shared} {sv : Sv} {sk : Sk} {xs ys : List V} {i : Nat}
theorem sv_gives (I : Inv X pins σ H s) (r : Skv sv sk) (h : sv.has X.K H xs) {x : V} (e : xs[i]? = some x) : sk.gives s.heap i (fun u => RelV x u) := by
  cases r with
  | lst a =>
    obtain ⟨its, rv, p, _⟩ := I.list h
    obtain ⟨u, hu, ru⟩ := rv.get e
    exact ⟨_, u, p.isList, by simpa using hu, ru⟩
  | tup a =>
    obtain ⟨its, rv, p, _⟩ := I.tuple h
    obtain ⟨u, hu, ru⟩ := rv.get e
    exact ⟨_, u, p, by simpa using hu, ru⟩
  | asc x t =>
    cases (show xs = signs x from h)
    obtain ⟨c, q, rfl⟩ := sign_at e
    exact ⟨c, q, fun u => ⟨u, rfl⟩⟩
  | wid x t =>
    cases (show xs = signs x from h)
    obtain ⟨c, q, rfl⟩ := sign_at e
    exact ⟨c, q, fun u => ⟨u, rfl⟩⟩
theorem sv_ends (I : Inv X pins σ H s) (r : Skv sv sk) (h : sv.has X.K H xs) (e : xs.length ≤ i) : sk.ends s.heap i := by
  cases r with
  | lst a =>
    obtain ⟨its, rv, p, _⟩ := I.list h
    have l := rv.length
    exact ⟨_, p.isList, by simp; omega⟩
  | tup a =>
    obtain ⟨its, rv, p, _⟩ := I.tuple h
    have l := rv.length
    exact ⟨_, p, by simp; omega⟩
  | asc x t =>
    cases (show xs = signs x from h)
    rw [sign_len] at e
    exact Array.getElem?_eq_none e
  | wid x t =>
    cases (show xs = signs x from h)
    rw [sign_len] at e
    exact Array.getElem?_eq_none e
theorem sv_inj (I : Inv X pins σ H s) (h : sv.has X.K H xs) (h' : sv.has X.K H ys) : xs = ys := by
  cases sv with
  | lst a => exact I.list_inj h h'
  | tup a => exact I.tuple_inj h h'
  | str x => exact h.trans h'.symm
theorem sv_of (I : Inv X pins σ H s) (h : sv.has X.K H xs) {u : Value} (ru : RelV sv.v u) : ∃ sk, Skv sv sk ∧ sk.of u s.heap ∧ ∀ c : Nat, s.heap.objs.size ≤ c → sk.apart c := by
  cases sv with
  | lst a =>
    cases ru
    obtain ⟨its, rv, p, _⟩ := I.list h
    refine ⟨.lst a, .lst a, ⟨rfl, _, p.isList⟩, fun c hc z => ?_⟩
    exact Nat.ne_of_lt (Nat.lt_of_lt_of_le p.lt hc) z
  | tup a =>
    cases ru
    obtain ⟨its, rv, p, _⟩ := I.tuple h
    obtain ⟨o, ho, _⟩ := id p
    refine ⟨.tup a, .tup a, ⟨rfl, _, p⟩, fun c hc z => ?_⟩
    exact Nat.ne_of_lt (Nat.lt_of_lt_of_le (Heap.lt_size ho) hc) z
  | str x =>
    obtain ⟨t, rfl⟩ := ru
    cases ha : x.cps.all (· < 128)
    · exact ⟨.wid x t, .wid x t, ⟨rfl, ha⟩, fun _ _ => True.intro⟩
    · exact ⟨.asc x t, .asc x t, ⟨rfl, ha⟩, fun _ _ => True.intro⟩
end
/-- one for each -/
theorem pick_each {α β : Type} {P : Nat → β → Prop} : ∀ {l : List α}, (∀ (j : Nat) a, l[j]? = some a → ∃ b, P j b) → ∃ bs : List β, bs.length = l.length ∧ ∀ (j : Nat) b, bs[j]? = some b → P j b
  | [], _ => ⟨[], rfl, fun j b z => by simp at z⟩
  | a :: l, h => by
    obtain ⟨b, hb⟩ := h 0 a rfl
    obtain ⟨bs, hl, hp⟩ := pick_each (P := fun j b => P (j + 1) b) (l := l) fun j a e => h (j + 1) a e
    refine ⟨b :: bs, by rw [List.length_cons, List.length_cons, hl], fun j c e => ?_⟩
    cases j with
    | zero => cases e; exact hb
    | succ j => exact hp j c e
theorem vals_each : ∀ {xs : List V} {us : List Value}, xs.length = us.length → (∀ (j : Nat) x u, xs[j]? = some x → us[j]? = some u → RelV x u) → Vals xs us
  | [], [], _, _ => .nil
  | x :: xs, u :: us, hl, h => .cons (h 0 x u rfl rfl) (vals_each (by simpa using hl) fun j x u e1 e2 => h (j + 1) x u e1 e2)
  | [], u :: us, hl, _ => by simp at hl
  | x :: xs, [], hl, _ => by simp at hl

/-- the things as they stand at each turn, their items in a new tuple -/
def ItzN (K : PySem.W.Frag) (ss : List Sv) : It :=
  ⟨fun i H => ∀ (j : Nat) (s : Sv), ss[j]? = some s → ∃ xs x, s.has K H xs ∧ xs[i]? = some x,
    fun i H v H' => ∃ T xs, v = .ref T ∧ H T = none ∧ H' = upd H T (.tup xs) ∧ xs.length = ss.length ∧ ∀ (j : Nat) (s : Sv) ys, ss[j]? = some s → s.has K H ys → xs[j]? = ys[i]?,
    fun i H => ∃ j0, j0 < ss.length ∧ (∀ s : Sv, ss[j0]? = some s → ∃ xs, s.has K H xs ∧ xs.length ≤ i) ∧ ∀ (j : Nat) (s : Sv), j < j0 → ss[j]? = some s → ∃ xs x, s.has K H xs ∧ xs[i]? = some x⟩
def cellsOf (m k : Nat) : List Addr := (List.range (k + 3)).map (m + ·)
theorem mem_cells {m k : Nat} {c : Addr} : c ∈ cellsOf m k ↔ ∃ j : Nat, j < k + 3 ∧ c = m + j := by
  unfold cellsOf
  simp only [List.mem_map, List.mem_range]
  exact ⟨fun ⟨a, h, e⟩ => ⟨a, h, e.symm⟩, fun ⟨a, h, e⟩ => ⟨a, h, e.symm⟩⟩
theorem turn_zipN {P : Program} {w : World} {K : PySem.W.Frag} {tg : Expr} {m : Nat} {ss : List Sv} {ks : List Sk} (hl : ss.length = ks.length) (h0 : 0 < ks.length) (h1000 : ks.length ≤ 1000)
    (hr : ∀ (j : Nat) sv sk, ss[j]? = some sv → ks[j]? = some sk → Skv sv sk) (ap : ∀ sk : Sk, sk ∈ ks → ∀ c : Nat, m ≤ c → sk.apart c) :
    Turn P w K tg (ItzN K ss) (cellsOf m ks.length) (m + ks.length + 2 : Nat) (fun i h => ZSt m ks i h) where
  mem := mem_cells.mpr ⟨ks.length + 2, by omega, by show (_ : Nat) = _; omega⟩
  obj := fun i h st c hc => by
    obtain ⟨j, hj, rfl⟩ := mem_cells.mp hc
    by_cases h1 : j < ks.length
    · exact (st.it j _ (List.getElem?_eq_getElem h1)).obj
    · by_cases h2 : j = ks.length
      · subst h2
        exact ⟨_, st.ti, fun v q => nomatch q⟩
      · by_cases h3 : j = ks.length + 1
        · subst h3
          obtain ⟨vs, _, to⟩ := st.to
          exact ⟨_, to, fun v q => nomatch q⟩
        · obtain rfl : j = ks.length + 2 := by omega
          obtain ⟨f0, f, hz, _⟩ := st.z
          exact ⟨_, hz, fun v q => nomatch q⟩
  keep := fun i h h' st k => by
    have kk : ∀ j : Nat, j < ks.length + 3 → ∀ o, h.get? (m + j : Nat) = some o → h'.get? (m + j : Nat) = some o := fun j hj o e => k _ (mem_cells.mpr ⟨j, hj, rfl⟩) o e
    obtain ⟨f0, f, hz, hf⟩ := st.z
    obtain ⟨vs, sz, to⟩ := st.to
    refine ⟨⟨f0, f, kk (ks.length + 2) (by omega) _ hz, hf⟩, kk ks.length (by omega) _ st.ti, ⟨vs, sz, kk (ks.length + 1) (by omega) _ to⟩, fun j sk e => ?_⟩
    have hj := len_of e
    have q := st.it j sk e
    obtain ⟨o, ho, _⟩ := q.obj
    refine q.over' fun o e => kk j (by omega) o e
  item := by
    intro X hP hw hK hc i pins s σ H E I hf st hg
    subst hP hw hK
    obtain ⟨xs, hxl, hxs⟩ := pick_each (l := ss) (P := fun j x => ∀ sv : Sv, ss[j]? = some sv → ∃ ys, sv.has X.K H ys ∧ ys[i]? = some x) fun j a e => by
      obtain ⟨ys, x, h1, h2⟩ := hg j a e
      exact ⟨x, fun sv e' => by rw [e] at e'; cases e'; exact ⟨ys, h1, h2⟩⟩
    refine next_item (P := fun j u => ∀ x, xs[j]? = some x → RelV x u) h0 h1000 ap st (fun j sk e => ?_) fun vs h' tk hvs hp Z hT out => ?_
    · have hj : j < ss.length := by rw [hl]; exact len_of e
      have e1 : ss[j]? = some ss[j] := List.getElem?_eq_getElem hj
      have hj2 : j < xs.length := by omega
      have e2 : xs[j]? = some xs[j] := List.getElem?_eq_getElem hj2
      obtain ⟨ys, h1, h2⟩ := hxs j _ e2 _ e1
      have g := sv_gives I (hr j _ _ e1 e) h1 h2
      have mono : ∀ {sk : Sk} {P Q : Value → Prop}, (∀ u, P u → Q u) → sk.gives s.heap i P → sk.gives s.heap i Q := fun {sk P Q} hpq g => by
        cases sk with
        | lst a => obtain ⟨its, v, l, e, p⟩ := g; exact ⟨its, v, l, e, hpq _ p⟩
        | tup a => obtain ⟨its, v, l, e, p⟩ := g; exact ⟨its, v, l, e, hpq _ p⟩
        | asc z t => obtain ⟨c, e, p⟩ := g; exact ⟨c, e, fun u => hpq _ (p u)⟩
        | wid z t => obtain ⟨c, e, p⟩ := g; exact ⟨c, e, fun u => hpq _ (p u)⟩
      refine mono (fun u ru x ex => ?_) g
      rw [e2] at ex
      cases ex
      exact ru
    · refine ⟨_, rfl, zip_go (s := { s with heap := h', toks := tk }) Z fun h'' Z' sb => ?_⟩
      have hzl : (m + ks.length + 2 : Nat) < s.heap.objs.size := by
        obtain ⟨f0, f, hz, _⟩ := st.z
        exact Heap.lt_size hz
      have hT2 : TupAt h'' s.heap.objs.size vs := (sb.2 _ (Nat.ne_of_gt hzl)).trans hT
      have hlen : xs.length = vs.toList.length := (hxl.trans (hl.trans hvs.symm)).trans Array.length_toList.symm
      have rv : Vals xs vs.toList := vals_each hlen fun j x u e1 e2 => hp j u (by simpa using e2) x e1
      have new : ObjOk X.prog X.w (upd H s.heap.objs.size (.tup xs)) h'' s.heap.objs.size (.tup xs) :=
        ⟨by rw [hxl, hl]; exact Nat.le_trans h1000 (by decide), vs.toList, rv, ⟨_, hT2, rfl, 0, by simp⟩⟩
      have I1 : Inv X pins σ (upd H s.heap.objs.size (.tup xs)) { s with heap := h'', toks := tk } :=
        I.turnedNew (t' := tk) (ch := cellsOf m ks.length) (fun (c : Nat) o hb q => by
          have no : ∀ j : Nat, j < ks.length + 3 → c ≠ m + j := fun j hj z => hb (mem_cells.mpr ⟨j, hj, z⟩)
          refine (sb.2 c (no (ks.length + 2) (by omega))).trans (out c o ?_ q)
          by_cases hcm : c < m
          · exact .inl hcm
          · by_cases hcm2 : c < m + ks.length + 3
            · refine absurd ?_ (no (c - m) (by omega))
              show (c : Nat) = m + (c - m)
              omega
            · exact .inr (by omega)) hf (Nat.le_refl _) new
      refine ⟨.ref s.heap.objs.size, _, I1, rfl, ⟨_, xs, rfl, I.hok.fresh (Nat.le_refl _), rfl, hxl, fun j sv ys e1 e2 => ?_⟩, Z', fun c hcm => ?_⟩
      · have hj2 : j < xs.length := by rw [hxl]; exact len_of e1
        have e3 : xs[j]? = some xs[j] := List.getElem?_eq_getElem hj2
        obtain ⟨ys', h1, h2⟩ := hxs j _ e3 _ e1
        rw [sv_inj I e2 h1, h2, e3]
      · have hlt : c < s.heap.objs.size := by
          obtain ⟨j, hj, rfl⟩ := mem_cells.mp hcm
          show m + j < _
          omega
        rw [upd_ne (Nat.ne_of_lt hlt)]
        exact (hf c hcm).1
  done := by
    intro X hP hw hK hc i pins s σ H E I hf st hg
    subst hP hw hK
    obtain ⟨j0, hj0, he, hg⟩ := hg
    refine next_end (I.ok.hd hc) h1000 ap st j0 (by omega) (fun j sk hj e => ?_) (fun sk e => ?_) fun h' tk out => ⟨rfl, I.turnedL (t' := tk) (ch := cellsOf m ks.length) (fun (c : Nat) o hb q => ?_) hf⟩
    · have hj1 : j < ss.length := by omega
      have e1 : ss[j]? = some ss[j] := List.getElem?_eq_getElem hj1
      obtain ⟨ys, x, h1, h2⟩ := hg j _ hj e1
      have g := sv_gives I (hr j _ _ e1 e) h1 h2
      cases sk with
      | lst a => obtain ⟨its, v, l, e, p⟩ := g; exact ⟨its, v, l, e, True.intro⟩
      | tup a => obtain ⟨its, v, l, e, p⟩ := g; exact ⟨its, v, l, e, True.intro⟩
      | asc z t => obtain ⟨c, e, p⟩ := g; exact ⟨c, e, fun u => True.intro⟩
      | wid z t => obtain ⟨c, e, p⟩ := g; exact ⟨c, e, fun u => True.intro⟩
    · have e1 : ss[j0]? = some ss[j0] := List.getElem?_eq_getElem hj0
      obtain ⟨ys, h1, h2⟩ := he _ e1
      exact sv_ends I (hr j0 _ _ e1 e) h1 h2
    · have no : ∀ j : Nat, j < ks.length + 3 → c ≠ m + j := fun j hj z => hb (mem_cells.mpr ⟨j, hj, z⟩)
      refine out c o ?_ q
      by_cases hcm : c < m
      · exact .inl hcm
      · by_cases hcm2 : c < m + ks.length + 3
        · refine absurd ?_ (no (c - m) (by omega))
          show (c : Nat) = m + (c - m)
          omega
        · exact .inr (by omega)
  self := fun A i s Q E st h => iter_zip st h

/-! ### the rules -/
/-- the values are such things -/
inductive Svs (K : PySem.W.Frag) (H : Hp) : List V → List Sv → Prop
  | nil : Svs K H [] []
  | cons {v : V} {vs : List V} {s : Sv} {ss : List Sv} {xs : List V} (h : v = s.v) (h2 : s.has K H xs) (r : Svs K H vs ss) : Svs K H (v :: vs) (s :: ss)
theorem Svs.at {K : PySem.W.Frag} {H : Hp} : ∀ {vs : List V} {ss : List Sv}, Svs K H vs ss → vs.length = ss.length ∧ ∀ (j : Nat) s, ss[j]? = some s → vs[j]? = some s.v ∧ ∃ xs, s.has K H xs
  | _, _, .nil => ⟨rfl, fun j s z => by simp at z⟩
  | _, _, .cons (xs := xs) h h2 r => by
    obtain ⟨h3, h4⟩ := Svs.at r
    refine ⟨by rw [List.length_cons, List.length_cons, h3], fun j s e => ?_⟩
    cases j with
    | zero => cases e; exact ⟨by rw [h]; rfl, xs, h2⟩
    | succ j => exact h4 j s e
section
variable {X : Cx} {pins : List (Addr × Obj)} {σ : L2.St} {H : Hp} {s : Shared}
/-- zip has been called -/
theorem made_zip {tg : Expr} {vs : List V} {us : List Value} {ss : List Sv} {R : It → Hp → Prop} (I : Inv X pins σ H s) (r : Vals vs us) (hs : Svs X.K H vs ss) (h0 : 0 < ss.length) (h1000 : ss.length ≤ 1000) (q : R (ItzN X.K ss) H) :
    wpAny (model X.prog X.w) X.A (call (.type "zip") us) (fun v s1 => wpAny (model X.prog X.w) X.A (pyIter v) (PIE X pins σ tg R) X.xe s1) X.xe s := by
  obtain ⟨hl, hat⟩ := hs.at
  have hl2 := r.length
  obtain ⟨ks, hk, hks⟩ := pick_each (l := ss) (P := fun j sk => ∀ sv u, ss[j]? = some sv → us[j]? = some u → Skv sv sk ∧ sk.of u s.heap ∧ ∀ c : Nat, s.heap.objs.size ≤ c → sk.apart c) fun j a e => by
    obtain ⟨e1, xs, h2⟩ := hat j a e
    obtain ⟨u, hu, ru⟩ := r.get e1
    obtain ⟨sk, h3, h4, h5⟩ := sv_of I h2 ru
    refine ⟨sk, fun sv u' e3 e4 => ?_⟩
    rw [e] at e3
    rw [hu] at e4
    cases e3
    cases e4
    exact ⟨h3, h4, h5⟩
  have full : ∀ (j : Nat) sk, ks[j]? = some sk → ∃ sv u, ss[j]? = some sv ∧ us[j]? = some u ∧ Skv sv sk ∧ sk.of u s.heap ∧ ∀ c : Nat, s.heap.objs.size ≤ c → sk.apart c := fun j sk e => by
    have hj : j < ss.length := by rw [← hk]; exact len_of e
    have hj2 : j < us.length := by rw [← hl2, hl]; exact hj
    have e1 : ss[j]? = some ss[j] := List.getElem?_eq_getElem hj
    have e2 : us[j]? = some us[j] := List.getElem?_eq_getElem hj2
    obtain ⟨a, b, c⟩ := hks j sk e _ _ e1 e2
    exact ⟨_, _, e1, e2, a, b, c⟩
  have ap : ∀ sk : Sk, sk ∈ ks → ∀ c : Nat, s.heap.objs.size ≤ c → sk.apart c := fun sk hm c hc => by
    obtain ⟨j, hj, e⟩ := List.mem_iff_getElem.mp hm
    obtain ⟨_, _, _, _, _, _, h⟩ := full j sk (by rw [← e]; exact List.getElem?_eq_getElem hj)
    exact h c hc
  refine call_zipN (ss := ks) (by rw [hk, ← hl, hl2]) (by omega) (by omega) (fun j sk v e1 e2 => ?_) fun h' Z k => iter_zip (s := { s with heap := h' }) Z ?_
  · obtain ⟨sv, u, h1, h2, _, h4, _⟩ := full j sk e1
    rw [h2] at e2
    cases e2
    exact h4
  · have I2 : Inv X pins σ H { s with heap := h' } := I.kept (t' := s.toks) k
    refine ⟨_, cellsOf s.heap.objs.size ks.length, _, _, H, rfl, I2, turn_zipN hk.symm (by omega) (by omega) (fun j sv sk e1 e2 => ?_) ap, Z, fun c hc => ?_, q⟩
    · obtain ⟨sv', u, h1, _, h3, _⟩ := full j sk e2
      rw [h1] at e1
      cases e1
      exact h3
    · obtain ⟨j, hj, rfl⟩ := mem_cells.mp hc
      exact I.fpOk (Nat.le_add_right _ _) (I.hok.fresh (Nat.le_add_right _ _))
end
/-- zip(e, ..) -/
def iZipN (K : PySem.W.Frag) (ta : TA) : TI := fun σ H R => ta σ H fun vs H1 => ∃ ss, Svs K H1 vs ss ∧ 0 < ss.length ∧ ss.length ≤ 1000 ∧ R (ItzN K ss) H1
theorem pi_zipN {X : Cx} {tg e : Expr} {es : List Expr} {ta : TA} {p pos : Pos} (hg : Gl X "zip") (hm : X.mg "zip" = none) (ha : PA X (e :: es) ta)
    (hs : starEach (e :: es) X.env = (false, eval e X.env) :: starEach es X.env := by rfl) (hpl : (backTo pos (starEach es X.env)).any (·.1) = false := by rfl) :
    PI X tg (.Call (.Name "zip" p) (e :: es) [] pos) (iZipN X.K ta) := by
  refine ⟨fun pins s σ H R I h => ?_⟩
  refine Call_ (ld_blt I hg hm PyProof.Rows.boot_zip (PyProof.Rows.callWith_type1 (thn (ha.run pos pins s σ H _ I h) fun us s1 ⟨vs, H1, I1, r1, ss, q1, q2, q3, q4⟩ => ?_) hs hpl))
  exact made_zip I1 r1 q1 q2 q3 q4
theorem keeper_type {M : Model} {T : String} (h : Heap) : ∃ k, (k = Keeper.frame ∨ k = Keeper.machine ∨ k = Keeper.boundFrame) ∧ PySem.W.Looks M h (keeperOf (.type T)) k := by
  exact ⟨.machine, .inr (.inl rfl), PySem.W.Looks.of_pure rfl⟩
/-- zip( *e) -/
def iZipS (K : PySem.W.Frag) (te : TE) : TI := fun σ H R => te σ H fun y H1 => ∃ a xs ss, y = V.ref a ∧ (SqT K H1 a xs ∨ SqL K H1 a xs) ∧ Svs K H1 xs ss ∧ 0 < ss.length ∧ ss.length ≤ 1000 ∧ R (ItzN K ss) H1
theorem pi_zipS {X : Cx} {tg e : Expr} {te : TE} {p sp_ pos : Pos} (hg : Gl X "zip") (hm : X.mg "zip" = none) (he : PE X e te)
    (hst : starEach [.Starred e sp_] X.env = [(true, eval e X.env)] := by rfl) :
    PI X tg (.Call (.Name "zip" p) [.Starred e sp_] [] pos) (iZipS X.K te) := by
  refine ⟨fun pins s σ H R I h => ?_⟩
  refine Call_ (ld_blt I hg hm PyProof.Rows.boot_zip ?_)
  rw [hst]
  refine PySem.W.ks_call (P := fun _ => True) rfl (fun h _ => keeper_type h) (PySem.W.ks_lone ?_)
  refine thn (he.run pins s σ H _ I h) fun v s1 ⟨y, H1, I1, ry, a, xs, ss, ey, hxs, q1, q2, q3, q4⟩ => ?_
  subst ey
  obtain rfl : v = Value.ref a := ry
  exact StX.star_any I1 hxs fun us s2 I2 rv => ⟨True.intro, made_zip I2 rv q1 q2 q3 q4⟩
end LZ

set_option Elab.async false
set_option linter.all false
set_option maxRecDepth 100000
set_option maxHeartbeats 2000000
/-! EN: enumerate of a list, a tuple, a text. -/
namespace LZ
open PySem PySem.Spec L2 LP
open PyProof.Rows hiding St signs

abbrev EnObj (h : Heap) (e it : Nat) (f0 : Value) (f : Bool) (i : Int) (old : Value) : Prop :=
  h.get? e = some { cls := .type "enumerate", dict := none, data := .fields #[f0, .bool f, .ref it, rawInt i, .none, old], slots := #[] }
structure ESt (m : Nat) (sk : Sk) (i : Nat) (h : Heap) : Prop where
  e : ∃ f0 f old, EnObj h (m + 1) m f0 f (i : Nat) old ∧ (f0 = .none ∨ ∃ T : Nat, f0 = rawInt T)
  it : sk.at m i h
section
variable {prog : Program} {w : World} {A : Around} {E : Value → Shared → Prop} {s : Shared}
theorem efree_any {e it : Nat} {f0 old : Value} {f : Bool} {i : Int} {Q : Bool → Shared → Prop} (hz : EnObj s.heap e it f0 f i old) (h0 : f0 = .none ∨ ∃ T : Nat, f0 = rawInt T)
    (h1 : Q true s) (h2 : ∀ h', EnObj h' e it f0 true i old → Heap.SameBut e s.heap h' → Q false { s with heap := h' }) : wpAny (model prog w) A (Builtin.SmallTypes.ownedTupleIsFree (.ref e)) Q E s := by
  unfold Builtin.SmallTypes.ownedTupleIsFree
  rcases h0 with rfl | ⟨T, rfl⟩
  · exact wpAny_bind (wpAny_field hz rfl (x := .none) rfl (wpAny_pure h1))
  · refine wpAny_bind (wpAny_field hz rfl (x := rawInt T) rfl ?_)
    show wpAny _ _ (loadIfAlive ((T : Int).toNat) >>= _) _ _ _
    rw [Int.toNat_natCast]
    refine wpAny_bind (alive_any ?_)
    cases s.heap.get? T with
    | none =>
      simp only [Option.isNone_none, if_true]
      exact wpAny_pure h1
    | some o =>
      simp only [Option.isNone_some, Bool.false_eq_true, if_false]
      refine wpAny_bind (wpAny_field hz rfl (x := .bool f) rfl ?_)
      cases f with
      | true =>
        rw [if_neg (show ¬ ((Value.bool true != Value.bool true) = true) from Bool.false_ne_true)]
        exact wpAny_pure (h2 s.heap hz (Heap.SameBut.refl _ _))
      | false =>
        rw [if_pos (show (Value.bool false != Value.bool true) = true from rfl)]
        exact wpAny_bind (wpAny_setField_rec hz (by simp) fun h₁ hz₁ hs₁ => wpAny_pure (h2 h₁ hz₁ hs₁))
theorem enum_item {m i : Nat} {sk : Sk} {P : Value → Prop} {Q : Value → Shared → Prop} (Z : ESt m sk i s.heap) (g : sk.gives s.heap i P)
    (hQ : ∀ u t h' tk, P u → ESt m sk (i + 1) h' → TupAt h' s.heap.objs.size #[.int i t, u] → (∀ (c : Nat) o, c ≠ m → c ≠ m + 1 → s.heap.get? c = some o → h'.get? c = some o) → Q (.ref s.heap.objs.size) { s with heap := h', toks := tk }) :
    wpAny (model prog w) A (Builtin.«enumerate.__next__» ⟨[.ref (m + 1 : Nat)], []⟩) (fun fin s' => ∃ v, fin = .done (.ret v) ∧ Q v s') E s := by
  obtain ⟨hp, gg, d, tk0, os⟩ := s
  obtain ⟨f0, f, old, he, hf⟩ := Z.e
  have hel : (m + 1 : Nat) < hp.objs.size := Heap.lt_size he
  show wpAny _ _ (field (.ref (m + 1 : Nat)) 2 >>= _) _ _ _
  refine wpAny_bind (wpAny_field he rfl (x := .ref m) rfl ?_)
  refine wpAny_bind (draw_item Z.it g fun u h1 tk1 pu st1 hs1 => ?_)
  replace hs1 : Heap.SameBut m hp h1 := hs1
  have he1 : EnObj h1 (m + 1) m f0 f i old := (hs1.2 (m + 1 : Nat) (Nat.succ_ne_self _)).trans he
  show wpAny _ _ (field (.ref (m + 1 : Nat)) 3 >>= _) _ _ ⟨h1, gg, d, tk1, os⟩
  refine wpAny_bind (wpAny_field he1 rfl (x := rawInt i) rfl ?_)
  show wpAny _ _ (field (.ref (m + 1 : Nat)) 4 >>= _) _ _ ⟨h1, gg, d, tk1, os⟩
  refine wpAny_bind (wpAny_field he1 rfl (x := .none) rfl ?_)
  show wpAny _ _ (mkInt i >>= _) _ _ ⟨h1, gg, d, tk1, os⟩
  refine wpAny_bind (wpAny_mkInt ?_)
  show wpAny _ _ (setField (.ref (m + 1 : Nat)) 3 (rawInt ((i : Int) + 1)) >>= _) _ _ ⟨h1, gg, d, tk1 + 1, os⟩
  refine wpAny_bind (wpAny_setField_rec he1 (by simp) fun h2 he2 hs2 => ?_)
  replace hs2 : Heap.SameBut (m + 1 : Nat) h1 h2 := hs2
  replace he2 : EnObj h2 (m + 1) m f0 f ((i : Int) + 1) old := he2
  show wpAny _ _ (setField (.ref (m + 1 : Nat)) 4 .none >>= _) _ _ ⟨h2, gg, d, tk1 + 1, os⟩
  refine wpAny_bind (wpAny_setField_rec he2 (by simp) fun h3 he3 hs3 => ?_)
  replace hs3 : Heap.SameBut (m + 1 : Nat) h2 h3 := hs3
  replace he3 : EnObj h3 (m + 1) m f0 f ((i : Int) + 1) old := he3
  show wpAny _ _ (newTuple [.int i tk1, u] >>= _) _ _ ⟨h3, gg, d, tk1 + 1, os⟩
  refine wpAny_bind (wpAny_newTuple ?_)
  have hsz : h3.objs.size = hp.objs.size := by rw [hs3.1, hs2.1, hs1.1]
  have ex : ((i + 1 : Nat) : Int) = (i : Int) + 1 := by omega
  have he4 : EnObj (h3.push { cls := .type "tuple", data := .seq #[.int i tk1, u] }) (m + 1) m f0 f ((i : Int) + 1) old := Heap.get?_push_of_some _ he3
  have ht4 : TupAt (h3.push { cls := .type "tuple", data := .seq #[.int i tk1, u] }) hp.objs.size #[.int i tk1, u] := by rw [← hsz]; exact Heap.get?_push_size _ rfl
  have hk4 : ∀ (c : Nat) o, c ≠ m → c ≠ m + 1 → hp.get? c = some o → (h3.push { cls := .type "tuple", data := .seq #[.int i tk1, u] }).get? c = some o := fun c o c1 c2 e =>
    Heap.get?_push_of_some _ (hs3.extBut _ _ c2 (hs2.extBut _ _ c2 (hs1.extBut _ _ c1 e)))
  have st4 : sk.at m (i + 1) (h3.push { cls := .type "tuple", data := .seq #[.int i tk1, u] }) :=
    st1.over' fun o e => Heap.get?_push_of_some _ (hs3.extBut _ _ (Nat.ne_of_lt (Nat.lt_succ_self _)) (hs2.extBut _ _ (Nat.ne_of_lt (Nat.lt_succ_self _)) e))
  generalize h3.push { cls := .type "tuple", data := .seq #[.int i tk1, u] } = h4 at he4 ht4 hk4 st4
  show wpAny _ _ (Builtin.SmallTypes.ownedTupleIsFree (.ref (m + 1 : Nat)) >>= _) _ _ ⟨h4, gg, d, tk1 + 1, os⟩
  rw [hsz]
  clear he3 hs3 he2 hs2 he1 hs1 st1 hsz h3 h2 h1
  refine wpAny_bind (efree_any (s := ⟨h4, gg, d, tk1 + 1, os⟩) he4 hf ?_ fun h5 he5 hs5 => ?_)
  · simp only [if_true]
    refine wpAny_bind (wpAny_rule ?_)
    refine wpAny_bind (wpAny_field he4 rfl (x := old) rfl ?_)
    refine wpAny_bind (wpAny_setField_rec he4 (by simp) fun h5 he5 hs5 => ?_)
    replace he5 : EnObj h5 (m + 1) m f0 f ((i : Int) + 1) u := he5
    show wpAny _ _ (Builtin.SmallTypes.ownedTupleHandOut (.ref (m + 1 : Nat)) (.ref hp.objs.size) >>= _) _ _ ⟨h5, gg, d, tk1 + 1, os⟩
    refine wpAny_bind ?_
    unfold Builtin.SmallTypes.ownedTupleHandOut
    refine wpAny_bind (wpAny_setField_rec he5 (by simp) fun h6 he6 hs6 => ?_)
    replace he6 : EnObj h6 (m + 1) m (rawInt hp.objs.size) f ((i : Int) + 1) u := he6
    refine wpAny_setField_rec he6 (by simp) fun h7 he7 hs7 => ?_
    replace he7 : EnObj h7 (m + 1) m (rawInt hp.objs.size) false ((i : Int) + 1) u := he7
    have up : Heap.ExtBut (m + 1 : Nat) h4 h7 := fun c o hc e => hs7.extBut _ _ hc (hs6.extBut _ _ hc (hs5.extBut _ _ hc e))
    refine wpAny_bind (wpAny_letGo (wpAny_pure ⟨_, rfl, hQ u tk1 h7 _ pu ⟨⟨rawInt hp.objs.size, false, u, by rw [ex]; exact he7, .inr ⟨_, rfl⟩⟩, ?_⟩ (up _ _ (Nat.ne_of_gt hel) ht4) fun c o c1 c2 e => up _ _ c2 (hk4 c o c1 c2 e)⟩))
    exact st4.over' fun o e => up _ _ (Nat.ne_of_lt (Nat.lt_succ_self _)) e
  · simp only [Bool.false_eq_true, if_false]
    have up : Heap.ExtBut (m + 1 : Nat) h4 h5 := fun c o hc e => hs5.extBut _ _ hc e
    refine wpAny_pure ⟨_, rfl, hQ u tk1 h5 _ pu ⟨⟨f0, true, old, by rw [ex]; exact he5, hf⟩, ?_⟩ (up _ _ (Nat.ne_of_gt hel) ht4) fun c o c1 c2 e => up _ _ c2 (hk4 c o c1 c2 e)⟩
    exact st4.over' fun o e => up _ _ (Nat.ne_of_lt (Nat.lt_succ_self _)) e
theorem enext_item {m i : Nat} {sk : Sk} {P : Value → Prop} {Q : Option Value → Shared → Prop} (Z : ESt m sk i s.heap) (g : sk.gives s.heap i P)
    (hQ : ∀ u t h' tk, P u → ESt m sk (i + 1) h' → TupAt h' s.heap.objs.size #[.int i t, u] → (∀ (c : Nat) o, c ≠ m → c ≠ m + 1 → s.heap.get? c = some o → h'.get? c = some o) → Q (some (.ref s.heap.objs.size)) { s with heap := h', toks := tk }) :
    wpAny (model prog w) A (pyNext (.ref (m + 1 : Nat))) Q E s := by
  have hT : s.TypeIs (.ref (m + 1 : Nat)) "enumerate" := let ⟨f0, f, old, hz, _⟩ := Z.e; ⟨_, hz, rfl⟩
  unfold pyNext
  exact wpAny_bind (wpAny_attempt (wpAny_callSpecial?_slot (name := Str.ofString "__next__") hT F.slot_enumerate_next
    (wpAny_call_entry F.slot_enumerate_next hT F.entry_enumerate_next (enum_item Z g fun u t h' tk a b c d => wpAny_pure (hQ u t h' tk a b c d)) (F.args_enumerate_next_1 _))))
theorem enext_end {m i : Nat} {sk : Sk} {Q : Option Value → Shared → Prop} (hh : A.handled = none) (Z : ESt m sk i s.heap) (ge : sk.ends s.heap i)
    (hQ : ∀ h', Heap.ExtBut m s.heap h' → Q none { s with heap := h' }) : wpAny (model prog w) A (pyNext (.ref (m + 1 : Nat))) Q E s := by
  obtain ⟨f0, f, old, he, hf⟩ := Z.e
  have hT : s.TypeIs (.ref (m + 1 : Nat)) "enumerate" := ⟨_, he, rfl⟩
  unfold pyNext
  refine wpAny_bind (wpAny_attempt (wpAny_callSpecial?_slot (name := Str.ofString "__next__") hT F.slot_enumerate_next
    (wpAny_call_entry F.slot_enumerate_next hT F.entry_enumerate_next ?_ (F.args_enumerate_next_1 _))))
  show wpAny _ _ (field (.ref (m + 1 : Nat)) 2 >>= _) _ _ _
  refine wpAny_bind (wpAny_field he rfl (x := .ref m) rfl ?_)
  refine wpAny_bind (draw_end hh Z.it ge fun h' x he' hx' => ?_)
  obtain ⟨o, ho, hc⟩ := hx'
  refine wpAny_bind (wpAny_isInstance (T := "StopIteration") (b := true) ⟨o, ho, hc⟩ isSubtype_stop ?_)
  exact wpAny_pure (hQ _ he')
theorem enum_go {tg : Expr} {m i : Nat} {sk : Sk} {T : Addr} {Q : Unit → Shared → Prop} (Z : ESt m sk i s.heap)
    (hQ : ∀ h', ESt m sk i h' → Heap.SameBut (m + 1 : Nat) s.heap h' → Q () { s with heap := h' }) : wpAny (model prog w) A (letOwnedTupleGo tg (.ref (m + 1 : Nat)) (.ref T)) Q E s := by
  obtain ⟨f0, f, old, hz, hf⟩ := Z.e
  have q0 : Q () s := hQ s.heap Z (Heap.SameBut.refl _ _)
  have q1 : wpAny (model prog w) A (do
      let o ← load (m + 1 : Nat)
      match o.cls, o.data with
      | .type n, .fields vs =>
        if ["enumerate", "zip", "dict_itemiterator", "dict_reverseitemiterator", "odict_iterator", "itertools.zip_longest", "itertools.pairwise"].contains n && vs[0]? == some (rawInt T) then
          rule "for.unpacks-the-owned-tuple"
          updateField (m + 1 : Nat) 0 .none
      | _, _ => pure ()) Q E s := by
    refine wpAny_bind (wpAny_load hz ?_)
    show wpAny _ _ (if (true && (#[f0, Value.bool f, .ref m, rawInt i, .none, old] : Array Value)[0]? == some (rawInt T)) = true then _ else _) _ _ _
    by_cases hc : (true && (#[f0, Value.bool f, .ref m, rawInt i, .none, old] : Array Value)[0]? == some (rawInt T)) = true
    · rw [if_pos hc]
      refine wpAny_bind (wpAny_rule ?_)
      show wpAny _ _ (setField (.ref (m + 1 : Nat)) 0 .none) Q E s
      refine wpAny_setField_rec hz (by simp) fun h' hz' hs' => hQ h' ?_ hs'
      exact ⟨⟨.none, f, old, hz', .inl rfl⟩, Z.it.over' fun o e => hs'.extBut _ _ (Nat.ne_of_lt (Nat.lt_succ_self _)) e⟩
    · rw [if_neg hc]
      exact wpAny_pure q0
  unfold letOwnedTupleGo
  cases tg <;> first
    | exact wpAny_pure q0
    | exact q1
theorem iter_enum {m i : Nat} {sk : Sk} {Q : Value → Shared → Prop} (Z : ESt m sk i s.heap) (h : Q (.ref (m + 1 : Nat)) s) : wpAny (model prog w) A (pyIter (.ref (m + 1 : Nat))) Q E s := by
  have hT : s.TypeIs (.ref (m + 1 : Nat)) "enumerate" := let ⟨f0, f, old, hz, _⟩ := Z.e; ⟨_, hz, rfl⟩
  refine wpAny_pyIter_slot hT F.slot_enumerate_iter (wpAny_call_entry F.slot_enumerate_iter hT F.entry_enumerate_iter ?_ (F.args_enumerate_iter_1 _))
  show wpAny _ _ (ret (.ref (m + 1 : Nat))) _ _ s
  exact wpAny_pure ⟨_, rfl, "enumerate", _, hT, F.slot_enumerate_next.lookup, h⟩
end
open PySem.AutoSeq1 (wpAny_loadPart') in
theorem meets_enumT (t : Addr) (o : Obj) (items : Array Value) :
    Meets (Builtin.«enumerate.__new__» ⟨[.type "enumerate", .ref t], []⟩) (fun _ R s => s.heap.get? t = some o ∧ s.heap.IsTuple t items ∧
      R (.ok (.ret (.ref (s.heap.push { cls := .type "tuple_iterator", data := .fields #[.ref t, .int 0 0] }).objs.size)))
        { s with heap := (s.heap.push { cls := .type "tuple_iterator", data := .fields #[.ref t, .int 0 0] }).push { cls := .type "enumerate", data := .fields #[.none, .bool false, .ref s.heap.objs.size, rawInt 0, .none, .none] } }) :=
  .of_wp fun prog w A R s h => by
    obtain ⟨hp, g, d, tk, os⟩ := s
    obtain ⟨hl, hL, h⟩ := h
    have hsub := sub_enumerate
    wp_walk using wpAny_loadPart' hl
    refine wpAny_stack_any fun st => wpAny_pure ?_
    split
    · rename_i c _ _ _ _ _
      cases (c == Value.type "enumerate")
      · wp_walk using wpAny_loadPart' hl, wpAny_pyIter_tuple hL
        exact ⟨_, rfl, h⟩
      · wp_walk using wpAny_loadPart' hl, wpAny_pyIter_tuple hL
        exact ⟨_, rfl, h⟩
    · wp_walk using wpAny_loadPart' hl, wpAny_pyIter_tuple hL
      exact ⟨_, rfl, h⟩
section
variable {prog : Program} {w : World} {A : Around} {E : Value → Shared → Prop} {s : Shared}
theorem call_enumN {sk : Sk} {u : Value} {Q : Value → Shared → Prop} (p : sk.of u s.heap)
    (h : ∀ h', ESt s.heap.objs.size sk 0 h' → (∀ b o, s.heap.get? b = some o → h'.get? b = some o) → Q (.ref (s.heap.objs.size + 1 : Nat)) { s with heap := h' }) :
    wpAny (model prog w) A (call (.type "enumerate") [u]) Q E s := by
  cases sk with
  | lst a =>
    obtain ⟨rfl, its, l⟩ := p
    exact call_enumerate_list l fun h' he hit _ k => h h' ⟨⟨_, _, _, he, .inl rfl⟩, hit⟩ k
  | asc x t =>
    obtain ⟨rfl, ha⟩ := p
    refine call_enumerate_str fun h' he hit _ k => h h' ⟨⟨_, _, _, he, .inl rfl⟩, ?_⟩ k
    rw [show strIterType x = "str_ascii_iterator" by simp [strIterType, ha]] at hit
    exact hit
  | wid x t =>
    obtain ⟨rfl, ha⟩ := p
    refine call_enumerate_str fun h' he hit _ k => h h' ⟨⟨_, _, _, he, .inl rfl⟩, ?_⟩ k
    rw [show strIterType x = "str_iterator" by simp [strIterType, ha]] at hit
    exact hit
  | tup a =>
    obtain ⟨rfl, its, l⟩ := p
    obtain ⟨o, ho, hc, n, hd⟩ := id l
    refine callType_new F.called_enumerate (by decide) (F.typeCall_enumerate_1 _) (F.newCall_enumerate_1 _) (fun obj => F.args_object_init_2 obj _) F.entry_enumerate_new (meets_enumT a o its) ⟨ho, l, ?_⟩
    have hz : (s.heap.push { cls := .type "tuple_iterator", data := .fields #[.ref a, .int 0 0] }).objs.size = s.heap.objs.size + 1 := Heap.size_push ..
    have he := Heap.get?_push_size (s.heap.push { cls := .type "tuple_iterator", data := .fields #[.ref a, .int 0 0] })
      (o := { cls := .type "enumerate", data := .fields #[.none, .bool false, .ref s.heap.objs.size, rawInt 0, .none, .none] }) rfl
    show _ ∧ _
    rw [hz] at he ⊢
    exact ⟨⟨_, he, rfl⟩, h _ ⟨⟨_, _, _, he, .inl rfl⟩, ⟨_, Heap.get?_push_of_some _ (Heap.get?_push_size _ rfl), rfl, rfl⟩⟩ fun b o x => Heap.get?_push_of_some _ (Heap.get?_push_of_some _ x)⟩
end

/-- the thing as it stands at each turn, each item in a new pair -/
def ItnE (K : PySem.W.Frag) (sv : Sv) : It :=
  ⟨fun i H => ∃ xs x, sv.has K H xs ∧ xs[i]? = some x,
    fun i H v H' => ∃ T x, v = .ref T ∧ H T = none ∧ H' = upd H T (.tup [.int (i : Nat), x]) ∧ ∀ ys, sv.has K H ys → ys[i]? = some x,
    fun i H => ∃ xs, sv.has K H xs ∧ xs.length ≤ i⟩
theorem turn_enumN {P : Program} {w : World} {K : PySem.W.Frag} {tg : Expr} {m : Nat} {sv : Sv} {sk : Sk} (hr : Skv sv sk) :
    Turn P w K tg (ItnE K sv) [(m : Addr), m + 1] (m + 1 : Nat) (fun i h => ESt m sk i h) where
  mem := by simp
  obj := fun i h st c hc => by
    have e' : c = m ∨ c = m + 1 := by simpa using hc
    rcases e' with rfl | rfl
    · exact st.it.obj
    · obtain ⟨f0, f, old, hz, _⟩ := st.e
      exact ⟨_, hz, fun v q => nomatch q⟩
  keep := fun i h h' st k => by
    obtain ⟨f0, f, old, hz, hf⟩ := st.e
    exact ⟨⟨f0, f, old, k _ (by simp) _ hz, hf⟩, st.it.over' fun o e => k _ (by simp) o e⟩
  item := by
    intro X hP hw hK hc i pins s σ H E I hf st hg
    subst hP hw hK
    obtain ⟨xs, x, h1, h2⟩ := hg
    have hel : (m + 1 : Nat) < s.heap.objs.size := by
      obtain ⟨f0, f, old, hz, _⟩ := st.e
      exact Heap.lt_size hz
    refine enext_item st (sv_gives I hr h1 h2) fun u t h' tk ru Z hT k => ⟨_, rfl, enum_go (s := { s with heap := h', toks := tk }) Z fun h'' Z' sb => ?_⟩
    have hT2 : TupAt h'' s.heap.objs.size #[.int i t, u] := (sb.2 _ (Nat.ne_of_gt hel)).trans hT
    have new : ObjOk X.prog X.w (upd H s.heap.objs.size (.tup [.int (i : Nat), x])) h'' s.heap.objs.size (.tup [.int (i : Nat), x]) :=
      ⟨by show 2 ≤ sizeLine; decide, [.int i t, u], .cons ⟨_, rfl⟩ (.cons ru .nil), ⟨_, hT2, rfl, _, rfl⟩⟩
    have I1 : Inv X pins σ (upd H s.heap.objs.size (.tup [.int (i : Nat), x])) { s with heap := h'', toks := tk } :=
      I.turnedNew (t' := tk) (ch := [(m : Addr), m + 1]) (fun b ob hb q => (sb.2 b (fun z => hb (by simp [z]))).trans (k b ob (fun z => hb (by simp [z])) (fun z => hb (by simp [z])) q)) hf (Nat.le_refl _) new
    refine ⟨.ref s.heap.objs.size, _, I1, rfl, ⟨_, x, rfl, I.hok.fresh (Nat.le_refl _), rfl, fun ys hy => by rw [sv_inj I hy h1]; exact h2⟩, Z', fun b hb => ?_⟩
    have hb' : b < s.heap.objs.size := by
      have e' : b = m ∨ b = m + 1 := by simpa using hb
      rcases e' with rfl | rfl
      · exact Nat.lt_of_succ_lt hel
      · exact hel
    rw [upd_ne (Nat.ne_of_lt hb')]
    exact (hf b hb).1
  done := by
    intro X hP hw hK hc i pins s σ H E I hf st hg
    subst hP hw hK
    obtain ⟨xs, h1, h2⟩ := hg
    exact enext_end (I.ok.hd hc) st (sv_ends I hr h1 h2) fun h' k => ⟨rfl, I.turnedL (t' := s.toks) (ch := [(m : Addr), m + 1]) (fun c o hb q => k c o (fun z => hb (by simp [z])) q) hf⟩
  self := fun A i s Q E st h => iter_enum st h
def iEnumN (K : PySem.W.Frag) (ta : TA) : TI := fun σ H R => ta σ H fun vs H1 => ∃ sv xs, vs = [Sv.v sv] ∧ sv.has K H1 xs ∧ R (ItnE K sv) H1
theorem pi_enumN {X : Cx} {tg e : Expr} {ta : TA} {p pos : Pos} (hg : Gl X "enumerate") (hm : X.mg "enumerate" = none) (ha : PA X [e] ta) (hs : starEach [e] X.env = [(false, eval e X.env)] := by rfl) :
    PI X tg (.Call (.Name "enumerate" p) [e] [] pos) (iEnumN X.K ta) := by
  refine ⟨fun pins s σ H R I h => ?_⟩
  refine Call_ (ld_blt I hg hm boot_enumerate (PyProof.Rows.callWith_type1 (thn (ha.run pos pins s σ H _ I h) fun us s1 ⟨vs, H1, I1, r1, q1⟩ => ?_) hs rfl))
  obtain ⟨sv, xs, rfl, hq, q⟩ := q1
  cases r1 with
  | cons r rr =>
    cases rr
    obtain ⟨sk, hr, ho, _⟩ := sv_of I1 hq r
    refine call_enumN ho fun h' Z k => iter_enum (s := { s1 with heap := h' }) Z ?_
    have I2 : Inv X pins σ H1 { s1 with heap := h' } := I1.kept (t' := s1.toks) k
    refine ⟨_, [(s1.heap.objs.size : Addr), s1.heap.objs.size + 1], _, _, H1, rfl, I2, turn_enumN hr, Z, fun b hb => ?_, q⟩
    have hle : s1.heap.objs.size ≤ b := by
      have e' : b = s1.heap.objs.size ∨ b = s1.heap.objs.size + 1 := by simpa using hb
      rcases e' with rfl | rfl
      · exact Nat.le_refl _
      · exact Nat.le_add_right _ _
    exact I1.fpOk hle (I1.hok.fresh hle)

/-! ### walks -/
theorem walk_enumN {K : PySem.W.Frag} {sv : Sv} {xs : List V} : Walk (ItnE K sv) xs.length (fun H => sv.has K H xs) (YPair (fun i => some (.int (i : Nat))) (fun i => xs[i]?)) := by
  refine ⟨fun i _ hi q => ⟨xs, xs[i], q, by simp [hi]⟩, fun _ q => ⟨xs, q, Nat.le_refl _⟩, fun i H v H' _ q y => ?_⟩
  obtain ⟨T, x, h1, h2, h3, h4⟩ := y
  exact ⟨T, .int (i : Nat), x, h1, h2, h3, rfl, h4 xs q⟩
/-- a new tuple of the i-th of each -/
def YTup (xss : List (List V)) : Nat → Hp → V → Hp → Prop := fun i H v H' => ∃ T xs, v = .ref T ∧ H T = none ∧ H' = upd H T (.tup xs) ∧ xs.length = xss.length ∧ ∀ (j : Nat) ys, xss[j]? = some ys → xs[j]? = ys[i]?
/-- all of them are there -/
def Alls (K : PySem.W.Frag) (ss : List Sv) (xss : List (List V)) (H : Hp) : Prop := ss.length = xss.length ∧ ∀ (j : Nat) s xs, ss[j]? = some s → xss[j]? = some xs → Sv.has K H s xs
theorem walk_zipN {K : PySem.W.Frag} {ss : List Sv} {xss : List (List V)} {n : Nat} (hn : ∀ xs, xs ∈ xss → xs.length = n) (h0 : 0 < xss.length) : Walk (ItzN K ss) n (fun H => Alls K ss xss H) (YTup xss) := by
  have atx : ∀ {j : Nat} {xs : List V}, xss[j]? = some xs → xs.length = n := fun e => hn _ (List.mem_of_getElem? e)
  refine ⟨fun i H hi q j s e => ?_, fun H q => ⟨0, by rw [q.1]; exact h0, fun s e => ?_, fun j s z => absurd z (Nat.not_lt_zero _)⟩, fun i H v H' hi q y => ?_⟩
  · have hj : j < xss.length := by rw [← q.1]; exact len_of e
    have e2 := List.getElem?_eq_getElem hj
    have hl := atx e2
    exact ⟨_, _, q.2 j s _ e e2, List.getElem?_eq_getElem (by omega)⟩
  · have e2 := List.getElem?_eq_getElem h0
    exact ⟨_, q.2 0 s _ e e2, by rw [atx e2]; exact Nat.le_refl _⟩
  · obtain ⟨T, xs, h1, h2, h3, h4, h5⟩ := y
    refine ⟨T, xs, h1, h2, h3, by rw [h4, q.1], fun j ys e => ?_⟩
    have hj : j < ss.length := by rw [q.1]; exact len_of e
    have e2 := List.getElem?_eq_getElem hj
    exact h5 j _ ys e2 (q.2 j _ ys e2 e)
/-- two of them -/
theorem walk_zip2 {K : PySem.W.Frag} {s1 s2 : Sv} {xs ys : List V} (hl : xs.length = ys.length) : Walk (ItzN K [s1, s2]) xs.length (fun H => s1.has K H xs ∧ s2.has K H ys) (YPair (fun i => xs[i]?) (fun i => ys[i]?)) := by
  refine (walk_zipN (K := K) (ss := [s1, s2]) (xss := [xs, ys]) (n := xs.length) (fun zs h => ?_) (Nat.succ_pos _)).mono (fun H h => ⟨rfl, fun j s zs e1 e2 => ?_⟩) (fun i H x H' hi h y => ?_)
  · rcases List.mem_cons.mp h with rfl | h
    · rfl
    · rw [List.mem_singleton.mp h, hl]
  · match j with
    | 0 => cases e1; cases e2; exact h.1
    | 1 => cases e1; cases e2; exact h.2
    | j + 2 => cases e1
  · obtain ⟨T, zs, h1, h2, h3, h4, h5⟩ := y
    have a := h5 0 xs rfl
    have b := h5 1 ys rfl
    have hx := List.getElem?_eq_getElem hi
    have hy := List.getElem?_eq_getElem (show i < ys.length by omega)
    rw [hx] at a
    rw [hy] at b
    obtain ⟨z1, z2, rfl⟩ : ∃ z1 z2, zs = [z1, z2] := by
      match zs, h4 with
      | [z1, z2], _ => exact ⟨z1, z2, rfl⟩
    have a' : z1 = xs[i] := Option.some.inj a
    have b' : z2 = ys[i] := Option.some.inj b
    exact ⟨T, z1, z2, h1, h2, h3, by rw [a']; exact hx, by rw [b']; exact hy⟩
end LZ

set_option Elab.async false
set_option linter.all false
set_option maxRecDepth 100000
set_option maxHeartbeats 2000000
/-! LPO: own operators of slotted instances: !=, binary operators, str(x), len(x), in. -/
namespace LPO
open PySem PySem.Spec PySem.W PyProof.Rows
section
variable {prog : Program} {w : World} {A : Around} {E : Value → Shared → Prop} {s : Shared} {K : Frag} {x C f : Addr} {ox : Obj} {od : Option Obj} {b tb : Value}
theorem bound_b {M : Model} {name : Str} {id : String} {args : List Value} {Q : Option Value → Shared → Prop} (X : K.In s.heap) (I : InstAt s.heap x ox C od) (hs : findIn K (.ref C) name = some (some (.builtin id)))
    (hb : ∀ self, bindSpecial (.builtin id) self = pure (.builtin id, [self])) (h : wpAny M A (call (.builtin id) (.ref x :: args)) (fun v => Q (some v)) E s) : wpAny M A (callSpecialIfBound? (.ref x) name args) Q E s := by
  simp only [callSpecialIfBound?, bindSpecialIfBound?]
  refine wpAny_holding (wpAny_bind (wpAny_bind (wpAny_bind (I.type.here ((looks_findIn X hs).here ?_)))))
  refine wpAny_bind (wpAny_askSetting (wpAny_ite ?_))
  have fin : wpAny M A (call (.builtin id) ([.ref x] ++ args) >>= fun v => pure (some v)) Q E s := wpAny_bind (wpAny_mono h (fun v s' h' => wpAny_pure h') fun _ _ h' => h')
  split
  · exact wpAny_bind ((Looks.of_pure (hb _)).here (wpAny_pure (by exact fin)))
  · exact wpAny_tryCatch (wpAny_bind ((Looks.of_pure (hb _)).here (wpAny_pure (by exact fin))))
theorem bind_ne (self : Value) : bindSpecial (.builtin "object.__ne__") self = pure (.builtin "object.__ne__", [self]) := by kernel_rfl
theorem plain_ne : plainId "object.__ne__" = true := by decide +kernel
/-- x != b by an own == -/
theorem ne_own {Q : Value → Shared → Prop} (hu : A.units + 1 < cLine) (X : K.In s.heap) (I : InstAt s.heap x ox C od) (hb : Looks (model prog w) s.heap (typeOf b) tb) (hn : notFirst K C tb = true) (hm : mroIn K C (.type "object") = some true)
    (hne : findIn K (.ref C) "__ne__" = some (some (.builtin "object.__ne__"))) (hs : findIn K (.ref C) "__eq__" = some (some (.ref f))) (hf : isFn K (.ref f) = true)
    (h : wpAny (model prog w) A.in1 (call (.ref f) [.ref x, b]) (fun v s' => ∃ c, v = .bool c ∧ Q (.bool (!c)) s') E s) : wpAny (model prog w) A (compareOp .NotEq (.ref x) b) Q E s := by
  have one : wpAny (model prog w) A (tryCompare (.ref x) "__ne__" b) (fun r s' => ∃ v, r = some v ∧ Q v s') E s := by
    unfold tryCompare
    refine wpAny_bind (bound_b X I hne bind_ne (wpAny_call (codeAny_call_builtin plain_ne F.cmpEntry_ne (check_slot (i := "object.__ne__") (owner := "object") (n := "__ne__") F.cmpKind_ne F.cmpSplit_ne (I.type.andThen (looks_mroIn X hm)) (F.cmpArgs_ne _ _) ?_))))
    unfold Builtin.«object.__ne__»
    refine wpAny_bind (m := slotArgs "__ne__" 1 _) (wpAny_pure ?_)
    refine wpAny_bind (m := cRoomFor _ _) (wpAny_cRoomFor hu ?_)
    refine wpAny_bind (m := callSpecialIfBound? (.ref x) (Str.ofString "__eq__") _) (ifBound_K X I hs hf (wpAny_mono h (fun v s' hq => ?_) fun _ _ y => y))
    obtain ⟨c, rfl, q⟩ := hq
    refine wpAny_bind (wpAny_truthy_bool (wpAny_pure ?_))
    exact wpAny_pure ⟨_, rfl, q⟩
  show wpAny (model prog w) A (richCompare .NotEq (.ref x) b) Q E s
  unfold richCompare
  simp only [oneThing_ref]
  refine wpAny_holding (wpAny_bind (wpAny_cRoomFor (Nat.lt_of_succ_lt hu) ?_))
  rw [cmpInfo_NotEq]
  refine wpAny_bind (I.type.here (wpAny_bind (hb.here ?_)))
  split
  · rename_i q
    have e : subIn K tb (.ref C) = some false := by
      rcases Bool.or_eq_true_iff.mp hn with e | e
      · rw [beq_iff_eq.mp e] at q; simp at q
      · exact beq_iff_eq.mp e
    refine wpAny_bind ((looks_subIn X e).here ?_)
    simp only [Bool.false_eq_true, if_false]
    refine wpAny_bind (wpAny_mono one (fun r s' z => ?_) fun _ _ e => e)
    obtain ⟨v, rfl, hq⟩ := z
    exact wpAny_pure hq
  · refine wpAny_bind (wpAny_pure ?_)
    simp only [Bool.false_eq_true, if_false]
    refine wpAny_bind (wpAny_mono one (fun r s' z => ?_) fun _ _ e => e)
    obtain ⟨v, rfl, hq⟩ := z
    exact wpAny_pure hq
end
end LPO
namespace LP
open PySem PySem.Spec L2 SlX
open PyProof.Rows hiding St signs
theorem toR {P : Program} {w : World} {K : PySem.W.Frag} {mg : Str → Option Value} {base : Heap} {CX : CXT} {k : Nat} {f : Addr} {sp : Sp} {fd : FuncData} {ps : List Str} (F : FnOk P w K mg base CX k f fd ps sp) (hb : Binds K fd ps []) :
    FnR P w K mg base CX k f sp := (F.raw hb .nil).imp fun vs H Q E h => by rw [List.append_nil]; exact h
section
variable {X : Cx} {CX : CXT} {C g : Addr} {n : Nat} {sp : Sp} {E : XK}
/-- x != y, x an instance of the class at C with an own == at g -/
def rOwnNe (K : PySem.W.Frag) (C : Addr) (sp : Sp) (E : XK) : R2 := fun x y H Q => ∃ a dx vs b C' dy ws, x = .ref a ∧ y = .ref b ∧ Slt H a C dx vs ∧ Slt H b C' dy ws ∧ PySem.W.notFirst K C (.ref C') = true ∧ sp [x, y] H (fun z H' => ∃ c, z = .bl c ∧ Q (.bl (!c)) H') E
theorem op_ownNe (hm : PySem.W.mroIn X.K C (.type "object") = some true) (hne : PySem.W.findIn X.K (.ref C) "__ne__" = some (some (.builtin "object.__ne__"))) (hs : PySem.W.findIn X.K (.ref C) "__eq__" = some (some (.ref g))) (hf : PySem.W.isFn X.K (.ref g) = true)
    (F : FnR X.prog X.w X.K X.mg X.base CX n g sp) (hr : Room (n + 1) X.A) (hx : Passes CX X E) : OpR X (compareOp .NotEq) (rOwnNe X.K C sp E) := by
  intro pins s σ H x y v u Q I rx ry h
  obtain ⟨a, dx, vs, b, C', dy, ws, rfl, rfl, ha, hb, hn, q⟩ := h
  cases (show v = Value.ref a from rx)
  cases (show u = Value.ref b from ry)
  obtain ⟨sl, od, _, J, _⟩ := slt_inst I ha
  obtain ⟨sl', od', _, J', _⟩ := slt_inst I hb
  refine LPO.ne_own (tb := .ref C') (by have := hr.units; omega) I.kIn J J'.type hn hm hne hs hf ?_
  refine wpAny_mono (wpAny_call (run_at (us := [.ref a, .ref b]) (ws := [.ref a, .ref b]) F hr.in1 I.env0.in1 hx I (.cons rfl (.cons rfl .nil)) q)) (fun w s' z => ?_) fun _ _ x => x
  obtain ⟨z', H', I', rz, c, ez, qz⟩ := z
  subst ez
  cases (show w = Value.bool c from rz)
  exact ⟨c, rfl, .bl (!c), H', I', rfl, qz⟩
/-- x op y, both instances of the class at C whose def for op is at g -/
def rOwnB (C : Addr) (sp : Sp) (E : XK) : R2 := fun x y H Q => ∃ a dx vs b dy ws, x = .ref a ∧ y = .ref b ∧ Slt H a C dx vs ∧ Slt H b C dy ws ∧ sp [x, y] H Q E
theorem op_ownB {op : Operator} (hc : PySem.W.selfFirst X.K C = true) (hs : PySem.W.findIn X.K (.ref C) (PySem.dunder op.info.2) = some (some (.ref g))) (hf : PySem.W.isFn X.K (.ref g) = true)
    (F : FnR X.prog X.w X.K X.mg X.base CX n g sp) (hr : Room n X.A) (hx : Passes CX X E) : OpR X (binaryOp op) (rOwnB C sp E) := by
  intro pins s σ H x y v u Q I rx ry h
  obtain ⟨a, dx, vs, b, dy, ws, rfl, rfl, ha, hb, q⟩ := h
  cases (show v = Value.ref a from rx)
  cases (show u = Value.ref b from ry)
  obtain ⟨sl, od, _, J, _⟩ := slt_inst I ha
  obtain ⟨sl', od', _, J', _⟩ := slt_inst I hb
  obtain ⟨m, hF⟩ := I.fr
  refine PySem.W.binop_K (op := op) hF I.ok.mod.kin J J'.type hc hs hf ?_
  refine wpAny_mono (wpAny_call (run_fnR (us := [.ref a, .ref b]) (vs := [.ref a, .ref b]) F hr hx I (.cons rfl (.cons rfl .nil)) q)) (fun w s' z => ?_) fun _ _ x => x
  obtain ⟨z', H', I', rz, qz⟩ := z
  exact cmpback rz ⟨z', H', I', rz, qz⟩
/-- str(x) by an own __str__ -/
def rStrOwn (C : Addr) (sp : Sp) (E : XK) : List V → Hp → VK → Prop := fun xs H Q => ∃ a dx vs, xs = [V.ref a] ∧ Slt H a C dx vs ∧ sp [.ref a] H (fun z H' => ∃ y, z = .str y ∧ Q z H') E
theorem call_strOwn (hs : PySem.W.findIn X.K (.ref C) "__str__" = some (some (.ref g))) (hf : PySem.W.isFn X.K (.ref g) = true) (F : FnR X.prog X.w X.K X.mg X.base CX n g sp) (hr : Room (n + 2) X.A) (hx : Passes CX X E) : CallR X (.type "str") (rStrOwn C sp E) := by
  intro pins s σ H xs us Q I r h
  obtain ⟨a, dx, vs, rfl, hsl, q⟩ := h
  obtain ⟨u, rfl, ru⟩ := r.one
  cases (show u = Value.ref a from ru)
  obtain ⟨sl, od, _, J, _⟩ := slt_inst I hsl
  have hr2 : Room n X.A.in1.in1 := (show Room (n + 1) X.A.in1 from Room.in1 hr).in1
  refine PySem.W.kso_call hr2.units0 I.kIn J hs hf (wpAny_mono (wpAny_call (run_at (us := [.ref a]) (ws := [.ref a]) F hr2 I.env0.in1.in1 hx I (.cons rfl .nil) q)) (fun w s' z => ?_) fun _ _ x => x)
  obtain ⟨z', H', I', rz, y, ey, qz⟩ := z
  subst ey
  obtain ⟨t, e⟩ := (show ∃ t, w = Value.str y t from rz)
  cases e
  exact ⟨.str y, H', I', ⟨t, rfl⟩, qz⟩
end
end LP

set_option Elab.async false
set_option linter.all false
set_option maxRecDepth 100000
set_option maxHeartbeats 2000000
/-! LPR: comprehensions whose items are told by a relation that new objects keep; two generators; s.index(t) that is found. -/
namespace LP
open PySem PySem.Spec L2
open PyProof.Rows hiding St signs

/-- all but lists stays -/
def NL (H H' : Hp) : Prop := ∀ b o, (∀ xs, o ≠ HO.lst xs) → H b = some o → H' b = some o
theorem Same.nl {H H' : Hp} (h : Same H H') : NL H H' := fun b o _ e => h b o e
theorem NL.refl (H : Hp) : NL H H := fun _ _ _ e => e
theorem NL.trans {A B C : Hp} (h : NL A B) (k : NL B C) : NL A C := fun b o n e => k b o n (h b o n e)
theorem NL.put {H : Hp} {a : Addr} {xs ys : List V} (h : H a = some (.lst xs)) : NL H (upd H a (.lst ys)) := fun b o n e => by
  rw [upd_ne (fun z => ?_)]
  · exact e
  · rw [z, h] at e
    cases e
    exact n xs rfl
theorem NL.tup {K : PySem.W.Frag} {H H' : Hp} {a : Addr} {xs : List V} (e : NL H H') (h : SqT K H a xs) : SqT K H' a xs := by
  rcases h with (h | ⟨o, h⟩) | h
  · exact .inl (.inl (e _ _ (fun _ z => nomatch z) h))
  · exact .inl (.inr ⟨o, e _ _ (fun _ z => nomatch z) h⟩)
  · exact .inr h
/-- the list that is being written is new -/
theorem Same.lay {H H' : Hp} {D : Addr} {o : HO} (h : Same H H') (hD : H D = none) : Same H (upd H' D o) := fun b u e => by
  rw [upd_ne (ne_of_none e hD)]
  exact h b u e
theorem lc_rel {J : It} {n : Nat} {G : Hp → Prop} {Y : Nat → Hp → V → Hp → Prop} (W : Walk J n G Y) {g : TG} {te : TE} {vs : List Nat} {σ : St} {H : Hp} {Q : VK} (Rl : Nat → V → Hp → Prop)
    (mono : ∀ i y H1 H2, NL H1 H2 → Rl i y H1 → Rl i y H2) (hG : ∀ H1, Same H H1 → G H1) (hn : n ≤ 1000000)
    (he : ∀ i x H1 H2, i < n → Same H H1 → Y i H1 x H2 → ∀ R : VK, (∀ y H3, Same H1 H3 → Rl i y H3 → R y H3) → g x (wipe σ vs) H2 fun σ2 H3 => wipe σ2 vs = wipe σ vs ∧ te σ2 H3 R)
    (q : ∀ p ys H2, H p = none → Same H H2 → H2 p = some (.lst ys) → ys.length = n → (∀ i y, ys[i]? = some y → Rl i y H2) → Q (.ref p) H2) : LcLoop J g tYes te vs σ H Q := by
  intro D hD
  obtain ⟨Pv, hP⟩ : ∃ Pv : Nat → Hp → Prop, ∀ i H', Pv i H' ↔ (Same H H' ∧ ∃ ys, H' D = some (.lst ys) ∧ ys.length = i ∧ ∀ (j : Nat) y, ys[j]? = some y → Rl j y H') := ⟨_, fun _ _ => Iff.rfl⟩
  refine lc_it W Pv ((hP _ _).mpr ⟨Same.new hD, [], upd_same, rfl, fun j y z => by simp at z⟩) (fun i H' _ p => hG H' ((hP _ _).mp p).1) ?_ ?_
  · intro i x H1 H2 hi p hy
    obtain ⟨sm, ys, hd, hl, hr⟩ := (hP _ _).mp p
    refine he i x H1 H2 hi sm hy (fun y H4 => ∃ acc, H4 D = some (.lst acc) ∧ acc.length < sizeLine ∧ Pv (i + 1) (upd H4 D (.lst (acc ++ [y])))) fun y H3 s3 r => ⟨ys, s3 _ _ hd, ?_, (hP _ _).mpr ?_⟩
    · exact Nat.lt_of_le_of_lt (by omega : ys.length ≤ 1000000) (by decide)
    · have nl : NL H3 (upd H3 D (.lst (ys ++ [y]))) := NL.put (s3 _ _ hd)
      refine ⟨Same.lay (sm.trans s3) hD, ys ++ [y], upd_same, by rw [List.length_append, hl]; rfl, fun j z e => ?_⟩
      rw [List.getElem?_append] at e
      by_cases hj : j < ys.length
      · rw [if_pos hj] at e
        exact mono j z _ _ ((Same.nl s3).trans nl) (hr j z e)
      · rw [if_neg hj] at e
        have hz : j - ys.length = 0 := by
          have := (List.getElem?_eq_some_iff.mp e).1
          rw [List.length_singleton] at this
          omega
        rw [hz] at e
        have ej : j = i := by omega
        rw [ej]
        have ey : y = z := Option.some.inj e
        rw [← ey]
        exact mono i y _ _ nl r
  · intro H' p
    obtain ⟨sm, ys, hd, hl, hr⟩ := (hP _ _).mp p
    exact q D ys H' hD sm hd hl hr
/-- items that are values: the i-th is f i -/
theorem lc_val {J : It} {n : Nat} {G : Hp → Prop} {Y : Nat → Hp → V → Hp → Prop} (W : Walk J n G Y) {g : TG} {te : TE} {vs : List Nat} {σ : St} {H : Hp} {Q : VK} (f : Nat → V)
    (hG : ∀ H1, Same H H1 → G H1) (hn : n ≤ 1000000)
    (he : ∀ i x H1 H2, i < n → Same H H1 → Y i H1 x H2 → ∀ R : VK, (∀ H3, Same H1 H3 → R (f i) H3) → g x (wipe σ vs) H2 fun σ2 H3 => wipe σ2 vs = wipe σ vs ∧ te σ2 H3 R)
    (q : ∀ p H2, H p = none → Same H H2 → H2 p = some (.lst ((List.range n).map f)) → Q (.ref p) H2) : LcLoop J g tYes te vs σ H Q := by
  refine lc_rel W (fun i y _ => y = f i) (fun _ _ _ _ _ h => h) hG hn (fun i x H1 H2 hi sm hy R hR => he i x H1 H2 hi sm hy R fun H3 s3 => hR _ _ s3 rfl) fun p ys H2 hp sm hl hlen hr => q p H2 hp sm ?_
  rw [hl]
  congr 2
  refine List.ext_getElem? fun j => ?_
  rw [List.getElem?_map]
  by_cases hj : j < n
  · rw [List.getElem?_range hj]
    have e : ys[j]? = some ys[j] := List.getElem?_eq_getElem (by omega)
    rw [e, hr j _ e]
    rfl
  · rw [List.getElem?_eq_none (by omega), List.getElem?_eq_none (by rw [List.length_range]; omega)]
    rfl
/-- two generators, the test of each item true: all(..) of it -/
def Lc2Loop (J : It) (g : TG) (wi1 : TI) (g1 : TG) (te : TE) (vs vs1 : List Nat) (σ : St) (H1 : Hp) (Q : VK) : Prop := ∀ D, H1 D = none → ∃ W : Nat → Nat → Hp → Prop, (∃ m, W 0 m (upd H1 D (.lst []))) ∧ ∀ i m H, W i m H →
  (J.stop i H ∧ Q (.ref D) H) ∨ (J.go i H ∧ ∃ Nx : Hp → Prop, (∀ H', Nx H' → ∃ m', m' < m ∧ W (i + 1) m' H') ∧ ∀ x H', J.yld i H x H' → g x (wipe σ vs) H' fun σ2 H2 => wipe σ2 vs = wipe σ vs ∧ tYes σ2 H2 fun b H3 =>
    if b = true then wi1 σ2 H3 fun J1 H4 => ∃ W1 : Nat → Nat → Hp → Prop, (∃ m, W1 0 m H4) ∧ ∀ j k H, W1 j k H →
      (J1.stop j H ∧ Nx H) ∨ (J1.go j H ∧ ∃ Nx1 : Hp → Prop, (∀ H', Nx1 H' → ∃ k', k' < k ∧ W1 (j + 1) k' H') ∧ ∀ x H', J1.yld j H x H' → g1 x (wipe σ2 vs1) H' fun σ3 H5 => wipe σ3 vs1 = wipe σ2 vs1 ∧ tYes σ3 H5 fun b H6 =>
        if b = true then te σ3 H6 fun y H7 => ∃ acc, H7 D = some (.lst acc) ∧ acc.length < sizeLine ∧ Nx1 (upd H7 D (.lst (acc ++ [y]))) else Nx1 H6)
    else Nx H3)
theorem tLc2_eq (wi : TI) (g : TG) (wi1 : TI) (g1 : TG) (te : TE) (vs vs1 : List Nat) (σ : St) (H : Hp) (Q : VK) : tLc2 wi g tYes wi1 g1 tYes te vs vs1 σ H Q = wi σ H fun J H1 => Lc2Loop J g wi1 g1 te vs vs1 σ H1 Q := rfl
/-- every item is v -/
theorem lc2_all {J : It} {k : Nat} {G : Hp → Prop} {xs : List V} (W : Walk J xs.length G (YAt xs)) {j j1 : Nat} {wi1 : TI} {te : TE} {vs vs1 : List Nat} {σ : St} {H : Hp} {Q : VK} (v : V)
    (hG : ∀ H1, Same H H1 → G H1) (hn : xs.length * k ≤ 1000000) (hw : ∀ x, wipe ((wipe σ vs).set j (some x)) vs = wipe σ vs) (hw1 : ∀ x y, wipe ((wipe ((wipe σ vs).set j (some x)) vs1).set j1 (some y)) vs1 = wipe ((wipe σ vs).set j (some x)) vs1)
    (he : ∀ x, x ∈ xs → ∀ H1, Same H H1 → ∀ R : It → Hp → Prop, (∀ J1 G1 ys, Walk J1 ys.length G1 (YAt ys) → ys.length = k → (∀ H5, Same H H5 → G1 H5) →
      (∀ y, y ∈ ys → ∀ H5, Same H H5 → ∀ R' : VK, (∀ H7, Same H5 H7 → R' v H7) → te ((wipe ((wipe σ vs).set j (some x)) vs1).set j1 (some y)) H5 R') → R J1 H1) → wi1 ((wipe σ vs).set j (some x)) H1 R)
    (q : ∀ p H2, H p = none → Same H H2 → H2 p = some (.lst (List.replicate (xs.length * k) v)) → Q (.ref p) H2) : Lc2Loop J (gName j) wi1 (gName j1) te vs vs1 σ H Q := by
  intro D hD
  obtain ⟨Pv, hP⟩ : ∃ Pv : Nat → Hp → Prop, ∀ i H', Pv i H' ↔ (Same H H' ∧ H' D = some (.lst (List.replicate (i * k) v))) := ⟨_, fun _ _ => Iff.rfl⟩
  refine ⟨fun i m H' => m = xs.length - i ∧ i ≤ xs.length ∧ Pv i H', ⟨xs.length, rfl, Nat.zero_le _, (hP _ _).mpr ⟨Same.new hD, by rw [Nat.zero_mul]; exact upd_same⟩⟩, ?_⟩
  rintro i m H1 ⟨rfl, hi, p⟩
  obtain ⟨sm, hd⟩ := (hP _ _).mp p
  by_cases hlt : i < xs.length
  · refine .inr ⟨W.goes i H1 hlt (hG H1 sm), Pv (i + 1), fun H' p' => ⟨xs.length - (i + 1), by omega, rfl, hlt, p'⟩, fun x H' y => ?_⟩
    obtain ⟨rfl, ex⟩ := W.yields i H1 x H' hlt (hG H1 sm) y
    refine ⟨hw x, he x (List.mem_of_getElem? ex) H' sm _ fun J1 G1 ys W1 hl hG1 hte => ?_⟩
    obtain ⟨P1, hP1⟩ : ∃ P1 : Nat → Hp → Prop, ∀ j' H'', P1 j' H'' ↔ (Same H H'' ∧ H'' D = some (.lst (List.replicate (i * k + j') v))) := ⟨_, fun _ _ => Iff.rfl⟩
    refine ⟨fun j' m' H'' => m' = ys.length - j' ∧ j' ≤ ys.length ∧ P1 j' H'', ⟨ys.length, rfl, Nat.zero_le _, (hP1 _ _).mpr ⟨sm, hd⟩⟩, ?_⟩
    rintro j' m' H2 ⟨rfl, hj, p1⟩
    obtain ⟨sm2, hd2⟩ := (hP1 _ _).mp p1
    by_cases hlt2 : j' < ys.length
    · refine .inr ⟨W1.goes j' H2 hlt2 (hG1 H2 sm2), P1 (j' + 1), fun H'' p'' => ⟨ys.length - (j' + 1), by omega, rfl, hlt2, p''⟩, fun y' H'' y2 => ?_⟩
      obtain ⟨rfl, ey⟩ := W1.yields j' H2 y' H'' hlt2 (hG1 H2 sm2) y2
      refine ⟨hw1 x y', hte y' (List.mem_of_getElem? ey) H'' sm2 _ fun H7 s7 => ⟨_, s7 _ _ hd2, ?_, (hP1 _ _).mpr ⟨Same.lay (sm2.trans s7) hD, ?_⟩⟩⟩
      · rw [List.length_replicate]
        refine Nat.lt_of_le_of_lt (?_ : i * k + j' ≤ 1000000) (by decide)
        have h1 : i * k + k ≤ xs.length * k := by
          have := Nat.mul_le_mul_right k (show i + 1 ≤ xs.length from hlt)
          rw [Nat.succ_mul] at this
          exact this
        omega
      · rw [upd_same, show i * k + (j' + 1) = (i * k + j') + 1 by omega, List.replicate_succ']
    · have e : j' = ys.length := by omega
      subst e
      refine .inl ⟨W1.stops H2 (hG1 H2 sm2), (hP _ _).mpr ⟨sm2, ?_⟩⟩
      rw [hd2, hl, Nat.succ_mul]
  · have e : i = xs.length := by omega
    subst e
    exact .inl ⟨W.stops H1 (hG H1 sm), q D H1 hD sm hd⟩

/-! ### s.index(t), found -/
def rIxOf : V → List V → Hp → VK → Prop := fun x xs H Q => ∃ (a b : Str) (k : Nat), x = .str a ∧ xs = [.str b] ∧ Txt.index0 a b = some k ∧ Q (.int (k : Nat)) H
theorem mt_ixOf {X : Cx} : MtR X "str.index" rIxOf := by
  intro pins s σ H x xs v us Q I rx rs h
  obtain ⟨a, b, k, rfl, rfl, hk, q⟩ := h
  obtain ⟨t, rfl⟩ := rx
  cases rs with
  | cons r1 rs =>
    cases rs
    obtain ⟨u, rfl⟩ := r1
    unfold Txt.index0 at hk
    cases e : Builtin.Str.occurrences a b 0 a.length 1 with
    | nil =>
      rw [e] at hk
      cases hk
    | cons k' rest =>
      rw [e] at hk
      cases hk
      exact PySem.SC.index e ⟨.int (k : Nat), H, I.tok _, ⟨_, rfl⟩, q⟩
end LP

set_option Elab.async false
set_option linter.all false
set_option maxRecDepth 100000
set_option maxHeartbeats 2000000
/-! LPB: a slotted class of the text with its methods and properties, in short. -/
namespace LP
open PySem PySem.Spec L2 SlX
open PyProof.Rows hiding St signs

/-- both ways; simp does not see it -/
structure Bi (a b : Prop) : Prop where
  mp : a → b
  mpr : b → a
theorem inv_bi {α : Type} (P : α → L2.St → Hp → Prop) : ∃ Pv : α → L2.St → Hp → Prop, ∀ i σ H, Bi (Pv i σ H) (P i σ H) := ⟨P, fun _ _ _ => ⟨id, id⟩⟩
theorem inv_bi2 {α : Type} (P : α → Hp → Prop) : ∃ Pv : α → Hp → Prop, ∀ i H, Bi (Pv i H) (P i H) := ⟨P, fun _ _ => ⟨id, id⟩⟩
theorem ps_dead {X : Cx} {st : Stmt} : PS X st (fun _ _ _ => False) := ⟨fun _ _ _ _ _ _ h => h.elim⟩
theorem pe_dead {X : Cx} {e : Expr} : PE X e (fun _ _ _ => False) := ⟨fun _ _ _ _ _ _ h => h.elim⟩
/-- a slotted class -/
structure Ob (K : PySem.W.Frag) (mg : Str → Option Value) (x : Str) (C : Addr) : Prop where
  g : mg x = some (.ref C)
  sc : SCls K C
  si : SIsi K C
  kp : PySem.W.keepIn K (.ref C) = true
  mks : PySem.W.makesIn K C = true
  ne : PySem.W.findIn K (.ref C) "__ne__" = some (some (.builtin "object.__ne__"))
  sf : PySem.W.selfFirst K C = true
  nf : PySem.W.notFirst K C (.ref C) = true
  kit : PySem.W.kitOne K (.ref C) (.ref C) = some true
def obB (K : PySem.W.Frag) (C : Addr) : Bool :=
  PySem.W.plainGet K C Str.empty && PySem.W.isClsIn K C && PySem.W.plainOver K C &&
  decide (PySem.W.findIn K (.ref C) "__setattr__" = some (some (.builtin "object.__setattr__"))) &&
  decide (PySem.W.findIn K (.ref C) "__class__" = some (some (.builtin "object.__class__"))) &&
  decide (PySem.W.specialIn K (.builtin "object.__class__") "__get__" = some (some (.builtin "getset_descriptor.__get__"))) &&
  decide (PySem.W.takesIn K (.builtin "object.__class__") = some true) && decide (PySem.W.mroIn K C (.type "object") = some true) &&
  PySem.W.keepIn K (.ref C) && PySem.W.makesIn K C && decide (PySem.W.findIn K (.ref C) "__ne__" = some (some (.builtin "object.__ne__"))) &&
  PySem.W.selfFirst K C && PySem.W.notFirst K C (.ref C) && decide (PySem.W.kitOne K (.ref C) (.ref C) = some true)
theorem ob_of {K : PySem.W.Frag} {mg : Str → Option Value} {x : Str} {C : Addr} (g : mg x = some (.ref C)) (h : obB K C = true) : Ob K mg x C := by
  unfold obB at h
  simp only [Bool.and_eq_true, decide_eq_true_eq] at h
  obtain ⟨⟨⟨⟨⟨⟨⟨⟨⟨⟨⟨⟨⟨h1, h2⟩, h3⟩, h4⟩, h5⟩, h6⟩, h7⟩, h8⟩, h9⟩, h10⟩, h11⟩, h12⟩, h13⟩, h14⟩ := h
  exact ⟨g, ⟨h1, h2, h3, h4⟩, ⟨h5, h6, h7, h8⟩, h9, h10, h11, h12, h13, h14⟩
/-- the slot f at the place i -/
def slB (K : PySem.W.Frag) (C p : Addr) (f : Str) (i : Nat) : Bool :=
  decide (PySem.W.findIn K (.ref C) f = some (some (.ref p))) && decide (PySem.W.specialIn K (.ref p) "__get__" = some (some (.builtin "member_descriptor.__get__"))) &&
  decide (PySem.W.takesIn K (.ref p) = some true) && decide (PySem.W.typeIn K (.ref p) = some (.type "member_descriptor")) && decide (PySem.W.slotIn K p C = some i) && decide (i < 1000)
theorem sl_of {K : PySem.W.Frag} {C p : Addr} {f : Str} {i : Nat} (h : slB K C p f i = true) : Slot1 K C f p i := by
  unfold slB at h
  simp only [Bool.and_eq_true, decide_eq_true_eq] at h
  obtain ⟨⟨⟨⟨⟨h1, h2⟩, h3⟩, h4⟩, h5⟩, h6⟩ := h
  exact ⟨h1, h2, h3, h4, h5, h6⟩
/-- a def of the class -/
structure Mt (K : PySem.W.Frag) (C : Addr) (m q : Str) (st : Stmt) (ps : List Str) (f : Addr) (fd : FuncData) : Prop where
  F : Fun K m q st f fd
  at_ : PySem.W.findIn K (.ref C) m = some (some (.ref f))
  fn : PySem.W.isFn K (.ref f) = true
  b : Binds K fd ps []
theorem Mt.m {K : PySem.W.Frag} {C : Addr} {m q : Str} {st : Stmt} {ps : List Str} {f : Addr} {fd : FuncData} (D : Mt K C m q st ps f fd) : Meth K C m f := ⟨D.at_, D.fn, D.F.kp⟩
/-- a property of the class -/
structure Pt (K : PySem.W.Frag) (C : Addr) (m q : Str) (st : Stmt) (ps : List Str) (p f : Addr) (fd : FuncData) : Prop where
  F : Fun K m q st f fd
  at_ : PySem.W.findIn K (.ref C) m = some (some (.ref p))
  get : PySem.W.specialIn K (.ref p) "__get__" = some (some (.builtin "property.__get__"))
  tk : PySem.W.takesIn K (.ref p) = some true
  rc : ∃ rest, PySem.W.recIn K p "property" = some (.ref f :: rest)
  b : Binds K fd ps []

section
variable {X : Cx} {k : Nat} {C f p : Addr} {fd : FuncData} {ps : List Str} {sp : Sp} {x m q : Str} {st : Stmt} {np pos apos : Pos} {e o : Expr} {es : List Expr} {ta : TE} {t : TA}
/-- o.f, the i-th slot of an instance of the class at C -/
def tSlot (C : Addr) (i : Nat) (ta : TE) : TE := fun σ H Q => ta σ H fun x H1 => ∃ a dx vs v, x = .ref a ∧ Slt H1 a C dx vs ∧ vs[i]? = some (some v) ∧ Q v H1
theorem pe_slot {g : Str} {i : Nat} (O : Ob X.K X.mg x C) (S : Slot1 X.K C g p i) (he : PE X e ta) (hb : attributeBase e g X.env (eval e X.env) = eval e X.env := by rfl) : PE X (.Attribute e g pos) (tSlot C i ta) := by
  refine ⟨fun pins s σ H Q I h => ?_⟩
  refine attr_of hb (thn (he.run pins s σ H _ I h) fun u s1 ⟨x, H1, I1, rx, a, dx, vs, v, ex, hs, l, q⟩ => ?_)
  subst ex
  obtain rfl : u = Value.ref a := rx
  exact getslot_ok I1 hs O.sc S l fun u' s2 I2 ru => ⟨v, H1, I2, ru, q⟩
/-- o.m, a property -/
theorem pe_pr (O : Ob X.K X.mg x C) (D : Pt X.K C m q st ps p f fd) (G : FnOk X.prog X.w X.K X.mg X.base CX0 k f fd ps sp) (hr : Room (k + 1) X.A) (he : PE X o ta) (hb : attributeBase o m X.env (eval o X.env) = eval o X.env := by rfl) :
    PE X (.Attribute o m pos) (tPropSl C sp E0 ta) := pe_propSl he O.sc D.at_ D.get D.tk D.rc (toR G D.b) hr (fun _ _ _ _ z => z) hb
/-- o.m(e, ..) -/
theorem pe_mt {pl : Sem Bool} (O : Ob X.K X.mg x C) (D : Mt X.K C m q st ps f fd) (G : FnOk X.prog X.w X.K X.mg X.base CX0 k f fd ps sp) (hr : Room k X.A) (he : PE X o ta) (ha : PA X (e :: es) t)
    (hst : starEach (e :: es) X.env = (false, eval e X.env) :: starEach es X.env := by rfl) (hpl : (backTo pos (starEach es X.env)).any (·.1) = false := by rfl)
    (ht : eval (.Call (.Attribute o m apos) (e :: es) [] pos) X.env = (do
      let ov ← eval o X.env
      standAt apos.atName
      let (f, first) ← holding [ov] (getMethod ov m pl)
      callWith pos f first (backTo pos (starEach (e :: es) X.env)) (backToKw pos (keywordEach [] X.env))) := by rfl) :
    PE X (.Call (.Attribute o m apos) (e :: es) [] pos) (tMethSl C sp E0 ta t) := pe_methSl he O.sc D.m (toR G D.b) hr pass0 ha hst hpl ht
theorem pe_mt0 {pl : Sem Bool} (O : Ob X.K X.mg x C) (D : Mt X.K C m q st ps f fd) (G : FnOk X.prog X.w X.K X.mg X.base CX0 k f fd ps sp) (hr : Room k X.A) (he : PE X o ta)
    (ht : eval (.Call (.Attribute o m apos) [] [] pos) X.env = (do
      let ov ← eval o X.env
      standAt apos.atName
      let (f, first) ← holding [ov] (getMethod ov m pl)
      callWith pos f first (backTo pos (starEach [] X.env)) (backToKw pos (keywordEach [] X.env))) := by rfl) :
    PE X (.Call (.Attribute o m apos) [] [] pos) (tMethSl C sp E0 ta tNil) := pe_methSl0 he O.sc D.m (toR G D.b) hr pass0 ht
/-- C(e, ..) -/
theorem pe_mkS (O : Ob X.K X.mg x C) (D : Mt X.K C "__init__" q st ps f fd) (G : FnOk X.prog X.w X.K X.mg X.base CX0 k f fd ps sp) (hr : Room (k + 1) X.A) (hg : Gl X x) (ha : PA X (e :: es) t) (hdb : (x == ("__debug__" : Str)) = false := by decide)
    (he : starEach (e :: es) X.env = (false, eval e X.env) :: starEach es X.env := by rfl) (hpl : (backTo pos (starEach es X.env)).any (·.1) = false := by rfl) : PE X (.Call (.Name x np) (e :: es) [] pos) (StX.tMakeR C sp E0 t) :=
  StX.pe_makeR ⟨O.mks, D.at_, D.fn, O.kp⟩ (toR G D.b) hr hg O.g pass0 ha hdb he hpl
theorem op_eqS (O : Ob X.K X.mg x C) (D : Mt X.K C "__eq__" q st ps f fd) (G : FnOk X.prog X.w X.K X.mg X.base CX0 k f fd ps sp) (hr : Room k X.A) : OpR X (compareOp .Eq) (rOwn X.K C sp E0) :=
  op_own (fun _ _ => rfl) D.at_ D.fn (toR G D.b) hr pass0
theorem op_neS (O : Ob X.K X.mg x C) (D : Mt X.K C "__eq__" q st ps f fd) (G : FnOk X.prog X.w X.K X.mg X.base CX0 k f fd ps sp) (hr : Room (k + 1) X.A) : OpR X (compareOp .NotEq) (rOwnNe X.K C sp E0) :=
  op_ownNe O.si.cm O.ne D.at_ D.fn (toR G D.b) hr pass0
theorem op_binS {op : Operator} (O : Ob X.K X.mg x C) (D : Mt X.K C (PySem.dunder op.info.2) q st ps f fd) (G : FnOk X.prog X.w X.K X.mg X.base CX0 k f fd ps sp) (hr : Room k X.A) : OpR X (binaryOp op) (rOwnB C sp E0) :=
  op_ownB O.sf D.at_ D.fn (toR G D.b) hr pass0
theorem call_strS (D : Mt X.K C "__str__" q st ps f fd) (G : FnOk X.prog X.w X.K X.mg X.base CX0 k f fd ps sp) (hr : Room (k + 2) X.A) : CallR X (.type "str") (rStrOwn C sp E0) :=
  call_strOwn D.at_ D.fn (toR G D.b) hr pass0
/-- isinstance(x, C), x of the class itself -/
def rIsS (C : Addr) : List V → Hp → VK → Prop := fun xs H Q => ∃ a dx vs, xs = [V.ref a, .ref C] ∧ Slt H a C dx vs ∧ Q (.bl true) H
theorem call_isS (O : Ob X.K X.mg x C) : CallR X (.builtin "isinstance") (rIsS C) := by
  intro pins s σ H xs us Q I r h
  obtain ⟨a, dx, vs, rfl, hs, q⟩ := h
  exact call_isiSl (.ref C) pins s σ H _ us Q I r ⟨a, C, dx, vs, .ref C, true, rfl, rfl, fun w e => e, hs, O.sc, O.si, O.kit, q⟩
/-- x(e, ..) by a promise by positional values -/
theorem pe_dfR (F : FnR X.prog X.w X.K X.mg X.base CX0 k f sp) (hr : Room k X.A) (hk : PySem.W.keepIn X.K (.ref f) = true) (hg : Gl X x) (hm : X.mg x = some (.ref f)) (ha : PA X (e :: es) t) (hdb : (x == ("__debug__" : Str)) = false := by decide)
    (he : starEach (e :: es) X.env = (false, eval e X.env) :: starEach es X.env := by rfl) (hpl : (backTo pos (starEach es X.env)).any (·.1) = false := by rfl) :
    PE X (.Call (.Name x np) (e :: es) [] pos) (fun σ H Q => t σ H fun vs H1 => sp vs H1 Q E0) := by
  refine ⟨fun pins s σ H Q I h => ?_⟩
  refine wpAny_Call_Name_kw (ld_glob I hg hm ?_ hdb)
  refine PySem.W.callWith_K (h₀ := X.base) I.ok.mod.kin hk (thn (ha.run pos pins s σ H _ I h) fun us s1 ⟨vs, H1, I1, r, q⟩ => ⟨I1.kIn, ?_⟩) he hpl
  exact wpAny_call (run_fnR F hr pass0 I1 r q)
end
/-- def f( *v) of the text -/
structure Sf (K : PySem.W.Frag) (mg : Str → Option Value) (x : Str) (st : Stmt) (pv : Str) (f : Addr) (fd : FuncData) : Prop where
  F : Fun K x x st f fd
  g : mg x = some (.ref f)
  b : ∀ rest : List Value, bindArgs fd ⟨rest, []⟩ = (newTuple rest >>= fun t => pure [(pv, t)])
theorem Sf.ok {P : Program} {w : World} {K : PySem.W.Frag} {mg : Str → Option Value} {base : Heap} {x : Str} {st : Stmt} {pv : Str} {f : Addr} {fd : FuncData} {N : List Str} {k : Nat} {sp : Sp} (D : Sf K mg x st pv f fd) (S : FnScope N [pv] (defScope st))
    (hbody : ∀ (cdv : Value) (A : Around) (outer : List Env) (s : Shared) (H : Hp) (vs : List V) (Q : VK) (E : XK), Room k (A.deeper (envOfC x (defScope st) s.heap.objs.size f cdv)) → sp vs H Q E →
      ∃ t, PSs (cxOf CX0 P w K mg base N x (defScope st) f cdv A outer s H E).nox (defBody st) t ∧ t { nx := fun _ H' => Q .non H', rt := Q } (start N vs) H) :
    FnR P w K mg base CX0 (k + 1) f (fun vs H Q E => vs.length ≤ sizeLine ∧ ∀ p, H p = none → sp [V.ref p] (upd H p (.tup vs)) Q E) := by
  obtain ⟨oc, od, kV, doc, pm, an, cdv, ct, osl, rfl, lk, hcd⟩ := D.F.ex
  refine (StX.fn_star (ps := []) (pv := pv) (sp := sp) lk hcd S StX.cxUp_none (fun us rest hl => ?_) fun A outer s H vs Q E hr hsp => ?_).imp fun vs H Q E h => ⟨[], vs, rfl, rfl, h.1, h.2⟩
  · have e : us = [] := List.length_eq_zero_iff.mp hl
    subst e
    exact D.b rest
  · obtain ⟨t, h, q⟩ := hbody cdv A outer s H vs Q E hr hsp
    exact ⟨t, h.nox, q⟩
theorem Same.slt {H H' : Hp} {a C dx : Addr} {vs : List (Option V)} (e : Same H H') (h : Slt H a C dx vs) : Slt H' a C dx vs := by
  rcases h with ⟨h1, h2⟩ | ⟨h1, h2⟩
  · exact .inl ⟨e _ _ h1, h2⟩
  · exact .inr ⟨e _ _ h1, e _ _ h2⟩
/-- behind a store into a new instance: all that was there stays -/
theorem Same.made {H : Hp} {x dx C : Addr} {vs : List (Option V)} (hx : H x = none) (hd : H dx = none) : Same H (slH (upd (upd H dx (.own x)) x (.ins C dx [])) x C dx vs) := fun b o e => by
  have h1 := ne_of_none e hx
  have h2 := ne_of_none e hd
  rw [slH_ne h1 h2, upd_ne h1, upd_ne h2]
  exact e
end LP
/-! ### the same rules with the written part told: for use within comprehensions -/
namespace LP
open PySem PySem.Spec L2 SlX
open PyProof.Rows hiding St signs
section
variable {X : Cx} {K : PySem.W.Frag}
def rLenS (K : PySem.W.Frag) : List V → Hp → VK → Prop := fun xs H Q => ∃ p ys, xs = [.ref p] ∧ (SqL K H p ys ∨ SqT K H p ys) ∧ Q (.int ys.length) H
theorem call_lenK (hK : X.K = K) : CallR X (.builtin "len") (rLenS K) := by subst hK; exact call_len_seq
theorem ix_tupK (hK : X.K = K) : IxR X (rIxT K) := by subst hK; exact ix_tup
theorem ix_listK (hK : X.K = K) : IxR X (rIxL K) := by subst hK; exact ix_list
def rTupOf (K : PySem.W.Frag) : List V → Hp → VK → Prop := fun xs H Q => ∃ p ys, xs = [.ref p] ∧ ((SqL K H p ys ∧ ∀ l, H l = none → Q (.ref l) (upd H l (.tup ys))) ∨ (SqT K H p ys ∧ Q (.ref p) H))
theorem call_tupleK (hK : X.K = K) : CallR X (.type "tuple") (rTupOf K) := by subst hK; exact call_tuple_of
theorem cr_minK' (hK : X.K = K) (hc : X.calm = true) : CallR X (.builtin "min") (rMin K) := by subst hK; exact cr_min hc
theorem cr_maxK' (hK : X.K = K) (hc : X.calm = true) : CallR X (.builtin "max") (rMax K) := by subst hK; exact cr_max hc
theorem pi_tupK {tg l : Expr} {tl : TE} (hK : X.K = K) (hl : PE X l tl) : PI X tg l (iTup K tl) := by subst hK; exact pi_tup hl
theorem pi_listK {tg l : Expr} {tl : TE} (hK : X.K = K) (hl : PE X l tl) : PI X tg l (iList K tl) := by subst hK; exact pi_list hl
theorem pi_zipNK {tg e : Expr} {es : List Expr} {ta : TA} {p pos : Pos} (hK : X.K = K) (hg : Gl X "zip") (hm : X.mg "zip" = none) (ha : PA X (e :: es) ta)
    (hs : starEach (e :: es) X.env = (false, eval e X.env) :: starEach es X.env := by rfl) (hpl : (backTo pos (starEach es X.env)).any (·.1) = false := by rfl) :
    PI X tg (.Call (.Name "zip" p) (e :: es) [] pos) (LZ.iZipN K ta) := by subst hK; exact LZ.pi_zipN hg hm ha hs hpl
theorem pi_zipSK {tg e : Expr} {te : TE} {p sp_ pos : Pos} (hK : X.K = K) (hg : Gl X "zip") (hm : X.mg "zip" = none) (he : PE X e te)
    (hst : starEach [.Starred e sp_] X.env = [(true, eval e X.env)] := by rfl) :
    PI X tg (.Call (.Name "zip" p) [.Starred e sp_] [] pos) (LZ.iZipS K te) := by subst hK; exact LZ.pi_zipS hg hm he hst
theorem pi_enumNK {tg e : Expr} {ta : TA} {p pos : Pos} (hK : X.K = K) (hg : Gl X "enumerate") (hm : X.mg "enumerate" = none) (ha : PA X [e] ta) (hs : starEach [e] X.env = [(false, eval e X.env)] := by rfl) :
    PI X tg (.Call (.Name "enumerate" p) [e] [] pos) (LZ.iEnumN K ta) := by subst hK; exact LZ.pi_enumN hg hm ha hs
def rLenTM : List V → Hp → VK → Prop := fun xs H Q => ∃ p ys, xs = [.ref p] ∧ H p = some (.tup ys) ∧ Q (.int ys.length) H
theorem call_lenT : CallR X (.builtin "len") rLenTM := call_imp call_len_seq fun xs H Q ⟨p, ys, h1, h2, q⟩ => ⟨p, ys, h1, .inr (SqT.of h2), q⟩
def rIxTM : R2 := fun x y H Q => ∃ p xs i v, x = .ref p ∧ y = .int i ∧ H p = some (.tup xs) ∧ atI xs i = some v ∧ Q v H
theorem ix_TM : IxR X rIxTM := ix_imp ix_tup fun x y H Q ⟨p, xs, i, v, h1, h2, h3, h4, q⟩ => ⟨p, xs, i, v, h1, h2, SqT.of h3, h4, q⟩
def rTupM : List V → Hp → VK → Prop := fun xs H Q => ∃ p ys, xs = [.ref p] ∧ H p = some (.lst ys) ∧ ∀ l, H l = none → Q (.ref l) (upd H l (.tup ys))
theorem call_tupM : CallR X (.type "tuple") rTupM := call_imp call_tuple_of fun xs H Q ⟨p, ys, h1, h2, q⟩ => ⟨p, ys, h1, .inl ⟨SqL.of h2, q⟩⟩
def rJoin (K : PySem.W.Frag) : V → List V → Hp → VK → Prop := fun x xs H Q => ∃ a p, ∃ ys : List Str, x = .str a ∧ xs = [.ref p] ∧ (SqL K H p (ys.map V.str) ∨ SqT K H p (ys.map V.str)) ∧
    (ys.map (·.length)).sum + ys.length * a.length ≤ 16777216 ∧ Q (.str (Txt.join a ys)) H
theorem mt_joinK (hK : X.K = K) : MtR X "str.join" (rJoin K) := by subst hK; exact mt_join
theorem pg_tupK {es : List Expr} {k : Nat} {t : TGs} {n : Nat} {pos : Pos} (hK : X.K = K) (hc : X.calm = true) (h : PGs X es t)
    (hn : (assignEach es X.env).length = n := by rfl) (hst : (assignEach es X.env).findIdx? (·.1) = none := by rfl) : PG X (.Tuple es k pos) (gTup K n t) := by subst hK; exact pg_tup hc h hn hst
theorem pg_lstK {es : List Expr} {k : Nat} {t : TGs} {n : Nat} {pos : Pos} (hK : X.K = K) (hc : X.calm = true) (h : PGs X es t)
    (hn : (assignEach es X.env).length = n := by rfl) (hst : (assignEach es X.env).findIdx? (·.1) = none := by rfl) : PG X (.Tuple es k pos) (gLst K n t) := by subst hK; exact pg_lst hc h hn hst
theorem pe_slK {e : Expr} {f : Str} {pos : Pos} {ta : TE} (hK : X.K = K) (he : PE X e ta) (hb : attributeBase e f X.env (eval e X.env) = eval e X.env := by rfl) : PE X (.Attribute e f pos) (tSl K ta f) := by subst hK; exact pe_sl he hb
theorem op_eqSK {C f : Addr} {fd : FuncData} {ps : List Str} {sp : Sp} {x q : Str} {st : Stmt} {k : Nat} (hK : X.K = K) (O : Ob X.K X.mg x C) (D : Mt X.K C "__eq__" q st ps f fd) (G : FnOk X.prog X.w X.K X.mg X.base CX0 k f fd ps sp) (hr : Room k X.A) : OpR X (compareOp .Eq) (rOwn K C sp E0) := by
  subst hK; exact op_eqS O D G hr
theorem op_neSK {C f : Addr} {fd : FuncData} {ps : List Str} {sp : Sp} {x q : Str} {st : Stmt} {k : Nat} (hK : X.K = K) (O : Ob X.K X.mg x C) (D : Mt X.K C "__eq__" q st ps f fd) (G : FnOk X.prog X.w X.K X.mg X.base CX0 k f fd ps sp) (hr : Room (k + 1) X.A) : OpR X (compareOp .NotEq) (rOwnNe K C sp E0) := by
  subst hK; exact op_neS O D G hr
end
end LP

set_option linter.all false
/-! SQ: squares of signs in plain words: products (least over the greater), repeats of stable squares. -/
namespace SQ
/-- the least of f 0 .. f (n-1), and 3 -/
def mn : Nat → (Nat → Nat) → Nat
  | 0, _ => 3
  | n + 1, f => min (mn n f) (f n)
theorem mn_le {n : Nat} {f : Nat → Nat} {v : Nat} : mn n f ≤ v ↔ 3 ≤ v ∨ ∃ k, k < n ∧ f k ≤ v := by
  induction n with
  | zero => simp [mn]
  | succ n ih =>
    rw [mn, show (min (mn n f) (f n) ≤ v) = (mn n f ≤ v ∨ f n ≤ v) from propext (by omega), ih]
    constructor
    · rintro ((h | ⟨k, h, h'⟩) | h)
      · exact .inl h
      · exact .inr ⟨k, by omega, h'⟩
      · exact .inr ⟨n, by omega, h⟩
    · rintro (h | ⟨k, h, h'⟩)
      · exact .inl (.inl h)
      · by_cases e : k = n
        · subst e
          exact .inr h'
        · exact .inl (.inr ⟨k, by omega, h'⟩)
theorem le_ext {a b : Nat} (h : ∀ v, a ≤ v ↔ b ≤ v) : a = b := Nat.le_antisymm ((h b).mpr (Nat.le_refl _)) ((h a).mp (Nat.le_refl _))
abbrev Sq := Nat → Nat → Nat
def mul (n : Nat) (A B : Sq) : Sq := fun i j => mn n fun k => max (A i k) (B k j)
theorem mul_le {n : Nat} {A B : Sq} {i j v : Nat} : mul n A B i j ≤ v ↔ 3 ≤ v ∨ ∃ k, k < n ∧ A i k ≤ v ∧ B k j ≤ v := by
  unfold mul
  rw [mn_le]
  constructor
  · rintro (h | ⟨k, h, h'⟩)
    · exact .inl h
    · exact .inr ⟨k, h, by omega, by omega⟩
  · rintro (h | ⟨k, h, h1, h2⟩)
    · exact .inl h
    · exact .inr ⟨k, h, by omega⟩
theorem mul_assoc (n : Nat) (A B C : Sq) : mul n (mul n A B) C = mul n A (mul n B C) := by
  funext i j
  refine le_ext fun v => ?_
  simp only [mul_le]
  constructor
  · rintro (h | ⟨k, hk, h | ⟨l, hl, h1, h2⟩, h3⟩)
    · exact .inl h
    · exact .inl h
    · exact .inr ⟨l, hl, h1, .inr ⟨k, hk, h2, h3⟩⟩
  · rintro (h | ⟨k, hk, h1, h | ⟨l, hl, h2, h3⟩⟩)
    · exact .inl h
    · exact .inl h
    · exact .inr ⟨l, hl, .inr ⟨k, hk, h1, h2⟩, h3⟩
/-- 1 becomes 2 -/
def g (x : Nat) : Nat := if x = 1 then 2 else x
theorem g_le (x : Nat) : x ≤ g x := by
  unfold g
  split <;> omega
theorem g_one (x : Nat) : g x ≠ 1 := by
  unfold g
  split <;> omega
/-- the repeat of a square -/
def rep (n : Nat) (E : Sq) : Sq := fun i m => mn n fun j => max (max (E i j) (g (E j j))) (E j m)
theorem rep_le {n : Nat} {E : Sq} {i m v : Nat} : rep n E i m ≤ v ↔ 3 ≤ v ∨ ∃ j, j < n ∧ E i j ≤ v ∧ g (E j j) ≤ v ∧ E j m ≤ v := by
  unfold rep
  rw [mn_le]
  constructor
  · rintro (h | ⟨k, h, h'⟩)
    · exact .inl h
    · exact .inr ⟨k, h, by omega, by omega, by omega⟩
  · rintro (h | ⟨k, h, h1, h2, h3⟩)
    · exact .inl h
    · exact .inr ⟨k, h, by omega⟩
/-- a stable square, in the sizes up to n -/
structure St (n : Nat) (E : Sq) : Prop where
  top : ∀ i j, i < n → j < n → E i j ≤ 3
  idem : ∀ i j, i < n → j < n → mul n E E i j = E i j
section
variable {n : Nat} {E : Sq} (h : St n E)
theorem St.tri (h : St n E) {i j k v : Nat} (hi : i < n) (hj : j < n) (hk : k < n) (h1 : E i k ≤ v) (h2 : E k j ≤ v) : E i j ≤ v := by
  rw [← h.idem i j hi hj]
  exact mul_le.mpr (.inr ⟨k, hk, h1, h2⟩)
theorem St.dense (h : St n E) {i j v : Nat} (hi : i < n) (hj : j < n) (hv : v < 3) (h1 : E i j ≤ v) : ∃ k, k < n ∧ E i k ≤ v ∧ E k j ≤ v := by
  rw [← h.idem i j hi hj, mul_le] at h1
  rcases h1 with h1 | h1
  · omega
  · exact h1
/-- the repeat is at least the square -/
theorem St.rep_ge (h : St n E) {i m : Nat} (hi : i < n) (hm : m < n) : E i m ≤ rep n E i m := by
  have q : rep n E i m ≤ rep n E i m := Nat.le_refl _
  rw [rep_le] at q
  rcases q with q | ⟨j, hj, h1, _, h3⟩
  · exact Nat.le_trans (h.top i m hi hm) q
  · exact h.tri hi hm hj h1 h3
theorem rep_top {i m : Nat} : rep n E i m ≤ 3 := rep_le.mpr (.inl (Nat.le_refl 3))
/-- the repeat is stable -/
theorem St.rep (h : St n E) : St n (SQ.rep n E) := by
  refine ⟨fun i j _ _ => rep_top, fun i m hi hm => le_ext fun v => ?_⟩
  rw [mul_le]
  constructor
  · rintro (q | ⟨k, hk, q1, q2⟩)
    · exact Nat.le_trans rep_top q
    · rw [rep_le] at q1 q2
      rcases q1 with q1 | ⟨j, hj, a1, a2, a3⟩
      · exact Nat.le_trans rep_top q1
      · rcases q2 with q2 | ⟨l, hl, b1, b2, b3⟩
        · exact Nat.le_trans rep_top q2
        · exact rep_le.mpr (.inr ⟨j, hj, a1, a2, h.tri hj hm hk a3 (h.tri hk hm hl b1 b3)⟩)
  · intro q
    rw [rep_le] at q
    rcases q with q | ⟨j, hj, a1, a2, a3⟩
    · exact .inl q
    · have e := Nat.le_trans (g_le (E j j)) a2
      exact .inr ⟨j, hj, rep_le.mpr (.inr ⟨j, hj, a1, a2, e⟩), rep_le.mpr (.inr ⟨j, hj, e, a2, a3⟩)⟩
/-- repeated again it is the same -/
theorem St.rep_rep (h : St n E) {i m : Nat} (hi : i < n) (hm : m < n) : SQ.rep n (SQ.rep n E) i m = SQ.rep n E i m := by
  refine le_ext fun v => ⟨fun q => Nat.le_trans (h.rep.rep_ge hi hm) q, fun q => ?_⟩
  rw [rep_le] at q ⊢
  rcases q with q | ⟨j, hj, a1, a2, a3⟩
  · exact .inl q
  · have e := Nat.le_trans (g_le (E j j)) a2
    have f1 : SQ.rep n E i j ≤ v := rep_le.mpr (.inr ⟨j, hj, a1, a2, e⟩)
    have f2 : SQ.rep n E j m ≤ v := rep_le.mpr (.inr ⟨j, hj, e, a2, a3⟩)
    have f3 : SQ.rep n E j j ≤ g (E j j) := rep_le.mpr (.inr ⟨j, hj, g_le _, Nat.le_refl _, g_le _⟩)
    refine .inr ⟨j, hj, f1, ?_, f2⟩
    have o := g_one (E j j)
    have f4 : g (SQ.rep n E j j) ≤ g (E j j) := by
      generalize SQ.rep n E j j = r at f3
      generalize g (E j j) = s at f3 o
      unfold g
      split <;> omega
    exact Nat.le_trans f4 a2
theorem St.mul_rep (h : St n E) {i m : Nat} (hi : i < n) (hm : m < n) : mul n E (SQ.rep n E) i m = SQ.rep n E i m := by
  refine le_ext fun v => ?_
  rw [mul_le, rep_le]
  constructor
  · rintro (q | ⟨k, hk, q1, q2⟩)
    · exact .inl q
    · rw [rep_le] at q2
      rcases q2 with q2 | ⟨j, hj, a1, a2, a3⟩
      · exact .inl q2
      · exact .inr ⟨j, hj, h.tri hi hj hk q1 a1, a2, a3⟩
  · rintro (q | ⟨j, hj, a1, a2, a3⟩)
    · exact .inl q
    · have e := Nat.le_trans (g_le (E j j)) a2
      exact .inr ⟨j, hj, a1, rep_le.mpr (.inr ⟨j, hj, e, a2, a3⟩)⟩
theorem St.rep_mul (h : St n E) {i m : Nat} (hi : i < n) (hm : m < n) : mul n (SQ.rep n E) E i m = SQ.rep n E i m := by
  refine le_ext fun v => ?_
  rw [mul_le, rep_le]
  constructor
  · rintro (q | ⟨k, hk, q1, q2⟩)
    · exact .inl q
    · rw [rep_le] at q1
      rcases q1 with q1 | ⟨j, hj, a1, a2, a3⟩
      · exact .inl q1
      · exact .inr ⟨j, hj, a1, a2, h.tri hj hm hk a3 q2⟩
  · rintro (q | ⟨j, hj, a1, a2, a3⟩)
    · exact .inl q
    · have e := Nat.le_trans (g_le (E j j)) a2
      exact .inr ⟨j, hj, rep_le.mpr (.inr ⟨j, hj, a1, a2, e⟩), a3⟩
/-- an entry below 3 goes over a place whose loop is no more (sizes up to 4) -/
theorem St.loop (h : St n E) (hn : n ≤ 4) {i j v : Nat} (hi : i < n) (hj : j < n) (hv : v < 3) (h1 : E i j ≤ v) : ∃ k, k < n ∧ E i k ≤ v ∧ E k k ≤ v ∧ E k j ≤ v := by
  -- backwards from j: five places, each before the one ahead of it
  obtain ⟨a, ha, a1, a2⟩ := h.dense hi hj hv h1
  obtain ⟨b, hb, b1, b2⟩ := h.dense hi ha hv a1
  obtain ⟨c, hc, c1, c2⟩ := h.dense hi hb hv b1
  obtain ⟨d, hd, d1, d2⟩ := h.dense hi hc hv c1
  obtain ⟨e, he, e1, e2⟩ := h.dense hi hd hv d1
  have ba := b2
  have cb := c2
  have dc := d2
  have ed := e2
  have ca := h.tri hc ha hb cb ba
  have da := h.tri hd ha hc dc ca
  have db := h.tri hd hb hc dc cb
  have ea := h.tri he ha hd ed da
  have eb := h.tri he hb hd ed db
  have ec := h.tri he hc hd ed dc
  have bj := h.tri hb hj ha ba a2
  have cj := h.tri hc hj ha ca a2
  have dj := h.tri hd hj ha da a2
  by_cases x1 : a = b
  · subst x1
    exact ⟨a, ha, a1, ba, a2⟩
  by_cases x2 : a = c
  · subst x2
    exact ⟨a, ha, a1, ca, a2⟩
  by_cases x3 : a = d
  · subst x3
    exact ⟨a, ha, a1, da, a2⟩
  by_cases x4 : a = e
  · subst x4
    exact ⟨a, ha, a1, ea, a2⟩
  by_cases x5 : b = c
  · subst x5
    exact ⟨b, hb, b1, cb, bj⟩
  by_cases x6 : b = d
  · subst x6
    exact ⟨b, hb, b1, db, bj⟩
  by_cases x7 : b = e
  · subst x7
    exact ⟨b, hb, b1, eb, bj⟩
  by_cases x8 : c = d
  · subst x8
    exact ⟨c, hc, c1, dc, cj⟩
  by_cases x9 : c = e
  · subst x9
    exact ⟨c, hc, c1, ec, cj⟩
  by_cases x10 : d = e
  · subst x10
    exact ⟨d, hd, d1, ed, dj⟩
  omega
/-- 0 stays 0, and what is below 3 stays below 3 -/
theorem St.rep_zero (h : St n E) (hn : n ≤ 4) {i j : Nat} (hi : i < n) (hj : j < n) : SQ.rep n E i j = 0 ↔ E i j = 0 := by
  constructor
  · intro q
    have := h.rep_ge hi hj
    omega
  · intro q
    obtain ⟨k, hk, k1, k2, k3⟩ := h.loop hn hi hj (v := 0) (by omega) (by omega)
    have e : E k k = 0 := by omega
    refine Nat.le_zero.mp (rep_le.mpr (.inr ⟨k, hk, k1, ?_, k3⟩))
    rw [e]
    exact Nat.le_refl 0
theorem St.rep_three (h : St n E) (hn : n ≤ 4) {i j : Nat} (hi : i < n) (hj : j < n) : SQ.rep n E i j = 3 ↔ E i j = 3 := by
  have t := h.top i j hi hj
  constructor
  · intro q
    by_cases z : E i j ≤ 2
    · exfalso
      obtain ⟨k, hk, k1, k2, k3⟩ := h.loop hn hi hj (v := 2) (by omega) z
      have r : SQ.rep n E i j ≤ 2 := rep_le.mpr (.inr ⟨k, hk, k1, by unfold g; split <;> omega, k3⟩)
      omega
    · omega
  · intro q
    have r := h.rep_ge hi hj
    have r2 : SQ.rep n E i j ≤ 3 := rep_top
    omega
end
end SQ

set_option linter.all false
set_option maxRecDepth 100000
/-! SQB: the twelfth power of a square of up to four places is stable. -/
namespace SQ
/-- a row times a Boolean square of four rows of four bits -/
def rm (r b : Nat) : Nat := (r % 2 * (b % 16)) ||| (r / 2 % 2 * (b / 16 % 16)) ||| (r / 4 % 2 * (b / 256 % 16)) ||| (r / 8 % 2 * (b / 4096 % 16))
def bm (a b : Nat) : Nat := rm (a % 16) b + 16 * rm (a / 16 % 16) b + 256 * rm (a / 256 % 16) b + 4096 * rm (a / 4096 % 16) b
def row (x i : Nat) : Nat := x / 16 ^ i % 16
def bit (x i j : Nat) : Bool := (row x i).testBit j
theorem rm_lt (r b : Nat) : rm r b < 16 := by
  have h : ∀ x y : Nat, x % 2 * (y % 16) < 2 ^ 4 := by
    intro x y
    rcases Nat.mod_two_eq_zero_or_one x with e | e <;> rw [e] <;> omega
  unfold rm
  exact Nat.or_lt_two_pow (Nat.or_lt_two_pow (Nat.or_lt_two_pow (h _ _) (h _ _)) (h _ _)) (h _ _)
theorem bm_lt (a b : Nat) : bm a b < 65536 := by
  have h0 := rm_lt (a % 16) b
  have h1 := rm_lt (a / 16 % 16) b
  have h2 := rm_lt (a / 256 % 16) b
  have h3 := rm_lt (a / 4096 % 16) b
  unfold bm
  omega
theorem row_bm (a b i : Nat) (hi : i < 4) : row (bm a b) i = rm (row a i) b := by
  have h0 := rm_lt (a % 16) b
  have h1 := rm_lt (a / 16 % 16) b
  have h2 := rm_lt (a / 256 % 16) b
  have h3 := rm_lt (a / 4096 % 16) b
  have hi' : i = 0 ∨ i = 1 ∨ i = 2 ∨ i = 3 := by omega
  rcases hi' with rfl | rfl | rfl | rfl <;> simp only [row, bm, Nat.reducePow, Nat.div_one] <;> omega
theorem bit_one (x y j : Nat) : (x % 2 * y).testBit j = (x.testBit 0 && y.testBit j) := by
  rcases Nat.mod_two_eq_zero_or_one x with e | e
  · rw [e]
    simp [Nat.testBit_zero, e]
  · rw [e]
    simp [Nat.testBit_zero, e]
theorem bit_rm (r b j : Nat) : (rm r b).testBit j = ((r.testBit 0 && bit b 0 j) || (r.testBit 1 && bit b 1 j) || (r.testBit 2 && bit b 2 j) || (r.testBit 3 && bit b 3 j)) := by
  unfold rm bit row
  rw [Nat.testBit_or, Nat.testBit_or, Nat.testBit_or, bit_one, bit_one, bit_one, bit_one]
  have e1 : (r / 2).testBit 0 = r.testBit 1 := by rw [Nat.testBit_succ]
  have e2 : (r / 4).testBit 0 = r.testBit 2 := by rw [show r / 4 = r / 2 / 2 by omega, Nat.testBit_succ, Nat.testBit_succ]
  have e3 : (r / 8).testBit 0 = r.testBit 3 := by rw [show r / 8 = r / 2 / 2 / 2 by omega, Nat.testBit_succ, Nat.testBit_succ, Nat.testBit_succ]
  rw [e1, e2, e3]
  simp only [Nat.reducePow, Nat.div_one]
theorem bit_bm (a b i j : Nat) (hi : i < 4) : bit (bm a b) i j = true ↔ ∃ k, k < 4 ∧ bit a i k = true ∧ bit b k j = true := by
  have e : bit (bm a b) i j = (rm (row a i) b).testBit j := by
    unfold bit
    rw [row_bm a b i hi]
  rw [e, bit_rm]
  show _ ↔ ∃ k, k < 4 ∧ (row a i).testBit k = true ∧ _
  simp only [Bool.or_eq_true, Bool.and_eq_true]
  constructor
  · rintro (((h | h) | h) | h)
    · exact ⟨0, by omega, h⟩
    · exact ⟨1, by omega, h⟩
    · exact ⟨2, by omega, h⟩
    · exact ⟨3, by omega, h⟩
  · rintro ⟨k, hk, h⟩
    have hk' : k = 0 ∨ k = 1 ∨ k = 2 ∨ k = 3 := by omega
    rcases hk' with rfl | rfl | rfl | rfl
    · exact .inl (.inl (.inl h))
    · exact .inl (.inl (.inr h))
    · exact .inl (.inr h)
    · exact .inr h
/-- a shows which entries of A are at most v -/
def Sh (n v a : Nat) (A : Sq) : Prop := ∀ i j, i < 4 → j < 4 → (bit a i j = true ↔ i < n ∧ j < n ∧ A i j ≤ v)
theorem Sh.mul {n v a b : Nat} {A B : Sq} (hn : n ≤ 4) (hv : v < 3) (ha : Sh n v a A) (hb : Sh n v b B) : Sh n v (bm a b) (mul n A B) := by
  intro i j hi hj
  rw [bit_bm a b i j hi, mul_le]
  constructor
  · rintro ⟨k, hk, h1, h2⟩
    obtain ⟨i1, k1, q1⟩ := (ha i k hi hk).mp h1
    obtain ⟨_, j1, q2⟩ := (hb k j hk hj).mp h2
    exact ⟨i1, j1, .inr ⟨k, k1, q1, q2⟩⟩
  · rintro ⟨i1, j1, h | ⟨k, k1, q1, q2⟩⟩
    · omega
    · exact ⟨k, by omega, (ha i k hi (by omega)).mpr ⟨i1, k1, q1⟩, (hb k j (by omega) hj).mpr ⟨k1, j1, q2⟩⟩
def encR (f : Nat → Bool) : Nat := (f 0).toNat + 2 * (f 1).toNat + 4 * (f 2).toNat + 8 * (f 3).toNat
theorem encR_lt (f : Nat → Bool) : encR f < 16 := by
  unfold encR
  have h := fun k => Bool.toNat_le (f k)
  have h0 := h 0; have h1 := h 1; have h2 := h 2; have h3 := h 3
  omega
theorem encR_bit (f : Nat → Bool) (j : Nat) (hj : j < 4) : (encR f).testBit j = f j := by
  unfold encR
  have hj' : j = 0 ∨ j = 1 ∨ j = 2 ∨ j = 3 := by omega
  rcases hj' with rfl | rfl | rfl | rfl <;> cases f 0 <;> cases f 1 <;> cases f 2 <;> cases f 3 <;> rfl
def enc (f : Nat → Nat → Bool) : Nat := encR (f 0) + 16 * encR (f 1) + 256 * encR (f 2) + 4096 * encR (f 3)
theorem enc_bit (f : Nat → Nat → Bool) (i j : Nat) (hi : i < 4) (hj : j < 4) : bit (enc f) i j = f i j := by
  have h0 := encR_lt (f 0); have h1 := encR_lt (f 1); have h2 := encR_lt (f 2); have h3 := encR_lt (f 3)
  have e : row (enc f) i = encR (f i) := by
    have hi' : i = 0 ∨ i = 1 ∨ i = 2 ∨ i = 3 := by omega
    rcases hi' with rfl | rfl | rfl | rfl <;> simp only [row, enc, Nat.reducePow, Nat.div_one] <;> omega
  unfold bit
  rw [e]
  exact encR_bit (f i) j hj
theorem enc_lt (f : Nat → Nat → Bool) : enc f < 65536 := by
  have h0 := encR_lt (f 0); have h1 := encR_lt (f 1); have h2 := encR_lt (f 2); have h3 := encR_lt (f 3)
  unfold enc
  omega
theorem sh_enc (n v : Nat) (A : Sq) : Sh n v (enc fun i j => decide (i < n ∧ j < n ∧ A i j ≤ v)) A := by
  intro i j hi hj
  rw [enc_bit _ i j hi hj]
  exact decide_eq_true_iff
end SQ

set_option linter.all false
set_option maxRecDepth 100000
namespace SQ
def rmK (r b : Nat) : Nat := Nat.lor (Nat.lor (Nat.lor (Nat.mul (Nat.mod r 2) (Nat.mod b 16)) (Nat.mul (Nat.mod (Nat.div r 2) 2) (Nat.mod (Nat.div b 16) 16))) (Nat.mul (Nat.mod (Nat.div r 4) 2) (Nat.mod (Nat.div b 256) 16))) (Nat.mul (Nat.mod (Nat.div r 8) 2) (Nat.mod (Nat.div b 4096) 16))
def bmK (a b : Nat) : Nat := Nat.add (Nat.add (Nat.add (rmK (Nat.mod a 16) b) (Nat.mul 16 (rmK (Nat.mod (Nat.div a 16) 16) b))) (Nat.mul 256 (rmK (Nat.mod (Nat.div a 256) 16) b))) (Nat.mul 4096 (rmK (Nat.mod (Nat.div a 4096) 16) b))
theorem bmK_eq (a b : Nat) : bmK a b = bm a b := rfl
def k12 (p12 : Nat) : Bool := Nat.beq (bmK p12 p12) p12
def k4 (p4 : Nat) : Bool := k12 (bmK (bmK p4 p4) p4)
def k2 (p2 : Nat) : Bool := k4 (bmK p2 p2)
def k1 (b : Nat) : Bool := k2 (bmK b b)
def allB : Nat → (Nat → Bool) → Bool
  | 0, _ => true
  | n + 1, f => (f n).and (allB n f)
theorem allB_of {n : Nat} {f : Nat → Bool} (h : allB n f = true) {k : Nat} (hk : k < n) : f k = true := by
  induction n with
  | zero => omega
  | succ n ih =>
    have h' : (f n && allB n f) = true := h
    rw [Bool.and_eq_true] at h'
    by_cases e : k = n
    · rw [e]
      exact h'.1
    · exact ih h'.2 (by omega)
def part (i : Nat) : Bool := allB 16 (fun h => allB 256 fun l => k1 (Nat.add (Nat.mul 256 (Nat.add (Nat.mul 16 i) h)) l))
theorem part0 : part 0 = true := by decide +kernel
theorem part1 : part 1 = true := by decide +kernel
theorem part2 : part 2 = true := by decide +kernel
theorem part3 : part 3 = true := by decide +kernel
theorem part4 : part 4 = true := by decide +kernel
theorem part5 : part 5 = true := by decide +kernel
theorem part6 : part 6 = true := by decide +kernel
theorem part7 : part 7 = true := by decide +kernel
theorem part8 : part 8 = true := by decide +kernel
theorem part9 : part 9 = true := by decide +kernel
theorem part10 : part 10 = true := by decide +kernel
theorem part11 : part 11 = true := by decide +kernel
theorem part12 : part 12 = true := by decide +kernel
theorem part13 : part 13 = true := by decide +kernel
theorem part14 : part 14 = true := by decide +kernel
theorem part15 : part 15 = true := by decide +kernel
theorem part_all {i : Nat} (hi : i < 16) : part i = true := by
  have h : i = 0 ∨ i = 1 ∨ i = 2 ∨ i = 3 ∨ i = 4 ∨ i = 5 ∨ i = 6 ∨ i = 7 ∨ i = 8 ∨ i = 9 ∨ i = 10 ∨ i = 11 ∨ i = 12 ∨ i = 13 ∨ i = 14 ∨ i = 15 := by omega
  rcases h with rfl | rfl | rfl | rfl | rfl | rfl | rfl | rfl | rfl | rfl | rfl | rfl | rfl | rfl | rfl | rfl
  · exact part0
  · exact part1
  · exact part2
  · exact part3
  · exact part4
  · exact part5
  · exact part6
  · exact part7
  · exact part8
  · exact part9
  · exact part10
  · exact part11
  · exact part12
  · exact part13
  · exact part14
  · exact part15
theorem k1_all {b : Nat} (hb : b < 65536) : k1 b = true := by
  have h := allB_of (allB_of (part_all (i := b / 4096) (by omega)) (k := b / 256 % 16) (by omega)) (k := b % 256) (by omega)
  have e : Nat.add (Nat.mul 256 (Nat.add (Nat.mul 16 (b / 4096)) (b / 256 % 16))) (b % 256) = b := by
    show 256 * (16 * (b / 4096) + b / 256 % 16) + b % 256 = b
    omega
  rw [e] at h
  exact h
/-- the twelfth power -/
def p12 (n : Nat) (S : Sq) : Sq := mul n (mul n (mul n (mul n S S) (mul n S S)) (mul n (mul n S S) (mul n S S))) (mul n (mul n S S) (mul n S S))
theorem p12_idem {n : Nat} (hn : n ≤ 4) (S : Sq) {i j : Nat} (hi : i < n) (hj : j < n) : mul n (p12 n S) (p12 n S) i j = p12 n S i j := by
  refine le_ext fun v => ?_
  by_cases hv : v < 3
  · have s1 := sh_enc n v S
    have lt := enc_lt fun i j => decide (i < n ∧ j < n ∧ S i j ≤ v)
    generalize (enc fun i j => decide (i < n ∧ j < n ∧ S i j ≤ v)) = b at s1 lt
    have s2 := s1.mul hn hv s1
    have s4 := s2.mul hn hv s2
    have s12 := (s4.mul hn hv s4).mul hn hv s4
    have s24 := s12.mul hn hv s12
    have e : bm (bm (bm (bm (bm b b) (bm b b)) (bm (bm b b) (bm b b))) (bm (bm b b) (bm b b))) (bm (bm (bm (bm b b) (bm b b)) (bm (bm b b) (bm b b))) (bm (bm b b) (bm b b))) = bm (bm (bm (bm b b) (bm b b)) (bm (bm b b) (bm b b))) (bm (bm b b) (bm b b)) := Nat.eq_of_beq_eq_true (k1_all lt)
    rw [e] at s24
    have h1 := s24 i j (by omega) (by omega)
    have h2 := s12 i j (by omega) (by omega)
    have h3 := h1.symm.trans h2
    constructor
    · intro q
      exact (h3.mp ⟨hi, hj, q⟩).2.2
    · intro q
      exact (h3.mpr ⟨hi, hj, q⟩).2.2
  · have t : ∀ A B : Sq, mul n A B i j ≤ v := fun A B => mul_le.mpr (.inl (by omega))
    exact ⟨fun _ => t _ _, fun _ => t _ _⟩
end SQ

set_option Elab.async false
set_option linter.all false
set_option maxRecDepth 100000
set_option maxHeartbeats 2000000
/-! SQD: squares as the program holds them: rows of signs, ranks. -/
namespace SQ
open PySem PySem.Spec L2 LP
open PyProof.Rows hiding St signs
def sgn (r : Nat) : Nat := match r with | 0 => 48 | 1 => 49 | 2 => 110 | _ => 46
def sgS (r : Nat) : Str := ⟨#[sgn r]⟩
def rowStr (n : Nat) (A : Sq) (i : Nat) : Str := ⟨((List.range n).map fun j => sgn (A i j)).toArray⟩
def rowsL (n : Nat) (A : Sq) : List V := (List.range n).map fun i => .str (rowStr n A i)
def rkL (n : Nat) (A : Sq) (i : Nat) : List V := (List.range n).map fun j => .int ((A i j : Nat) : Int)
/-- ranks at t -/
def RkAt (K : PySem.W.Frag) (H : Hp) (t : Addr) (n : Nat) (A : Sq) : Prop := ∃ ts : List V, H t = some (.tup ts) ∧ ts.length = n ∧ ∀ i v, ts[i]? = some v → ∃ a, v = .ref a ∧ H a = some (.tup (rkL n A i))
def Wf (n : Nat) (A : Sq) : Prop := ∀ i j, i < n → j < n → A i j ≤ 3
theorem mapr_get {α : Type} {n i : Nat} {f : Nat → α} {v : α} (h : ((List.range n).map f)[i]? = some v) : i < n ∧ v = f i := by
  rw [List.getElem?_map] at h
  obtain ⟨a, e, rfl⟩ := Option.map_eq_some_iff.mp h
  obtain ⟨hl, e2⟩ := List.getElem?_eq_some_iff.mp e
  rw [List.length_range] at hl
  rw [List.getElem_range] at e2
  exact ⟨hl, by rw [e2]⟩
theorem mapr_at {α : Type} {n i : Nat} {f : Nat → α} (h : i < n) : ((List.range n).map f)[i]? = some (f i) := by
  rw [List.getElem?_map, List.getElem?_range h]
  rfl
theorem mapr_succ {α : Type} (f : Nat → α) (i : Nat) : (List.range i).map f ++ [f i] = (List.range (i + 1)).map f := by
  rw [List.range_succ, List.map_append]
  rfl
theorem rep_flat {α : Type} (n : Nat) (a : α) : (List.replicate n [a]).flatten = List.replicate n a := by
  induction n with
  | zero => rfl
  | succ n ih => rw [List.replicate_succ, List.flatten_cons, ih, List.replicate_succ]; rfl
theorem ixN_at {n j : Nat} (hj : j < n) : ixN n (j : Int) = some j := by
  unfold ixN
  rw [if_pos (by omega), if_pos (by omega)]
  simp
theorem ix_sgn {r : Nat} (h : r ≤ 3) : Txt.index0 "01n." (sgS r) = some r := by
  match r, h with
  | 0, _ => decide +kernel
  | 1, _ => decide +kernel
  | 2, _ => decide +kernel
  | 3, _ => decide +kernel
theorem ix_law {r : Nat} (h : r ≤ 3) : Txt.index0 ".n10" (sgS r) = some (3 - r) := by
  match r, h with
  | 0, _ => decide +kernel
  | 1, _ => decide +kernel
  | 2, _ => decide +kernel
  | 3, _ => decide +kernel
theorem in_sgn {r : Nat} (h : r ≤ 3) : (!(Builtin.Str.occurrences "01n." (sgS r) 0 ("01n." : Str).length 1).isEmpty) = true := by
  match r, h with
  | 0, _ => decide +kernel
  | 1, _ => decide +kernel
  | 2, _ => decide +kernel
  | 3, _ => decide +kernel
theorem in_ends {r : Nat} (h : r ≤ 3) : (!(Builtin.Str.occurrences "0." (sgS r) 0 ("0." : Str).length 1).isEmpty) = (decide (r = 0) || decide (r = 3)) := by
  match r, h with
  | 0, _ => decide +kernel
  | 1, _ => decide +kernel
  | 2, _ => decide +kernel
  | 3, _ => decide +kernel
theorem at_signs {r : Nat} (h : r ≤ 3) : atI ("01n." : Str).cps.toList ((r : Nat) : Int) = some (sgn r) := by
  match r, h with
  | 0, _ => decide +kernel
  | 1, _ => decide +kernel
  | 2, _ => decide +kernel
  | 3, _ => decide +kernel
theorem sgn_inj {r s : Nat} (h : r ≤ 3) (h' : s ≤ 3) (e : sgn r = sgn s) : r = s := by
  match r, h, s, h' with
  | 0, _, 0, _ => rfl
  | 1, _, 1, _ => rfl
  | 2, _, 2, _ => rfl
  | 3, _, 3, _ => rfl
  | 0, _, 1, _ => cases e
  | 0, _, 2, _ => cases e
  | 0, _, 3, _ => cases e
  | 1, _, 0, _ => cases e
  | 1, _, 2, _ => cases e
  | 1, _, 3, _ => cases e
  | 2, _, 0, _ => cases e
  | 2, _, 1, _ => cases e
  | 2, _, 3, _ => cases e
  | 3, _, 0, _ => cases e
  | 3, _, 1, _ => cases e
  | 3, _, 2, _ => cases e
theorem sgS_inj {r s : Nat} (h : r ≤ 3) (h' : s ≤ 3) : sgS r = sgS s ↔ r = s := ⟨fun e => sgn_inj h h' (by
  have e2 : #[sgn r] = #[sgn s] := Str.mk.inj e
  exact (Array.mk.inj e2 |> List.cons.inj).1), fun e => by rw [e]⟩
theorem signs_row (n : Nat) (A : Sq) (i : Nat) : signs (rowStr n A i) = (List.range n).map fun j => .str (sgS (A i j)) := by
  unfold signs rowStr sgS
  simp [LP.sgn]
theorem len_row (n : Nat) (A : Sq) (i : Nat) : (rowStr n A i).length = n := by
  unfold rowStr
  show Array.size _ = n
  simp
theorem at_row {n : Nat} {A : Sq} {i j : Nat} (hj : j < n) : atI (rowStr n A i).cps.toList ((j : Nat) : Int) = some (sgn (A i j)) := by
  have hl : (((j : Nat) : Int)).toNat < (rowStr n A i).cps.toList.length := by
    unfold rowStr
    simp [hj]
  rw [atI_of (by omega) hl]
  unfold rowStr
  simp
theorem at_rows {n : Nat} {A : Sq} {i : Nat} (hi : i < n) : atI (rowsL n A) ((i : Nat) : Int) = some (.str (rowStr n A i)) := by
  refine L2.at_of (j := i) rfl ?_
  unfold rowsL
  simp [hi]
theorem len_rows (n : Nat) (A : Sq) : (rowsL n A).length = n := by simp [rowsL]
theorem len_rk (n : Nat) (A : Sq) (i : Nat) : (rkL n A i).length = n := by simp [rkL]
theorem RkAt.nl {K : PySem.W.Frag} {H H' : Hp} {t : Addr} {n : Nat} {A : Sq} (h : RkAt K H t n A) (e : NL H H') : RkAt K H' t n A := by
  obtain ⟨ts, h1, h2, h3⟩ := h
  refine ⟨ts, e _ _ (fun _ z => nomatch z) h1, h2, fun i v q => ?_⟩
  obtain ⟨a, h4, h5⟩ := h3 i v q
  exact ⟨a, h4, e _ _ (fun _ z => nomatch z) h5⟩
/-- "".join of single signs -/
theorem glue_fold (f : Nat → Nat) : ∀ (l : List Nat) (acc : List Nat), ((l.map fun j => (⟨#[f j]⟩ : Str)).foldl (fun acc p => acc ++ ("" : Str).cps ++ p.cps) acc.toArray) = (acc ++ l.map f).toArray
  | [], acc => by simp
  | j :: l, acc => by
    rw [List.map_cons, List.foldl_cons]
    have e : (acc.toArray ++ ("" : Str).cps ++ (⟨#[f j]⟩ : Str).cps) = (acc ++ [f j]).toArray := by
      show acc.toArray ++ #[] ++ #[f j] = _
      simp
    rw [e, glue_fold f l]
    simp
theorem join_signs (f : Nat → Nat) (l : List Nat) : Txt.join "" (l.map fun j => ⟨#[f j]⟩) = ⟨(l.map f).toArray⟩ := by
  cases l with
  | nil => rfl
  | cons j l =>
    show Str.mk (((l.map fun j => (⟨#[f j]⟩ : Str)).foldl (fun acc p => acc ++ ("" : Str).cps ++ p.cps) [f j].toArray)) = _
    rw [glue_fold]
    rfl
theorem join_row (n : Nat) (A : Sq) (i : Nat) : Txt.join "" ((List.range n).map fun j => sgS (A i j)) = rowStr n A i := join_signs (fun j => sgn (A i j)) (List.range n)
theorem sum_ones {l : List Nat} {f : Nat → Str} (h : ∀ j, (f j).length = 1) : ((l.map f).map (·.length)).sum = l.length := by
  induction l with
  | nil => rfl
  | cons a l ih => rw [List.map_cons, List.map_cons, List.sum_cons, ih, h, List.length_cons]; omega
theorem row_eq {n : Nat} {A B : Sq} (ha : Wf n A) (hb : Wf n B) {i : Nat} (hi : i < n) : rowStr n A i = rowStr n B i ↔ ∀ j, j < n → A i j = B i j := by
  constructor
  · intro e j hj
    have e1 := at_row (A := A) (i := i) hj
    rw [e, at_row hj] at e1
    exact (sgn_inj (hb i j hi hj) (ha i j hi hj) (Option.some.inj e1)).symm
  · intro h
    unfold rowStr
    congr 2
    exact List.map_congr_left fun j hj => by rw [h j (List.mem_range.mp hj)]
theorem rows_eq {n : Nat} {A B : Sq} (ha : Wf n A) (hb : Wf n B) : rowsL n A = rowsL n B ↔ ∀ i j, i < n → j < n → A i j = B i j := by
  constructor
  · intro e i j hi hj
    have e1 := at_rows (A := A) hi
    rw [e, at_rows hi] at e1
    have e2 : rowStr n B i = rowStr n A i := V.str.inj (Option.some.inj e1)
    exact ((row_eq hb ha hi).mp e2 j hj).symm
  · intro h
    unfold rowsL
    exact List.map_congr_left fun i hi => by rw [(row_eq ha hb (List.mem_range.mp hi)).mpr fun j hj => h i j (List.mem_range.mp hi) hj]
/-! ### as data -/
theorem eqv_strs : ∀ l m : List Str, PyData.eqvAll (l.map .str) (m.map .str) = decide (l = m)
  | [], [] => rfl
  | [], _ :: _ => rfl
  | _ :: _, [] => rfl
  | x :: l, y :: m => by
    rw [List.map_cons, List.map_cons, PyData.eqvAll, PyData.eqv, eqv_strs l m, ← Bool.decide_eq_true (b := x == y), ← Bool.decide_and]
    refine decide_eq_decide.mpr ?_
    rw [List.cons.injEq, beq_iff_eq]
theorem eqv_ints : ∀ l m : List Int, PyData.eqvAll (l.map .int) (m.map .int) = decide (l = m)
  | [], [] => rfl
  | [], _ :: _ => rfl
  | _ :: _, [] => rfl
  | x :: l, y :: m => by
    rw [List.map_cons, List.map_cons, PyData.eqvAll, PyData.eqv, eqv_ints l m, ← Bool.decide_eq_true (b := x == y), ← Bool.decide_and]
    refine decide_eq_decide.mpr ?_
    rw [List.cons.injEq, beq_iff_eq]
theorem eqv_rows : ∀ l m : List (List Int), PyData.eqvAll (l.map fun r => .tuple (r.map .int)) (m.map fun r => .tuple (r.map .int)) = decide (l = m)
  | [], [] => rfl
  | [], _ :: _ => rfl
  | _ :: _, [] => rfl
  | x :: l, y :: m => by
    rw [List.map_cons, List.map_cons, PyData.eqvAll, PyData.eqv, eqv_ints, eqv_rows l m, ← Bool.decide_and]
    refine decide_eq_decide.mpr ?_
    rw [List.cons.injEq]
theorem lay_strs : ∀ l : List Str, (∀ x, x ∈ l → PyData.strOk x = true) → PyData.canLayAll0 (l.map .str) = true
  | [], _ => rfl
  | x :: l, h => by
    rw [List.map_cons, PyData.canLayAll0, PyData.canLay0, h x List.mem_cons_self, lay_strs l fun y hy => h y (List.mem_cons_of_mem _ hy)]
    rfl
theorem lay_ints : ∀ l : List Int, PyData.canLayAll0 (l.map .int) = true
  | [] => rfl
  | x :: l => by
    rw [List.map_cons, PyData.canLayAll0, PyData.canLay0, lay_ints l]
    rfl
theorem lay_rows : ∀ l : List (List Int), PyData.canLayAll0 (l.map fun r => .tuple (r.map .int)) = true
  | [] => rfl
  | x :: l => by
    rw [List.map_cons, PyData.canLayAll0, PyData.canLay0, lay_ints, lay_rows l]
    rfl
theorem dp_strs {K : PySem.W.Frag} {H : Hp} : ∀ l : List Str, DpAll K H (l.map .str) (l.map .str)
  | [] => .nil
  | x :: l => .cons (.str x) (dp_strs l)
theorem dp_ints {K : PySem.W.Frag} {H : Hp} : ∀ l : List Int, DpAll K H (l.map .int) (l.map .int)
  | [] => .nil
  | x :: l => .cons (.int x) (dp_ints l)
theorem dep_strs : ∀ l : List Str, PyData.depthAll (l.map .str) = 0
  | [] => rfl
  | x :: l => by
    rw [List.map_cons, PyData.depthAll, PyData.depth, dep_strs l]
    rfl
theorem dep_ints : ∀ l : List Int, PyData.depthAll (l.map .int) = 0
  | [] => rfl
  | x :: l => by
    rw [List.map_cons, PyData.depthAll, PyData.depth, dep_ints l]
    rfl
theorem dep_rows : ∀ l : List (List Int), PyData.depthAll (l.map fun r => .tuple (r.map .int)) ≤ 1
  | [] => Nat.zero_le _
  | x :: l => by
    rw [List.map_cons, PyData.depthAll, PyData.depth, dep_ints]
    have := dep_rows l
    omega
theorem sh_tup {ds : List PyData} (h : PyData.canLayAll0 ds = true) (h2 : PyData.depthAll ds ≤ 1) : SeqAt.shaped (.tuple ds) = true := by
  unfold SeqAt.shaped
  rw [PyData.canLay0, h, PyData.depth, Bool.true_and]
  exact decide_eq_true (by omega)
theorem sh_lst {ds : List PyData} (h : PyData.canLayAll0 ds = true) (h2 : PyData.depthAll ds ≤ 1) : SeqAt.shaped (.list ds) = true := by
  unfold SeqAt.shaped
  rw [PyData.canLay0, h, PyData.depth, Bool.true_and]
  exact decide_eq_true (by omega)
/-- two tuples of texts -/
theorem eq_strT {K : PySem.W.Frag} {H : Hp} {p p' : Addr} {l m : List Str} {Q : VK} (h : SqT K H p (l.map .str)) (h' : SqT K H p' (m.map .str)) (o : ∀ x, x ∈ l → PyData.strOk x = true) (o' : ∀ x, x ∈ m → PyData.strOk x = true)
    (q : Q (.bl (decide (l = m))) H) : rEqD K (.ref p) (.ref p') H Q := by
  refine ⟨_, _, .tup h (dp_strs l), .tup h' (dp_strs m), sh_tup (lay_strs l o) (by rw [dep_strs]; omega), sh_tup (lay_strs m o') (by rw [dep_strs]; omega), ?_⟩
  rw [PyData.eqv, eqv_strs]
  exact q
theorem ne_strT {K : PySem.W.Frag} {H : Hp} {p p' : Addr} {l m : List Str} {Q : VK} (h : SqT K H p (l.map .str)) (h' : SqT K H p' (m.map .str)) (o : ∀ x, x ∈ l → PyData.strOk x = true) (o' : ∀ x, x ∈ m → PyData.strOk x = true)
    (q : Q (.bl (!decide (l = m))) H) : rNeD K (.ref p) (.ref p') H Q := by
  refine ⟨_, _, .tup h (dp_strs l), .tup h' (dp_strs m), sh_tup (lay_strs l o) (by rw [dep_strs]; omega), sh_tup (lay_strs m o') (by rw [dep_strs]; omega), ?_⟩
  rw [PyData.eqv, eqv_strs]
  exact q
theorem eq_strL {K : PySem.W.Frag} {H : Hp} {p p' : Addr} {l m : List Str} {Q : VK} (h : SqL K H p (l.map .str)) (h' : SqL K H p' (m.map .str)) (o : ∀ x, x ∈ l → PyData.strOk x = true) (o' : ∀ x, x ∈ m → PyData.strOk x = true)
    (q : Q (.bl (decide (l = m))) H) : rEqD K (.ref p) (.ref p') H Q := by
  refine ⟨_, _, .lst h (dp_strs l), .lst h' (dp_strs m), sh_lst (lay_strs l o) (by rw [dep_strs]; omega), sh_lst (lay_strs m o') (by rw [dep_strs]; omega), ?_⟩
  rw [PyData.eqv, eqv_strs]
  exact q
theorem rowsL_map (n : Nat) (A : Sq) : rowsL n A = ((List.range n).map fun i => rowStr n A i).map .str := by
  unfold rowsL
  rw [List.map_map]
  rfl
theorem sgn_small (r : Nat) : sgn r < 128 := by
  match r with
  | 0 => decide
  | 1 => decide
  | 2 => decide
  | _ + 3 => exact (by decide : (46 : Nat) < 128)
theorem ok_sgS (r : Nat) : PyData.strOk (sgS r) = true := by
  unfold PyData.strOk sgS
  rw [← Array.all_toList]
  have := sgn_small r
  simp
  omega
theorem ok_row (n : Nat) (A : Sq) (i : Nat) : PyData.strOk (rowStr n A i) = true := by
  unfold PyData.strOk rowStr
  rw [← Array.all_toList]
  simp only [List.all_map, List.all_eq_true]
  intro j _
  have := sgn_small (A i j)
  simp
  omega
/-- two tuples of rows -/
theorem eq_rowsT {K : PySem.W.Frag} {H : Hp} {p p' : Addr} {n : Nat} {A B : Sq} {Q : VK} (h : SqT K H p (rowsL n A)) (h' : SqT K H p' (rowsL n B)) (wa : Wf n A) (wb : Wf n B)
    (q : ∀ b : Bool, (b = true ↔ ∀ i j, i < n → j < n → A i j = B i j) → Q (.bl b) H) : rEqD K (.ref p) (.ref p') H Q := by
  rw [rowsL_map] at h h'
  refine eq_strT h h' (fun x hx => ?_) (fun x hx => ?_) (q _ ?_)
  · obtain ⟨i, _, rfl⟩ := List.mem_map.mp hx
    exact ok_row n A i
  · obtain ⟨i, _, rfl⟩ := List.mem_map.mp hx
    exact ok_row n B i
  · rw [decide_eq_true_iff, ← rows_eq wa wb, rowsL_map, rowsL_map]
    refine ⟨fun e => by rw [e], fun e => ?_⟩
    exact List.map_inj_right (fun _ _ z => V.str.inj z) |>.mp e
theorem ne_rowsT {K : PySem.W.Frag} {H : Hp} {p p' : Addr} {n : Nat} {A B : Sq} {Q : VK} (h : SqT K H p (rowsL n A)) (h' : SqT K H p' (rowsL n B)) (wa : Wf n A) (wb : Wf n B)
    (q : ∀ b : Bool, (b = false ↔ ∀ i j, i < n → j < n → A i j = B i j) → Q (.bl b) H) : rNeD K (.ref p) (.ref p') H Q := by
  rw [rowsL_map] at h h'
  refine ne_strT h h' (fun x hx => ?_) (fun x hx => ?_) (q _ ?_)
  · obtain ⟨i, _, rfl⟩ := List.mem_map.mp hx
    exact ok_row n A i
  · obtain ⟨i, _, rfl⟩ := List.mem_map.mp hx
    exact ok_row n B i
  · rw [Bool.not_eq_false', decide_eq_true_iff, ← rows_eq wa wb, rowsL_map, rowsL_map]
    refine ⟨fun e => by rw [e], fun e => ?_⟩
    exact List.map_inj_right (fun _ _ z => V.str.inj z) |>.mp e
/-- the ranks as data -/
def rkI (n : Nat) (A : Sq) : List (List Int) := (List.range n).map fun i => (List.range n).map fun j => ((A i j : Nat) : Int)
theorem rkI_eq {n : Nat} {A B : Sq} : rkI n A = rkI n B ↔ ∀ i j, i < n → j < n → A i j = B i j := by
  unfold rkI
  constructor
  · intro e i j hi hj
    have e1 : (rkI n A)[i]? = (rkI n B)[i]? := by unfold rkI; rw [e]
    unfold rkI at e1
    simp only [List.getElem?_map, List.getElem?_range hi, Option.map_some, Option.some.injEq] at e1
    have e2 : ((List.range n).map fun j => ((A i j : Nat) : Int))[j]? = ((List.range n).map fun j => ((B i j : Nat) : Int))[j]? := by rw [e1]
    simp only [List.getElem?_map, List.getElem?_range hj, Option.map_some, Option.some.injEq] at e2
    omega
  · intro h
    exact List.map_congr_left fun i hi => List.map_congr_left fun j hj => by rw [h i j (List.mem_range.mp hi) (List.mem_range.mp hj)]
theorem RkAt.data {K : PySem.W.Frag} {H : Hp} {t : Addr} {n : Nat} {A : Sq} (h : RkAt K H t n A) : Dp K H (.ref t) (.tuple ((rkI n A).map fun r => .tuple (r.map .int))) := by
  obtain ⟨ts, h1, h2, h3⟩ := h
  refine .tup (SqT.of h1) ?_
  have key : ∀ (m : Nat) (us : List V) (f : Nat → List Int), us.length = m → (∀ i v, us[i]? = some v → ∃ a, v = .ref a ∧ SqT K H a ((f i).map .int)) → DpAll K H us ((List.range m).map fun i => .tuple ((f i).map .int)) := by
    intro m
    induction m with
    | zero =>
      intro us f hl _
      rw [List.length_eq_zero_iff.mp hl]
      exact .nil
    | succ m ih =>
      intro us f hl hu
      cases us with
      | nil => cases hl
      | cons u us =>
        obtain ⟨a, rfl, ha⟩ := hu 0 u rfl
        rw [List.range_succ_eq_map, List.map_cons, List.map_map]
        exact .cons (.tup ha (dp_ints _)) (ih us (fun i => f (i + 1)) (by simpa using hl) fun i v e => hu (i + 1) v e)
  have z := key n ts (fun i => (List.range n).map fun j => ((A i j : Nat) : Int)) h2 fun i v e => by
    obtain ⟨a, h4, h5⟩ := h3 i v e
    refine ⟨a, h4, ?_⟩
    unfold rkL at h5
    rw [List.map_map]
    exact SqT.of h5
  unfold rkI
  rw [List.map_map]
  exact z
theorem eq_rk {K : PySem.W.Frag} {H : Hp} {p p' : Addr} {n : Nat} {A B : Sq} {Q : VK} (h : RkAt K H p n A) (h' : RkAt K H p' n B) (q : ∀ b : Bool, (b = true ↔ ∀ i j, i < n → j < n → A i j = B i j) → Q (.bl b) H) : rEqD K (.ref p) (.ref p') H Q := by
  refine ⟨_, _, h.data, h'.data, sh_tup (lay_rows _) (dep_rows _), sh_tup (lay_rows _) (dep_rows _), ?_⟩
  rw [PyData.eqv, eqv_rows]
  exact q _ (by rw [decide_eq_true_iff, rkI_eq])
/-- the i-th row of ranks -/
theorem RkAt.row {K : PySem.W.Frag} {H : Hp} {t : Addr} {n : Nat} {A : Sq} (h : RkAt K H t n A) : ∃ ts : List V, H t = some (.tup ts) ∧ ts.length = n ∧ ∀ i v, ts[i]? = some v → ∃ a, v = .ref a ∧ H a = some (.tup (rkL n A i)) := h
theorem RkAt.same {K : PySem.W.Frag} {H H' : Hp} {t : Addr} {n : Nat} {A : Sq} (h : RkAt K H t n A) (e : Same H H') : RkAt K H' t n A := h.nl (Same.nl e)
/-! ### rows that are zipped -/
theorem svs_of {K : PySem.W.Frag} {H : Hp} {f : Nat → List V} : ∀ {ts : List V} {m : Nat}, (∀ i v, ts[i]? = some v → ∃ a, v = .ref a ∧ SqT K H a (f (m + i))) →
    ∃ ss, LZ.Svs K H ts ss ∧ ss.length = ts.length ∧ ∀ H', Same H H' → ∀ (j : Nat) s, ss[j]? = some s → LZ.Sv.has K H' s (f (m + j))
  | [], m, _ => ⟨[], .nil, rfl, fun _ _ j s z => by simp at z⟩
  | v :: ts, m, h => by
    obtain ⟨a, rfl, ha⟩ := h 0 v rfl
    obtain ⟨ss, h1, h2, h3⟩ := svs_of (f := f) (ts := ts) (m := m + 1) fun i v e => by
      have z := h (i + 1) v e
      rw [show m + (i + 1) = m + 1 + i by omega] at z
      exact z
    refine ⟨.tup a :: ss, .cons (s := .tup a) rfl ha h1, by rw [List.length_cons, List.length_cons, h2], fun H' e j s ej => ?_⟩
    cases j with
    | zero => cases ej; exact Same.tup e ha
    | succ j =>
      have z := h3 H' e j s ej
      rw [show m + 1 + j = m + (j + 1) by omega] at z
      exact z
theorem RkAt.svs {K : PySem.W.Frag} {H : Hp} {t : Addr} {n : Nat} {A : Sq} (h : RkAt K H t n A) : ∃ ts ss, SqT K H t ts ∧ LZ.Svs K H ts ss ∧ ss.length = n ∧ ∀ H', Same H H' → LZ.Alls K ss ((List.range n).map (rkL n A)) H' := by
  obtain ⟨ts, h1, h2, h3⟩ := h
  obtain ⟨ss, k1, k2, k3⟩ := svs_of (K := K) (f := rkL n A) (m := 0) (ts := ts) fun i v e => by
    rw [Nat.zero_add]
    obtain ⟨a, h4, h5⟩ := h3 i v e
    exact ⟨a, h4, SqT.of h5⟩
  refine ⟨ts, ss, SqT.of h1, k1, k2.trans h2, fun H' e => ⟨by rw [k2, h2]; simp, fun j s xs e1 e2 => ?_⟩⟩
  obtain ⟨hj, rfl⟩ := mapr_get e2
  have z := k3 H' e j s e1
  rw [Nat.zero_add] at z
  exact z
/-- a column -/
def clL (n : Nat) (A : Sq) (j : Nat) : List V := (List.range n).map fun k => .int ((A k j : Nat) : Int)
theorem len_cl (n : Nat) (A : Sq) (i : Nat) : (clL n A i).length = n := by simp [clL]
theorem col_of {n : Nat} {A : Sq} {i : Nat} {xs : List V} (hi : i < n) (hl : xs.length = n) (h : ∀ (j : Nat) ys, ((List.range n).map (rkL n A))[j]? = some ys → xs[j]? = ys[i]?) : xs = clL n A i := by
  refine List.ext_getElem? fun j => ?_
  by_cases hj : j < n
  · have z := h j _ (mapr_at hj)
    unfold rkL at z
    rw [mapr_at hi] at z
    unfold clL
    rw [z, mapr_at hj]
  · rw [List.getElem?_eq_none (by omega), List.getElem?_eq_none (by rw [len_cl]; omega)]
theorem least_of {n : Nat} {f : Nat → Nat} {m : Int} (hn : 1 ≤ n) (hf : ∀ k, k < n → f k ≤ 3) (h1 : m ∈ (List.range n).map fun k => ((f k : Nat) : Int)) (h2 : ∀ y, y ∈ (List.range n).map (fun k => ((f k : Nat) : Int)) → m ≤ y) : m = ((mn n f : Nat) : Int) := by
  obtain ⟨k, hk, rfl⟩ := List.mem_map.mp h1
  have hk := List.mem_range.mp hk
  have e : mn n f = f k := le_ext fun v => by
    rw [mn_le]
    constructor
    · rintro (h | ⟨j, hj, hv⟩)
      · exact Nat.le_trans (hf k hk) h
      · have := h2 _ (List.mem_map.mpr ⟨j, List.mem_range.mpr hj, rfl⟩)
        have h4 : f k ≤ f j := by exact_mod_cast this
        exact Nat.le_trans h4 hv
    · exact fun h => .inr ⟨k, hk, h⟩
  rw [e]
theorem mul_wf {n : Nat} (A B : Sq) : Wf n (mul n A B) := fun i j _ _ => mul_le.mpr (.inl (Nat.le_refl 3))
theorem rep_wf {n : Nat} (A : Sq) : Wf n (rep n A) := fun i j _ _ => rep_top
theorem max_int (a b : Nat) : (if (b : Int) > (a : Int) then (b : Int) else (a : Int)) = ((max a b : Nat) : Int) := by
  split <;> omega
theorem dec1 (a : Nat) : decide (V.int ((a : Nat) : Int) = V.int 1) = decide (a = 1) := decide_eq_decide.mpr ⟨fun h => by have := V.int.inj h; omega, fun h => by rw [h]; rfl⟩
theorem g_top {a : Nat} (h : a ≤ 3) : g a ≤ 3 := by
  unfold g
  split <;> omega
theorem sum_const {l : List Nat} {f : Nat → Nat} {c : Nat} (h : ∀ j, f j = c) : (l.map f).sum = l.length * c := by
  induction l with
  | nil => simp
  | cons a l ih => rw [List.map_cons, List.sum_cons, ih, h, List.length_cons, Nat.succ_mul]; omega
/-- ranks in a row as a list -/
def ofL (rs : List Nat) : Nat → Nat := fun j => rs.getD j 3
theorem map_ofL {rs : List Nat} {n : Nat} (h : rs.length = n) {β : Type} (f : Nat → β) : rs.map f = (List.range n).map fun j => f (ofL rs j) := by
  refine List.ext_getElem? fun j => ?_
  by_cases hj : j < n
  · rw [mapr_at hj, List.getElem?_map, List.getElem?_eq_getElem (by omega)]
    unfold ofL
    rw [List.getD_eq_getElem?_getD, List.getElem?_eq_getElem (by omega)]
    rfl
  · rw [List.getElem?_eq_none (by rw [List.length_map]; omega), List.getElem?_eq_none (by rw [List.length_map, List.length_range]; omega)]
theorem ofL_le {rs : List Nat} (h : ∀ r, r ∈ rs → r ≤ 3) (j : Nat) : ofL rs j ≤ 3 := by
  unfold ofL
  rw [List.getD_eq_getElem?_getD]
  cases e : rs[j]? with
  | none => exact Nat.le_refl 3
  | some r => exact h r (List.mem_of_getElem? e)
/-! ### all rows in one text -/
theorem glue_flat : ∀ (l : List Str) (acc : List Nat), (l.foldl (fun acc p => acc ++ ("" : Str).cps ++ p.cps) acc.toArray) = (acc ++ l.flatMap fun s => s.cps.toList).toArray
  | [], acc => by simp
  | s :: l, acc => by
    rw [List.foldl_cons]
    have e : (acc.toArray ++ ("" : Str).cps ++ s.cps) = (acc ++ s.cps.toList).toArray := by
      show acc.toArray ++ #[] ++ s.cps = _
      apply Array.ext'
      simp
    rw [e, glue_flat l, List.flatMap_cons, List.append_assoc]
theorem join_flat (l : List Str) : Txt.join "" l = ⟨(l.flatMap fun s => s.cps.toList).toArray⟩ := by
  cases l with
  | nil => rfl
  | cons s l =>
    show Str.mk (l.foldl (fun acc p => acc ++ ("" : Str).cps ++ p.cps) s.cps) = _
    have e : s.cps = s.cps.toList.toArray := by simp
    rw [e, glue_flat]
    simp
theorem flat_pair {α β : Type} {f g : α → List β} (h : ∀ a, (f a).length = (g a).length) : ∀ {L : List α} {k : Nat} {x y : β}, (L.flatMap f)[k]? = some x → (L.flatMap g)[k]? = some y → ∃ a, a ∈ L ∧ ∃ m : Nat, (f a)[m]? = some x ∧ (g a)[m]? = some y
  | [], k, x, y, e, _ => by simp at e
  | a :: L, k, x, y, e1, e2 => by
    rw [List.flatMap_cons, List.getElem?_append] at e1 e2
    by_cases hk : k < (f a).length
    · rw [if_pos hk] at e1
      rw [if_pos (by rw [← h]; exact hk)] at e2
      exact ⟨a, List.mem_cons_self, k, e1, e2⟩
    · rw [if_neg hk] at e1
      rw [if_neg (by rw [← h]; exact hk), ← h] at e2
      obtain ⟨b, hb, m, h1, h2⟩ := flat_pair h e1 e2
      exact ⟨b, List.mem_cons_of_mem _ hb, m, h1, h2⟩
theorem flat_len {α β : Type} {f : α → List β} {n : Nat} (h : ∀ a, (f a).length = n) (L : List α) : (L.flatMap f).length = L.length * n := by
  induction L with
  | nil => simp
  | cons a L ih => rw [List.flatMap_cons, List.length_append, ih, h, List.length_cons, Nat.succ_mul]; omega
/-- all signs of a square, one behind the other -/
def allStr (n : Nat) (A : Sq) : Str := Txt.join "" ((List.range n).map fun i => rowStr n A i)
theorem signs_all (n : Nat) (A : Sq) : LP.signs (allStr n A) = (List.range n).flatMap fun i => (List.range n).map fun j => V.str (sgS (A i j)) := by
  unfold allStr
  rw [join_flat]
  unfold LP.signs
  show (((List.range n).map fun i => rowStr n A i).flatMap fun s => s.cps.toList).map LP.sgn = _
  rw [List.map_flatMap, List.flatMap_map]
  congr 1
  funext i
  unfold rowStr sgS
  simp [LP.sgn]
theorem len_all (n : Nat) (A : Sq) : (LP.signs (allStr n A)).length = n * n := by
  rw [signs_all, flat_len (n := n) (fun i => by simp), List.length_range]
theorem all_pair {n : Nat} {A B : Sq} {k : Nat} {x y : V} (h1 : (LP.signs (allStr n A))[k]? = some x) (h2 : (LP.signs (allStr n B))[k]? = some y) : ∃ i j, i < n ∧ j < n ∧ x = .str (sgS (A i j)) ∧ y = .str (sgS (B i j)) := by
  rw [signs_all] at h1 h2
  obtain ⟨i, hi, m, e1, e2⟩ := flat_pair (fun _ => by simp) h1 h2
  obtain ⟨hm, rfl⟩ := mapr_get e1
  obtain ⟨_, rfl⟩ := mapr_get e2
  exact ⟨i, m, List.mem_range.mp hi, hm, rfl, rfl⟩
theorem rk_congr {n : Nat} {A B : Sq} {i : Nat} (h : ∀ j, j < n → A i j = B i j) : rkL n A i = rkL n B i := by
  unfold rkL
  exact List.map_congr_left fun j hj => by rw [h j (List.mem_range.mp hj)]
end SQ

set_option Elab.async false
set_option linter.all false
set_option maxRecDepth 100000
set_option maxHeartbeats 4000000
set_option exponentiation.threshold 5000
namespace K26
open PySem PySem.Spec L2 LP
open PyProof.Rows hiding St
def top (i : Nat) : Stmt := PySem.Challenge.pw_lastprices_k26_whole_repeats.main.body.getD i (.Pass ⟨0, 0, 0, 0⟩)
abbrev s_is_sign : Stmt := top 15
abbrev N_is_sign : List Str := ["value"]
abbrev P_is_sign : List Str := ["value"]
theorem sc_is_sign : FnScope N_is_sign P_is_sign (defScope s_is_sign) :=
  ⟨rfl, rfl, rfl, by decide +kernel, rfl, by decide +kernel, by decide +kernel⟩
abbrev s_require_signs : Stmt := top 16
abbrev N_require_signs : List Str := ["signs", "sign"]
abbrev P_require_signs : List Str := ["signs"]
theorem sc_require_signs : FnScope N_require_signs P_require_signs (defScope s_require_signs) :=
  ⟨rfl, rfl, rfl, by decide +kernel, rfl, by decide +kernel, by decide +kernel⟩
abbrev s_least_sign : Stmt := top 17
abbrev N_least_sign : List Str := ["signs", "sign"]
abbrev P_least_sign : List Str := ["signs"]
theorem sc_least_sign : FnScope N_least_sign P_least_sign (defScope s_least_sign) :=
  ⟨rfl, rfl, rfl, by decide +kernel, rfl, by decide +kernel, by decide +kernel⟩
abbrev s_are_rows : Stmt := top 19
abbrev N_are_rows : List Str := ["value", "row", "sign"]
abbrev P_are_rows : List Str := ["value"]
theorem sc_are_rows : FnScope N_are_rows P_are_rows (defScope s_are_rows) :=
  ⟨rfl, rfl, rfl, by decide +kernel, rfl, by decide +kernel, by decide +kernel⟩
abbrev s_ranks_of : Stmt := top 20
abbrev N_ranks_of : List Str := ["rows", "sign", "row"]
abbrev P_ranks_of : List Str := ["rows"]
theorem sc_ranks_of : FnScope N_ranks_of P_ranks_of (defScope s_ranks_of) :=
  ⟨rfl, rfl, rfl, by decide +kernel, rfl, by decide +kernel, by decide +kernel⟩
abbrev s_rows_of : Stmt := top 21
abbrev N_rows_of : List Str := ["ranks", "rank", "row"]
abbrev P_rows_of : List Str := ["ranks"]
theorem sc_rows_of : FnScope N_rows_of P_rows_of (defScope s_rows_of) :=
  ⟨rfl, rfl, rfl, by decide +kernel, rfl, by decide +kernel, by decide +kernel⟩
abbrev s_product_of : Stmt := top 22
abbrev N_product_of : List Str := ["one", "other", "columns", "column", "left", "right", "row"]
abbrev P_product_of : List Str := ["one", "other"]
theorem sc_product_of : FnScope N_product_of P_product_of (defScope s_product_of) :=
  ⟨rfl, rfl, rfl, by decide +kernel, rfl, by decide +kernel, by decide +kernel⟩
abbrev s_repeat_of : Stmt := top 23
abbrev N_repeat_of : List Str := ["ranks", "loops", "at", "row", "ahead", "rank", "loop"]
abbrev P_repeat_of : List Str := ["ranks"]
theorem sc_repeat_of : FnScope N_repeat_of P_repeat_of (defScope s_repeat_of) :=
  ⟨rfl, rfl, rfl, by decide +kernel, rfl, by decide +kernel, by decide +kernel⟩
abbrev s_dice : Stmt := top 26
abbrev N_dice : List Str := ["_law_script", "_law_spot", "_law_cell", "_law_great", "_law_left"]
abbrev P_dice : List Str := ["_law_script", "_law_spot"]
theorem sc_dice : FnScope N_dice P_dice (defScope s_dice) :=
  ⟨rfl, rfl, rfl, by decide +kernel, rfl, by decide +kernel, by decide +kernel⟩
abbrev s_roll : Stmt := top 27
abbrev N_roll : List Str := ["_law_dice_here", "_law_total", "_law_found", "_law_one", "_law_two"]
abbrev P_roll : List Str := ["_law_dice_here", "_law_total"]
theorem sc_roll : FnScope N_roll P_roll (defScope s_roll) :=
  ⟨rfl, rfl, rfl, by decide +kernel, rfl, by decide +kernel, by decide +kernel⟩
abbrev s_pick : Stmt := top 28
abbrev N_pick : List Str := ["_law_dice_here", "_law_items"]
abbrev P_pick : List Str := ["_law_dice_here", "_law_items"]
theorem sc_pick : FnScope N_pick P_pick (defScope s_pick) :=
  ⟨rfl, rfl, rfl, by decide +kernel, rfl, by decide +kernel, by decide +kernel⟩
abbrev s_lesser : Stmt := top 29
abbrev N_lesser : List Str := ["_law_one", "_law_other"]
abbrev P_lesser : List Str := ["_law_one", "_law_other"]
theorem sc_lesser : FnScope N_lesser P_lesser (defScope s_lesser) :=
  ⟨rfl, rfl, rfl, by decide +kernel, rfl, by decide +kernel, by decide +kernel⟩
abbrev s_greater : Stmt := top 30
abbrev N_greater : List Str := ["_law_one", "_law_other"]
abbrev P_greater : List Str := ["_law_one", "_law_other"]
theorem sc_greater : FnScope N_greater P_greater (defScope s_greater) :=
  ⟨rfl, rfl, rfl, by decide +kernel, rfl, by decide +kernel, by decide +kernel⟩
abbrev s_product : Stmt := top 31
abbrev N_product : List Str := ["_law_one", "_law_other", "_law_found", "_law_row", "_law_signs", "_law_at", "_law_sign", "_law_middle"]
abbrev P_product : List Str := ["_law_one", "_law_other"]
theorem sc_product : FnScope N_product P_product (defScope s_product) :=
  ⟨rfl, rfl, rfl, by decide +kernel, rfl, by decide +kernel, by decide +kernel⟩
abbrev s_repeat_ : Stmt := top 32
abbrev N_repeat_ : List Str := ["_law_square", "_law_grown", "_law_at", "_law_sign", "_law_row"]
abbrev P_repeat_ : List Str := ["_law_square"]
theorem sc_repeat_ : FnScope N_repeat_ P_repeat_ (defScope s_repeat_) :=
  ⟨rfl, rfl, rfl, by decide +kernel, rfl, by decide +kernel, by decide +kernel⟩
abbrev s_drawn_square : Stmt := top 33
abbrev N_drawn_square : List Str := ["_law_dice_here", "_law_size", "_law_pool", "_law_found", "_law_row", "_law_at"]
abbrev P_drawn_square : List Str := ["_law_dice_here", "_law_size"]
theorem sc_drawn_square : FnScope N_drawn_square P_drawn_square (defScope s_drawn_square) :=
  ⟨rfl, rfl, rfl, by decide +kernel, rfl, by decide +kernel, by decide +kernel⟩
abbrev s_stable_of : Stmt := top 34
abbrev N_stable_of : List Str := ["_law_square", "_law_found", "_law_turn"]
abbrev P_stable_of : List Str := ["_law_square"]
theorem sc_stable_of : FnScope N_stable_of P_stable_of (defScope s_stable_of) :=
  ⟨rfl, rfl, rfl, by decide +kernel, rfl, by decide +kernel, by decide +kernel⟩
abbrev s_no_less : Stmt := top 35
abbrev N_no_less : List Str := ["_law_one", "_law_other", "_law_left", "_law_right_here"]
abbrev P_no_less : List Str := ["_law_one", "_law_other"]
theorem sc_no_less : FnScope N_no_less P_no_less (defScope s_no_less) :=
  ⟨rfl, rfl, rfl, by decide +kernel, rfl, by decide +kernel, by decide +kernel⟩
abbrev s_repeats_right : Stmt := top 36
abbrev N_repeats_right : List Str := ["_law_rows", "_law_square", "_law_again"]
abbrev P_repeats_right : List Str := ["_law_rows"]
theorem sc_repeats_right : FnScope N_repeats_right P_repeats_right (defScope s_repeats_right) :=
  ⟨rfl, rfl, rfl, by decide +kernel, rfl, by decide +kernel, by decide +kernel⟩
abbrev s_right : Stmt := top 37
abbrev N_right : List Str := ["_law_dice_here", "_law_size", "_law_one", "_law_other", "_law_third", "_law_turn", "_law_left", "_law_right_here"]
abbrev P_right : List Str := ["_law_dice_here"]
theorem sc_right : FnScope N_right P_right (defScope s_right) :=
  ⟨rfl, rfl, rfl, by decide +kernel, rfl, by decide +kernel, by decide +kernel⟩
abbrev s_law : Stmt := top 38
abbrev N_law : List Str := ["_law_script", "_law_spot", "_law_dice_here", "_law_turn", "_law_told", "_law_rows"]
abbrev P_law : List Str := ["_law_script"]
theorem sc_law : FnScope N_law P_law (defScope s_law) :=
  ⟨rfl, rfl, rfl, by decide +kernel, rfl, by decide +kernel, by decide +kernel⟩
abbrev s_Square___init__ : Stmt := mth (top 24) 1
abbrev N_Square___init__ : List Str := ["self", "rows"]
abbrev P_Square___init__ : List Str := ["self", "rows"]
theorem sc_Square___init__ : FnScope N_Square___init__ P_Square___init__ (defScope s_Square___init__) :=
  ⟨rfl, rfl, rfl, by decide +kernel, rfl, by decide +kernel, by decide +kernel⟩
abbrev s_Square_repeated : Stmt := mth (top 24) 5
abbrev N_Square_repeated : List Str := ["self"]
abbrev P_Square_repeated : List Str := ["self"]
theorem sc_Square_repeated : FnScope N_Square_repeated P_Square_repeated (defScope s_Square_repeated) :=
  ⟨rfl, rfl, rfl, by decide +kernel, rfl, by decide +kernel, by decide +kernel⟩
abbrev s_Square___mul__ : Stmt := mth (top 24) 7
abbrev N_Square___mul__ : List Str := ["self", "other"]
abbrev P_Square___mul__ : List Str := ["self", "other"]
theorem sc_Square___mul__ : FnScope N_Square___mul__ P_Square___mul__ (defScope s_Square___mul__) :=
  ⟨rfl, rfl, rfl, by decide +kernel, rfl, by decide +kernel, by decide +kernel⟩
abbrev s_Square___eq__ : Stmt := mth (top 24) 11
abbrev N_Square___eq__ : List Str := ["self", "other"]
abbrev P_Square___eq__ : List Str := ["self", "other"]
theorem sc_Square___eq__ : FnScope N_Square___eq__ P_Square___eq__ (defScope s_Square___eq__) :=
  ⟨rfl, rfl, rfl, by decide +kernel, rfl, by decide +kernel, by decide +kernel⟩
abbrev s_Square___str__ : Stmt := mth (top 24) 12
abbrev N_Square___str__ : List Str := ["self"]
abbrev P_Square___str__ : List Str := ["self"]
theorem sc_Square___str__ : FnScope N_Square___str__ P_Square___str__ (defScope s_Square___str__) :=
  ⟨rfl, rfl, rfl, by decide +kernel, rfl, by decide +kernel, by decide +kernel⟩
abbrev s_Square_rows : Stmt := mth (top 24) 3
abbrev N_Square_rows : List Str := ["self"]
abbrev P_Square_rows : List Str := ["self"]
theorem sc_Square_rows : FnScope N_Square_rows P_Square_rows (defScope s_Square_rows) :=
  ⟨rfl, rfl, rfl, by decide +kernel, rfl, by decide +kernel, by decide +kernel⟩
abbrev s_Square_is_stable : Stmt := mth (top 24) 4
abbrev N_Square_is_stable : List Str := ["self", "ranks"]
abbrev P_Square_is_stable : List Str := ["self"]
theorem sc_Square_is_stable : FnScope N_Square_is_stable P_Square_is_stable (defScope s_Square_is_stable) :=
  ⟨rfl, rfl, rfl, by decide +kernel, rfl, by decide +kernel, by decide +kernel⟩
structure Bt (mg : Str → Option Value) : Prop where
  abs : mg "abs" = none
  all : mg "all" = none
  enumerate : mg "enumerate" = none
  int : mg "int" = none
  isinstance : mg "isinstance" = none
  len : mg "len" = none
  max : mg "max" = none
  min : mg "min" = none
  range : mg "range" = none
  str : mg "str" = none
  tuple : mg "tuple" = none
  zip : mg "zip" = none
structure Cs (mg : Str → Option Value) : Prop where
  SIGNS : ∃ t_SIGNS, mg "SIGNS" = some (.str "01n." t_SIGNS)
  LITTLE : ∃ t_LITTLE, mg "LITTLE" = some (.int 1 t_LITTLE)
  GROWING : ∃ t_GROWING, mg "GROWING" = some (.int 2 t_GROWING)
  MAX_SIZE : ∃ t_MAX_SIZE, mg "MAX_SIZE" = some (.int 24 t_MAX_SIZE)
structure Ad where
  (a_is_sign : Addr)
  (d_is_sign : FuncData)
  (a_require_signs : Addr)
  (d_require_signs : FuncData)
  (a_least_sign : Addr)
  (d_least_sign : FuncData)
  (a_are_rows : Addr)
  (d_are_rows : FuncData)
  (a_ranks_of : Addr)
  (d_ranks_of : FuncData)
  (a_rows_of : Addr)
  (d_rows_of : FuncData)
  (a_product_of : Addr)
  (d_product_of : FuncData)
  (a_repeat_of : Addr)
  (d_repeat_of : FuncData)
  (a_dice : Addr)
  (d_dice : FuncData)
  (a_roll : Addr)
  (d_roll : FuncData)
  (a_pick : Addr)
  (d_pick : FuncData)
  (a_lesser : Addr)
  (d_lesser : FuncData)
  (a_greater : Addr)
  (d_greater : FuncData)
  (a_product : Addr)
  (d_product : FuncData)
  (a_repeat_ : Addr)
  (d_repeat_ : FuncData)
  (a_drawn_square : Addr)
  (d_drawn_square : FuncData)
  (a_stable_of : Addr)
  (d_stable_of : FuncData)
  (a_no_less : Addr)
  (d_no_less : FuncData)
  (a_repeats_right : Addr)
  (d_repeats_right : FuncData)
  (a_right : Addr)
  (d_right : FuncData)
  (a_law : Addr)
  (d_law : FuncData)
  (a_Square___init__ : Addr)
  (d_Square___init__ : FuncData)
  (a_Square_repeated : Addr)
  (d_Square_repeated : FuncData)
  (a_Square___mul__ : Addr)
  (d_Square___mul__ : FuncData)
  (a_Square___eq__ : Addr)
  (d_Square___eq__ : FuncData)
  (a_Square___str__ : Addr)
  (d_Square___str__ : FuncData)
  (a_Square_rows : Addr)
  (d_Square_rows : FuncData)
  (a_Square_is_stable : Addr)
  (d_Square_is_stable : FuncData)
  (c_Square : Addr)
  (p_Square_rows : Addr)
  (p_Square_is_stable : Addr)
  (q_Square_own_rows : Addr)
structure Ds (K : PySem.W.Frag) (mg : Str → Option Value) (Z : Ad) : Prop where
  is_sign : Df K mg "is_sign" s_is_sign P_is_sign Z.a_is_sign Z.d_is_sign
  require_signs : Df K mg "require_signs" s_require_signs P_require_signs Z.a_require_signs Z.d_require_signs
  least_sign : Sf K mg "least_sign" s_least_sign "signs" Z.a_least_sign Z.d_least_sign
  are_rows : Df K mg "are_rows" s_are_rows P_are_rows Z.a_are_rows Z.d_are_rows
  ranks_of : Df K mg "ranks_of" s_ranks_of P_ranks_of Z.a_ranks_of Z.d_ranks_of
  rows_of : Df K mg "rows_of" s_rows_of P_rows_of Z.a_rows_of Z.d_rows_of
  product_of : Df K mg "product_of" s_product_of P_product_of Z.a_product_of Z.d_product_of
  repeat_of : Df K mg "repeat_of" s_repeat_of P_repeat_of Z.a_repeat_of Z.d_repeat_of
  dice : Df K mg "_law_dice" s_dice P_dice Z.a_dice Z.d_dice
  roll : Df K mg "_law_roll" s_roll P_roll Z.a_roll Z.d_roll
  pick : Df K mg "_law_pick" s_pick P_pick Z.a_pick Z.d_pick
  lesser : Df K mg "_law_lesser" s_lesser P_lesser Z.a_lesser Z.d_lesser
  greater : Df K mg "_law_greater" s_greater P_greater Z.a_greater Z.d_greater
  product : Df K mg "_law_product" s_product P_product Z.a_product Z.d_product
  repeat_ : Df K mg "_law_repeat" s_repeat_ P_repeat_ Z.a_repeat_ Z.d_repeat_
  drawn_square : Df K mg "_law_drawn_square" s_drawn_square P_drawn_square Z.a_drawn_square Z.d_drawn_square
  stable_of : Df K mg "_law_stable_of" s_stable_of P_stable_of Z.a_stable_of Z.d_stable_of
  no_less : Df K mg "_law_no_less" s_no_less P_no_less Z.a_no_less Z.d_no_less
  repeats_right : Df K mg "_law_repeats_right" s_repeats_right P_repeats_right Z.a_repeats_right Z.d_repeats_right
  right : Df K mg "_law_right" s_right P_right Z.a_right Z.d_right
  law : Df K mg "law" s_law P_law Z.a_law Z.d_law
  Square___init__ : Mt K Z.c_Square "__init__" "Square.__init__" s_Square___init__ P_Square___init__ Z.a_Square___init__ Z.d_Square___init__
  Square_repeated : Mt K Z.c_Square "repeated" "Square.repeated" s_Square_repeated P_Square_repeated Z.a_Square_repeated Z.d_Square_repeated
  Square___mul__ : Mt K Z.c_Square "__mul__" "Square.__mul__" s_Square___mul__ P_Square___mul__ Z.a_Square___mul__ Z.d_Square___mul__
  Square___eq__ : Mt K Z.c_Square "__eq__" "Square.__eq__" s_Square___eq__ P_Square___eq__ Z.a_Square___eq__ Z.d_Square___eq__
  Square___str__ : Mt K Z.c_Square "__str__" "Square.__str__" s_Square___str__ P_Square___str__ Z.a_Square___str__ Z.d_Square___str__
  Square_rows : Pt K Z.c_Square "rows" "Square.rows" s_Square_rows P_Square_rows Z.p_Square_rows Z.a_Square_rows Z.d_Square_rows
  Square_is_stable : Pt K Z.c_Square "is_stable" "Square.is_stable" s_Square_is_stable P_Square_is_stable Z.p_Square_is_stable Z.a_Square_is_stable Z.d_Square_is_stable
  Square : Ob K mg "Square" Z.c_Square
  Square_own_rows : SlX.Slot1 K Z.c_Square "own_rows" Z.q_Square_own_rows 0

local macro_rules | `(tactic| walk_at "rd") => `(tactic| try simp only [cx_K, cx_w, tRet, tSeq_eq, tAsg, tDrop, tIfS_eq, tNext, gName, gSub, tAndV, tOrV, tNotV, tB, tTest, tAnd, tOr, tNot, tIf, tCB, tCons, tNil, tVar, tC, tOp, tUn, tChain, rI0, rI, rU, tLst, tTup, tCall, tPar,   tFor_eq, tLc_eq, iRng1, iRng2, iList, iTup, iStr, iZip, tRevL, tDisp, tPairs, tYes, wipe, id, rNe, rEq, scal_str, rIxS, tSM, tLM, rIxM, rLenM, rCat, rInt, rIntB, rSetL, rAppend, rExtend, rAllM, rRepS, rRng2, rInRng, atI0, atI1, atI2, ixN30, ixN32, upd_same, upd_upd,   L2.start, List.map_cons, List.map_nil, List.length_cons, List.length_nil, List.reduceReplicate, List.replicate_succ, List.replicate_zero, Nat.reduceAdd, Nat.reduceSub, List.nil_append, List.cons_append, List.append_nil,   List.getElem?_cons_zero, List.getElem?_cons_succ, List.set_cons_zero, List.set_cons_succ, Int.zero_add,   Option.some.injEq, HO.lst.injEq, HO.tup.injEq, HO.rng.injEq, V.int.injEq, V.bl.injEq, V.str.injEq, V.ref.injEq, reduceCtorEq, exists_eq_left, exists_eq_left', exists_eq_right, exists_eq', exists_eq, exists_and_left, true_and, and_true, false_and, and_assoc, exists_false, List.cons.injEq, ↓reduceIte, if_true, if_false, Bool.false_eq_true, rLenS, rLenTM, rIxTM, rTupM, HO.tup.injEq, Bool.not_true, Bool.not_false, rJoin, rIxOf, tLc2_eq, LZ.iZipN, LZ.iZipS, LZ.iEnumN, gTup, gLst, gCons, gNil, tSlot, SlX.tPropSl, SlX.tMethSl, StX.tMakeR, rIsS, rStrOwn, *])
local macro_rules | `(tactic| walk_at "go") => `(tactic| (refine later ?_; walk_at "rd"))
local macro_rules | `(tactic| walk_at "cj") => `(tactic| repeat (refine And.intro (by first | assumption | exact cpow60 | exact cpow59 | exact cpow17 | exact mul60 | decide | exact .inl ⟨by decide, by decide⟩ | exact .inr ⟨by decide, by decide⟩ | omega | exact ⟨by decide, by decide⟩) ?_))
/-! ### the dice -/
section
variable {P : Program} {w : World} {K : PySem.W.Frag} {mg : Str → Option Value} {base : Heap} {Z : Ad}
def spRoll : Sp := fun vs H Q _ => ∃ (d : Addr) (x y z n : Int), vs = [.ref d, .int n] ∧ H d = some (.lst [.int x, .int y, .int z]) ∧ 0 < n ∧ n.natAbs.log2 < 9000 ∧
  ∀ r x' y' z' : Int, 0 ≤ r → r < n → Q (.int r) (upd H d (.lst [.int x', .int y', .int z']))
theorem ok_roll (D : Ds K mg Z) (B : Bt mg) : FnOk P w K mg base CX0 1 Z.a_roll Z.d_roll P_roll spRoll := by
  refine D.roll.F.ok sc_roll (fun vs H Q E h => ?_) (fun cdv A outer s H vs Q E hr h => ?_)
  · obtain ⟨d, x, y, z, n, rfl, _⟩ := h
    rfl
  · obtain ⟨d, x, y, z, n, rfl, hd, hn, hlog, q⟩ := h
    refine ⟨_, (pss_cons (ps_if (pt_cmpR op_gt (pe_ix ix_M (pv 0) pe_int (fun _ _ => rfl)) pe_int (nomark _)) (pss_cons (ps_set (i := 2) sc_roll.nd rfl (Or.inl rfl) (pe_op op_mod (pe_callTy call_intI (by rfl) B.int (by decide +kernel) (pa_cons (pe_ix ix_M (pv 0) pe_int (fun _ _ => rfl)) pa_nil)) (pv 1)))
    (pss_cons (ps_asg (pe_op op_fdivW (pe_ix ix_M (pv 0) pe_int (fun _ _ => rfl)) (pv 1)) (pg_sub (pv 0) pe_int set_list))
    (pss_one (ps_ret (pv 2))))) pss_nil)
    (pss_cons (ps_asg (pe_op op_add (pe_ix ix_M (pv 0) pe_int (fun _ _ => rfl)) pe_int) (pg_sub (pv 0) pe_int set_list))
    (pss_cons (ps_set (i := 3) sc_roll.nd rfl (Or.inl rfl) (pe_op op_mod (pe_callTy call_intI (by rfl) B.int (by decide +kernel) (pa_cons (pe_op op_add (pe_ix ix_M (pv 0) pe_int (fun _ _ => rfl)) (pe_op op_mul pe_int (pe_ix ix_M (pv 0) pe_int (fun _ _ => rfl)))) pa_nil)) pe_int))
    (pss_cons (ps_set (i := 4) sc_roll.nd rfl (Or.inl rfl) (pe_op op_add (pe_op op_mul (pe_op op_mod (pe_callTy call_intI (by rfl) B.int (by decide +kernel) (pa_cons (pe_op op_add (pe_op op_mul (pv 3) (pv 3)) (pe_op op_mul pe_int (pe_ix ix_M (pv 0) pe_int (fun _ _ => rfl)))) pa_nil)) pe_int) pe_int) (pv 3)))
    (pss_one (ps_ret (pe_op op_mod (pe_callTy call_intI (by rfl) B.int (by decide +kernel) (pa_cons (pe_op op_fdivW (pv 4) pe_int) pa_nil)) (pv 1)))))))), ?_⟩
    walk_at "rd"
    have hdv : ∀ i : Int, CDivW i n := fun i => ⟨hn, hlog⟩
    have hm : ∀ i : Int, 0 ≤ i % n ∧ i % n < n := fun i => ⟨Int.emod_nonneg _ (by omega), Int.emod_lt_of_pos _ hn⟩
    refine ite2 (fun h => ?_) (fun h => ?_)
    · walk_at "go"
      walk_at "go"
      walk_at "go"
    · walk_at "go"
      walk_at "go"
      walk_at "go"
      refine ⟨.inl ⟨by decide, by decide⟩, by decide, ?_⟩
      have h1 := Int.emod_nonneg (y + 7907 * (z + 1)) (show (2305843009213693907 : Int) ≠ 0 by decide)
      have h2 := Int.emod_lt_of_pos (y + 7907 * (z + 1)) (show (0 : Int) < 2305843009213693907 by decide)
      generalize (y + 7907 * (z + 1)) % 2305843009213693907 = o at h1 h2 ⊢
      walk_at "go"
      have h3 := Int.emod_nonneg (o * o + 67 * (z + 1)) (show (2305843009213693921 : Int) ≠ 0 by decide)
      have h4 := Int.emod_lt_of_pos (o * o + 67 * (z + 1)) (show (0 : Int) < 2305843009213693921 by decide)
      refine ⟨.inl ⟨by omega, by omega⟩, .inl ⟨by decide, by decide⟩, by decide, .inr ⟨by decide, by decide⟩, ?_⟩
      walk_at "go"
      exact ⟨by decide, by decide⟩

def Items (H : Hp) (d : Addr) (it : V) (xs : List V) : Prop := (∃ l, it = .ref l ∧ l ≠ d ∧ H l = some (.lst xs)) ∨
  (∃ z : Str, it = .str z ∧ xs = z.cps.toList.map fun c => V.str ⟨#[c]⟩)
def spPick : Sp := fun vs H Q _ => ∃ (d : Addr) (x y z : Int) (it : V) (xs : List V), vs = [.ref d, it] ∧ H d = some (.lst [.int x, .int y, .int z]) ∧
  Items H d it xs ∧ 0 < xs.length ∧ xs.length ≤ 1000 ∧ ∀ v, v ∈ xs → ∀ x' y' z' : Int, Q v (upd H d (.lst [.int x', .int y', .int z']))
theorem ok_pick (D : Ds K mg Z) (B : Bt mg) : FnOk P w K mg base CX0 2 Z.a_pick Z.d_pick P_pick spPick := by
  have G_roll := ok_roll (P := P) (w := w) (base := base) D B
  refine D.pick.F.ok sc_pick (fun vs H Q E h => ?_) (fun cdv A outer s H vs Q E hr h => ?_)
  · obtain ⟨d, x, y, z, it, xs, rfl, _⟩ := h
    rfl
  · obtain ⟨d, x, y, z, it, xs, rfl, hd, hit, h0, h1, q⟩ := h
    refine ⟨_, (pss_one (ps_ret (pe_ix ix_seq (pv 1) (pe_df D.roll G_roll (hr.mono (by decide)) (by rfl) (pa_cons (pv 0) (pa_cons (pe_callB call_len (by rfl) B.len (by decide +kernel) (pa_cons (pv 1) pa_nil)) pa_nil))) (fun _ _ => rfl)))), ?_⟩
    have hlog : ((xs.length : Int)).natAbs.log2 < 9000 := Nat.lt_of_lt_of_le (log2_of (k := 10) (by omega) (by decide)) (by decide)
    have hat : ∀ r : Int, 0 ≤ r → r < (xs.length : Int) → ∃ v, v ∈ xs ∧ atI xs r = some v := by
      intro r r0 r1
      have hr' : r.toNat < xs.length := by omega
      refine ⟨xs[r.toNat], List.getElem_mem hr', ?_⟩
      exact L2.at_of (j := r.toNat) (by omega) (List.getElem?_eq_getElem hr')
    walk_at "rd"
    rcases hit with ⟨l, rfl, nl, hl⟩ | ⟨z', rfl, rfl⟩
    · refine ⟨xs.length, .inl ⟨xs, SqL.of hl, rfl⟩, ?_⟩
      refine ⟨d, x, y, z, _, rfl, hd, by omega, hlog, fun r x' y' z' r0 r1 => ?_⟩
      obtain ⟨v, hv, ha⟩ := hat r r0 r1
      exact .inl ⟨l, xs, r, v, rfl, rfl, SqL.of (by rw [upd_ne nl]; exact hl), ha, q v hv _ _ _⟩
    · rw [List.length_map] at h0 h1
      have ez : z'.length = z'.cps.toList.length := len_tl' z'
      have hz : z'.length ≤ sizeLine := Nat.le_trans (show z'.length ≤ 1000 by omega) (by decide)
      rw [List.length_map, ← ez] at hat hlog
      refine ⟨z'.length, ⟨hz, rfl⟩, ?_⟩
      refine ⟨d, x, y, z, _, rfl, hd, by omega, hlog, fun r x' y' w' r0 r1 => ?_⟩
      have hr' : r.toNat < z'.cps.toList.length := by omega
      have ha : atI z'.cps.toList r = some z'.cps.toList[r.toNat] := atI_of r0 hr'
      refine .inr (.inr ⟨z', r, z'.cps.toList[r.toNat], rfl, rfl, hz, ha, ?_⟩)
      exact q _ (List.mem_map.mpr ⟨_, List.getElem_mem hr', rfl⟩) _ _ _

def spDice (K : PySem.W.Frag) : Sp := fun vs H Q _ => ∃ (a : Addr) (ns : List Int) (i : Nat), vs = [.ref a, .int (i : Int)] ∧ SqL K H a (ns.map V.int) ∧
  ∀ (p : Addr) (x y : Int), H p = none → Q (.ref p) (upd H p (.lst [.int x, .int y, .int 0]))
theorem ok_dice (D : Ds K mg Z) (B : Bt mg) : FnOk P w K mg base CX0 1 Z.a_dice Z.d_dice P_dice (spDice K) := by
  refine D.dice.F.ok sc_dice (fun vs H Q E h => ?_) (fun cdv A outer s H vs Q E hr h => ?_)
  · obtain ⟨a, ns, i, rfl, _⟩ := h
    rfl
  · obtain ⟨a, ns, i, rfl, hS, q⟩ := h
    refine ⟨_, (pss_cons (ps_set (i := 2) sc_dice.nd rfl (Or.inl rfl) (pe_ifExp (pt_cmpR op_lt (pv 1) (pe_callB (call_lenK (K := K) rfl) (by rfl) B.len (by decide +kernel) (pa_cons (pv 0) pa_nil)) (nomark _)) (pe_callTy call_intI (by rfl) B.int (by decide +kernel) (pa_cons (pe_ix (ix_listK (K := K) rfl) (pv 0) (pv 1) (fun _ _ => rfl)) pa_nil)) (pe_op op_add (pe_op op_mul pe_int (pv 1)) pe_int)))
    (pss_cons (ps_set (i := 3) sc_dice.nd rfl (Or.inl rfl) (pe_op op_mod (pe_callB call_abs (by rfl) B.abs (by decide +kernel) (pa_cons (pv 2) pa_nil)) (pe_op op_pow pe_int pe_int)))
    (pss_cons (ps_set (i := 4) sc_dice.nd rfl (Or.inl rfl) (pe_callB (call_max2 rfl) (by rfl) B.max (by decide +kernel) (pa_cons pe_int (pa_cons (pe_op op_sub (pe_callB call_abs (by rfl) B.abs (by decide +kernel) (pa_cons (pv 2) pa_nil)) (pe_op op_pow pe_int pe_int)) pa_nil))))
    (pss_one (ps_ret (pe_lst (pa_cons (pe_op op_mod (pv 4) (pe_op op_mulW (pe_op op_pow pe_int pe_int) (pe_op op_pow pe_int pe_int))) (pa_cons (pe_op op_add (pe_op op_add (pe_op op_add (pe_op op_mul (pe_op op_mod (pv 3) pe_int) pe_int) (pe_op op_mul pe_int (pv 1))) (pe_op op_mul pe_int (pe_callTy call_intB (by rfl) B.int (by decide +kernel) (pa_cons (pe_cmpR op_lt (pv 2) pe_int (nomark _)) pa_nil)))) pe_int) (pa_cons pe_int pa_nil))))))))), ?_⟩
    walk_at "rd"
    refine ⟨_, .inl hS, ?_⟩
    rw [List.length_map]
    have cut : ∀ (A B : Prop) (c : Bool), (c = true → A) → (c = false → B) → if c = true then A else B := by
      intro A B c h1 h2
      cases c
      · exact h2 rfl
      · exact h1 rfl
    refine cut _ _ _ (fun h => ?_) (fun h => ?_)
    · have hi : i < ns.length := by have := of_decide_eq_true h; omega
      refine ⟨a, _, _, .int ns[i], rfl, rfl, hS, L2.at_of rfl (by rw [List.getElem?_map, List.getElem?_eq_getElem hi]; rfl), ?_⟩
      walk_at "rd"
      generalize ns[i] = c
      walk_at "go"
      refine ⟨cpow59, by decide, ?_⟩
      walk_at "go"
      refine ⟨cpow17, ?_⟩
      walk_at "go"
      walk_at "cj"
      exact fun p hp => q p _ _ hp
    · refine ⟨.inl ⟨by decide, by decide⟩, ?_⟩
      generalize 43 * (i : Int) + 7 = c
      walk_at "go"
      refine ⟨cpow59, by decide, ?_⟩
      walk_at "go"
      refine ⟨cpow17, ?_⟩
      walk_at "go"
      walk_at "cj"
      exact fun p hp => q p _ _ hp

end
/-! ### signs and squares -/
section
variable {P : Program} {w : World} {K : PySem.W.Frag} {mg : Str → Option Value} {base : Heap} {Z : Ad}
def spIsSign : Sp := fun vs H Q _ => ∃ r : Nat, vs = [.str (SQ.sgS r)] ∧ r ≤ 3 ∧ Q (.bl true) H
theorem ok_is_sign (D : Ds K mg Z) (B : Bt mg) (C0 : Cs mg) : FnOk P w K mg base CX0 1 Z.a_is_sign Z.d_is_sign P_is_sign spIsSign := by
  obtain ⟨⟨t_SIGNS, c_SIGNS⟩, ⟨t_LITTLE, c_LITTLE⟩, ⟨t_GROWING, c_GROWING⟩, ⟨t_MAX_SIZE, c_MAX_SIZE⟩⟩ := C0
  refine D.is_sign.F.ok sc_is_sign (fun vs H Q E h => ?_) (fun cdv A outer s H vs Q E hr h => ?_)
  · obtain ⟨r, rfl, _⟩ := h
    rfl
  · obtain ⟨r, rfl, h3, q⟩ := h
    refine ⟨_, (pss_one (ps_ret (pe_and (pe_callB (call_isiK' (K := K) rfl) (by rfl) B.isinstance (by decide +kernel) (pa_cons (pv 0) (pa_cons (pe_bltn (v := .ty "str") (by rfl) B.str (by decide +kernel) rfl) pa_nil))) (pe_and (pe_cmpR op_eq (pe_callB call_len_str (by rfl) B.len (by decide +kernel) (pa_cons (pv 0) pa_nil)) pe_int (nomark _)) (pe_one (pe_cmpR op_in_str (pv 0) (pe_glob (v := .str _) (by rfl) c_SIGNS ⟨_, rfl⟩) (by rfl))))))), ?_⟩
    walk_at "rd"
    have pl : Pl K H (.str (SQ.sgS r)) "str" := .str _
    refine rd_isi pl (isi_str pl) ?_
    walk_at "rd"
    rw [if_pos (by decide)]
    walk_at "rd"
    refine ⟨Nat.le_trans (show (SQ.sgS r).length ≤ 1 from Nat.le_refl _) (by decide), ?_⟩
    rw [show ((SQ.sgS r).length : Int) = 1 from rfl, if_pos (by decide)]
    walk_at "rd"
    rw [SQ.in_sgn h3]
    exact ⟨rfl, q⟩
/-- a tuple of signs -/
def SgT (K : PySem.W.Frag) (H : Hp) (p : Addr) (rs : List Nat) : Prop := SqT K H p (rs.map fun r => .str (SQ.sgS r))
def spReq (K : PySem.W.Frag) : Sp := fun vs H Q _ => ∃ (p : Addr) (r : Nat) (rs : List Nat), vs = [.ref p] ∧ SgT K H p (r :: rs) ∧ (∀ x, x ∈ r :: rs → x ≤ 3) ∧ rs.length ≤ 1000 ∧ ∀ H', Same H H' → Q .non H'
theorem ok_require_signs (D : Ds K mg Z) (B : Bt mg) (C0 : Cs mg) : FnOk P w K mg base CX0 2 Z.a_require_signs Z.d_require_signs P_require_signs (spReq K) := by
  have G_is_sign := ok_is_sign (P := P) (w := w) (base := base) D B C0
  obtain ⟨⟨t_SIGNS, c_SIGNS⟩, ⟨t_LITTLE, c_LITTLE⟩, ⟨t_GROWING, c_GROWING⟩, ⟨t_MAX_SIZE, c_MAX_SIZE⟩⟩ := C0
  refine D.require_signs.F.ok sc_require_signs (fun vs H Q E h => ?_) (fun cdv A outer s H vs Q E hr h => ?_)
  · obtain ⟨p, r, rs, rfl, _⟩ := h
    rfl
  · obtain ⟨p, r, rs, rfl, hp, h3, hl, q⟩ := h
    refine ⟨_, (pss_one (ps_if (PW.pt (pw_or (pt_cmpR (op_eqK (K := K) rfl hr.units) (pv 0) (pe_tup pa_nil) (nomark _)) (pw_or1 (pt_not (pt_val (pe_callB (cr_allM rfl) (by rfl) B.all (by decide +kernel) (pa_cons (pe_lc (own := [("sign", 1)]) (g := gName 1) rfl sc_require_signs.nd (pi_tupK (K := K) rfl (pv 0)) (blkOk_by (N := N_require_signs) (sc := defScope s_require_signs) (by decide +kernel)) (fun _ _ _ _ _ => (pg_name (i := 1) sc_require_signs.nd rfl (Or.inl rfl))) (fun _ _ _ _ _ => pts_nil) (fun _ _ _ _ _ => (pe_df D.is_sign G_is_sign (hr.mono (by decide)) (by rfl) (pa_cons (pv 1) pa_nil)))) pa_nil))))))) (pss_one ps_dead) pss_nil)), ?_⟩
    walk_at "rd"
    refine ⟨Nat.zero_le _, fun e0 he0 => ?_⟩
    have e := Same.new (o := HO.tup []) he0
    have h0 : upd H e0 (HO.tup []) e0 = some (.tup []) := upd_same
    generalize upd H e0 (HO.tup []) = H1 at e h0 ⊢
    have hp1 : SqT K H1 p (((r :: rs).map SQ.sgS).map .str) := by
      rw [List.map_map]
      exact Same.tup e hp
    refine SQ.eq_strT (l := (r :: rs).map SQ.sgS) (m := []) hp1 (SqT.of h0) (fun x hx => ?_) (fun x hx => nomatch hx) ?_
    · obtain ⟨y, _, rfl⟩ := List.mem_map.mp hx
      exact SQ.ok_sgS y
    rw [show decide ((r :: rs).map SQ.sgS = []) = false from rfl]
    walk_at "rd"
    refine ⟨⟨_, hp1⟩, ?_⟩
    refine lc_mapW walk_tup (fun H2 e2 => Same.tup e2 hp1) (by simp; omega) (fun _ => .bl true) (fun x => rfl) ?_ ?_
    · intro v hv H2 e2 R hR
      obtain ⟨z, hz, rfl⟩ := List.mem_map.mp hv
      obtain ⟨y, hy, rfl⟩ := List.mem_map.mp hz
      walk_at "rd"
      exact ⟨y, rfl, h3 y hy, hR H2 (Same.refl _)⟩
    · intro p2 H2 hp2 e2 hl2
      walk_at "rd"
      refine ⟨(r :: rs).map fun _ => true, by simp only [List.map_map]; rfl, ?_⟩
      rw [show ((r :: rs).map fun _ => true).all id = true by simp]
      exact q H2 (e.trans e2)
def spLeast : Sp := fun vs H Q _ => ∃ r s : Nat, vs = [.str (SQ.sgS r), .str (SQ.sgS s)] ∧ r ≤ 3 ∧ s ≤ 3 ∧ ∀ H', Same H H' → Q (.str (SQ.sgS (min r s))) H'
theorem ok_least_sign (D : Ds K mg Z) (B : Bt mg) (C0 : Cs mg) : FnR P w K mg base CX0 3 Z.a_least_sign spLeast := by
  have G_require_signs := ok_require_signs (P := P) (w := w) (base := base) D B C0
  obtain ⟨⟨t_SIGNS, c_SIGNS⟩, ⟨t_LITTLE, c_LITTLE⟩, ⟨t_GROWING, c_GROWING⟩, ⟨t_MAX_SIZE, c_MAX_SIZE⟩⟩ := C0
  refine FnR.imp (D.least_sign.ok (sp := fun vs H Q _ => ∃ (p : Addr) (r s : Nat), vs = [.ref p] ∧ SgT K H p [r, s] ∧ r ≤ 3 ∧ s ≤ 3 ∧ ∀ H', Same H H' → Q (.str (SQ.sgS (min r s))) H') sc_least_sign (fun cdv A outer s H vs Q E hr h => ?_)) fun vs H Q E h => ?_
  · obtain ⟨p, r, s', rfl, hp, h3, h4, q⟩ := h
    refine ⟨_, (pss_cons (ps_expr (pe_df D.require_signs G_require_signs (hr.mono (by decide)) (by rfl) (pa_cons (pv 0) pa_nil)))
    (pss_one (ps_ret (pe_ix ix_str (pe_glob (v := .str _) (by rfl) c_SIGNS ⟨_, rfl⟩) (pe_callB (cr_minK' (K := K) rfl rfl) (by rfl) B.min (by decide +kernel) (pa_cons (pe_lc (own := [("sign", 1)]) (g := gName 1) rfl sc_least_sign.nd (pi_tupK (K := K) rfl (pv 0)) (blkOk_by (N := N_least_sign) (sc := defScope s_least_sign) (by decide +kernel)) (fun _ _ _ _ _ => (pg_name (i := 1) sc_least_sign.nd rfl (Or.inl rfl))) (fun _ _ _ _ _ => pts_nil) (fun _ _ _ _ _ => (pe_sm PySem.F.plainAttrs_str PySem.F.slot_str_index PySem.F.type_str_index mt_ixOf (pe_glob (v := .str _) (by rfl) c_SIGNS ⟨_, rfl⟩) (pa_cons (pv 1) pa_nil)))) pa_nil)) (fun _ _ => rfl))))), ?_⟩
    walk_at "rd"
    have all3 : ∀ x, x ∈ [r, s'] → x ≤ 3 := fun x hx => by
      rcases List.mem_cons.mp hx with rfl | hx
      · exact h3
      · rw [List.mem_singleton.mp hx]
        exact h4
    refine ⟨p, r, [s'], rfl, hp, all3, Nat.succ_le_succ (Nat.zero_le _), fun H1 e1 => ?_⟩
    walk_at "go"
    have hp1 := Same.tup e1 hp
    refine ⟨⟨_, hp1⟩, ?_⟩
    refine lc_val walk_tup (fun i => .int (([r, s'].getD i 0 : Nat) : Int)) (fun H2 e2 => Same.tup e2 hp1) (by show 2 ≤ 1000000; decide) ?_ ?_
    · rintro i v H2 _ hi e2 ⟨rfl, ev⟩ R hR
      rw [List.getElem?_map] at ev
      obtain ⟨y, ey, rfl⟩ := Option.map_eq_some_iff.mp ev
      have hy : y ≤ 3 := all3 y (List.mem_of_getElem? ey)
      have eg : [r, s'].getD i 0 = y := by rw [List.getD_eq_getElem?_getD, ey]; rfl
      walk_at "rd"
      exact ⟨y, SQ.ix_sgn hy, by rw [← eg]; exact hR _ (Same.refl _)⟩
    · intro p2 H2 hp2 e2 hl2
      refine ⟨p2, [(r : Int), (s' : Int)], rfl, SqL.of hl2, by simp, fun m hm hm2 => ?_⟩
      have em : m = ((min r s' : Nat) : Int) := by
        have h5 := hm2 r (by simp)
        have h6 := hm2 s' (by simp)
        have h7 : m = r ∨ m = s' := by simpa using hm
        omega
      subst em
      walk_at "rd"
      exact ⟨by decide, _, SQ.at_signs (by omega), q H2 (e1.trans e2)⟩
  · obtain ⟨r, s', rfl, h3, h4, q⟩ := h
    refine ⟨Nat.le_trans (show 2 ≤ 1000 by decide) (by decide), fun p hp => ⟨p, r, s', rfl, SqT.of upd_same, h3, h4, fun H' e => q H' ((Same.new hp).trans e)⟩⟩
/-- the rows of a square -/
def Rows (K : PySem.W.Frag) (H : Hp) (v : V) (n : Nat) (A : SQ.Sq) : Prop := ∃ p, v = .ref p ∧ H p = some (.tup (SQ.rowsL n A))
theorem Rows.same {K : PySem.W.Frag} {H H' : Hp} {v : V} {n : Nat} {A : SQ.Sq} (h : Rows K H v n A) (e : Same H H') : Rows K H' v n A := let ⟨p, a, b⟩ := h; ⟨p, a, e _ _ b⟩
end
section
variable {P : Program} {w : World} {K : PySem.W.Frag} {mg : Str → Option Value} {base : Heap} {Z : Ad}
def spAre (K : PySem.W.Frag) : Sp := fun vs H Q _ => ∃ (v : V) (n : Nat) (A : SQ.Sq), vs = [v] ∧ Rows K H v n A ∧ 1 ≤ n ∧ n ≤ 24 ∧ SQ.Wf n A ∧ ∀ H', Same H H' → Q (.bl true) H'
theorem ok_are_rows (D : Ds K mg Z) (B : Bt mg) (C0 : Cs mg) : FnOk P w K mg base CX0 1 Z.a_are_rows Z.d_are_rows P_are_rows (spAre K) := by
  obtain ⟨⟨t_SIGNS, c_SIGNS⟩, ⟨t_LITTLE, c_LITTLE⟩, ⟨t_GROWING, c_GROWING⟩, ⟨t_MAX_SIZE, c_MAX_SIZE⟩⟩ := C0
  refine D.are_rows.F.ok sc_are_rows (fun vs H Q E h => ?_) (fun cdv A outer s H vs Q E hr h => ?_)
  · obtain ⟨v, n, A, rfl, _⟩ := h
    rfl
  · obtain ⟨v, n, A, rfl, ⟨p, rfl, hp⟩, h1, h24, wf, q⟩ := h
    refine ⟨_, (pss_cons (ps_if (PW.pt (pw_or (pt_not (pt_val (pe_callB (call_isiK' (K := K) rfl) (by rfl) B.isinstance (by decide +kernel) (pa_cons (pv 0) (pa_cons (pe_bltn (v := .ty "tuple") (by rfl) B.tuple (by decide +kernel) rfl) pa_nil))))) (pw_or1 (pt_not (pt_chain op_le op_le pe_int (pe_callB call_lenT (by rfl) B.len (by decide +kernel) (pa_cons (pv 0) pa_nil)) (pe_glob (v := .int _) (by rfl) c_MAX_SIZE ⟨_, rfl⟩)))))) (pss_one (ps_ret pe_bl)) pss_nil)
    (pss_cons (ps_if (pt_not (pt_val (pe_callB (cr_allM rfl) (by rfl) B.all (by decide +kernel) (pa_cons (pe_lc (own := [("row", 1)]) (g := gName 1) rfl sc_are_rows.nd (pi_tupK (K := K) rfl (pv 0)) (blkOk_by (N := N_are_rows) (sc := defScope s_are_rows) (by decide +kernel)) (fun _ _ _ _ _ => (pg_name (i := 1) sc_are_rows.nd rfl (Or.inl rfl))) (fun _ _ _ _ _ => pts_nil) (fun _ _ _ _ _ => (pe_and (pe_callB (call_isiK' (K := K) rfl) (by rfl) B.isinstance (by decide +kernel) (pa_cons (pv 1) (pa_cons (pe_bltn (v := .ty "str") (by rfl) B.str (by decide +kernel) rfl) pa_nil))) (pe_one (pe_cmpR op_eq (pe_callB call_len_str (by rfl) B.len (by decide +kernel) (pa_cons (pv 1) pa_nil)) (pe_callB call_lenT (by rfl) B.len (by decide +kernel) (pa_cons (pv 0) pa_nil)) (nomark _)))))) pa_nil)))) (pss_one (ps_ret pe_bl)) pss_nil)
    (pss_one (ps_ret (pe_callB (cr_allM rfl) (by rfl) B.all (by decide +kernel) (pa_cons (pe_lc2 (own := [("row", 1), ("sign", 2)]) (vs1 := [2]) (g := gName 1) (g1 := gName 2) rfl sc_are_rows.nd (pi_tupK (K := K) rfl (pv 0)) (blkOk_by (N := N_are_rows) (sc := defScope s_are_rows) (by decide +kernel)) (by decide) (fun _ _ _ _ _ => (pg_name (i := 1) sc_are_rows.nd rfl (Or.inl rfl))) (fun _ _ _ _ _ => pts_nil) (fun _ _ _ _ _ => (pi_str (pv 1))) (fun _ _ _ _ _ => (pg_name (i := 2) sc_are_rows.nd rfl (Or.inl rfl))) (fun _ _ _ _ _ => pts_nil) (fun _ _ _ _ _ => (pe_cmpR op_in_str (pv 2) (pe_glob (v := .str _) (by rfl) c_SIGNS ⟨_, rfl⟩) (by rfl)))) pa_nil)))))), ?_⟩
    walk_at "rd"
    have pl : Pl K H (.ref p) "tuple" := .tup hp
    refine rd_isi pl (isi_tuple pl) ?_
    walk_at "rd"
    rw [if_neg (by decide)]
    have el : (SQ.rowsL n A).length = n := SQ.len_rows n A
    have d1 : decide (1 ≤ ((SQ.rowsL n A).length : Int)) = true := decide_eq_true (by rw [el]; omega)
    have d2 : decide (((SQ.rowsL n A).length : Int) ≤ 24) = true := decide_eq_true (by rw [el]; omega)
    rw [d1, d2]
    walk_at "rd"
    walk_at "go"
    walk_at "go"
    refine ⟨⟨_, SqT.of hp⟩, ?_⟩
    refine lc_mapW walk_tup (fun H2 e2 => SqT.of (e2 _ _ hp)) (by rw [el]; omega) (fun _ => .bl true) (fun x => rfl) ?_ ?_
    · intro v hv H2 e2 R hR
      obtain ⟨i, hi, rfl⟩ := List.mem_map.mp hv
      have hp2 := e2 _ _ hp
      walk_at "rd"
      have pl2 : Pl K H2 (.str (SQ.rowStr n A i)) "str" := .str _
      refine rd_isi pl2 (isi_str pl2) ?_
      walk_at "rd"
      rw [if_pos (by decide)]
      walk_at "rd"
      rw [SQ.len_row]
      refine ⟨Nat.le_trans h24 (by decide), rfl, ?_⟩
      rw [decide_eq_true rfl]
      exact hR H2 (Same.refl _)
    · intro p2 H2 hp2 e2 hl2
      walk_at "rd"
      refine ⟨(SQ.rowsL n A).map fun _ => true, by simp only [List.map_map]; rfl, ?_⟩
      rw [show ((SQ.rowsL n A).map fun _ => true).all id = true by simp]
      rw [if_neg (by decide)]
      walk_at "go"
      walk_at "go"
      have hp2' := e2 _ _ hp
      refine ⟨⟨_, SqT.of hp2'⟩, ?_⟩
      refine lc2_all (k := n) walk_tup (.bl true) (fun H3 e3 => SqT.of (e3 _ _ hp2')) (by rw [el]; exact Nat.le_trans (Nat.mul_le_mul h24 h24) (by decide)) (fun _ => rfl) (fun _ _ => rfl) ?_ ?_
      · intro v hv H3 e3 R hR
        obtain ⟨i, hi, rfl⟩ := List.mem_map.mp hv
        walk_at "rd"
        refine hR _ _ _ (walk_signs (SQ.rowStr n A i)) (by rw [SQ.signs_row]; simp) (fun _ _ => trivial) ?_
        intro y hy H4 e4 R' hR'
        rw [SQ.signs_row] at hy
        obtain ⟨j, hj, rfl⟩ := List.mem_map.mp hy
        walk_at "rd"
        rw [SQ.in_sgn (wf i j (List.mem_range.mp hi) (List.mem_range.mp hj))]
        exact hR' _ (Same.refl _)
      · intro p3 H3 hp3 e3 hl3
        walk_at "rd"
        refine ⟨List.replicate (n * n) true, by rw [List.map_replicate], ?_⟩
        rw [show (List.replicate (n * n) true).all id = true by simp]
        exact q H3 (e2.trans e3)
/-! ### ranks -/
def spRanks (K : PySem.W.Frag) : Sp := fun vs H Q _ => ∃ (v : V) (n : Nat) (A : SQ.Sq), vs = [v] ∧ Rows K H v n A ∧ n ≤ 24 ∧ SQ.Wf n A ∧ ∀ p H', Same H H' → SQ.RkAt K H' p n A → Q (.ref p) H'
theorem ok_ranks_of (D : Ds K mg Z) (B : Bt mg) (C0 : Cs mg) : FnOk P w K mg base CX0 1 Z.a_ranks_of Z.d_ranks_of P_ranks_of (spRanks K) := by
  obtain ⟨⟨t_SIGNS, c_SIGNS⟩, ⟨t_LITTLE, c_LITTLE⟩, ⟨t_GROWING, c_GROWING⟩, ⟨t_MAX_SIZE, c_MAX_SIZE⟩⟩ := C0
  refine D.ranks_of.F.ok sc_ranks_of (fun vs H Q E h => ?_) (fun cdv A outer s H vs Q E hr h => ?_)
  · obtain ⟨v, n, A, rfl, _⟩ := h
    rfl
  · obtain ⟨v, n, A, rfl, ⟨p, rfl, hp⟩, h24, wf, q⟩ := h
    refine ⟨_, (pss_one (ps_ret (pe_callTy call_tupM (by rfl) B.tuple (by decide +kernel) (pa_cons (pe_lc (own := [("row", 2)]) (g := gName 2) rfl sc_ranks_of.nd (pi_tupK (K := K) rfl (pv 0)) (blkOk_by (N := N_ranks_of) (sc := defScope s_ranks_of) (by decide +kernel)) (fun _ _ _ _ _ => (pg_name (i := 2) sc_ranks_of.nd rfl (Or.inl rfl))) (fun _ _ _ _ _ => pts_nil) (fun _ _ _ _ _ => (pe_callTy call_tupM (by rfl) B.tuple (by decide +kernel) (pa_cons (pe_lc (own := [("sign", 1)]) (g := gName 1) rfl sc_ranks_of.nd (pi_str (pv 2)) (blkOk_by (N := N_ranks_of) (by kernel_rfl)) (fun _ _ _ _ _ => (pg_name (i := 1) sc_ranks_of.nd rfl (Or.inl rfl))) (fun _ _ _ _ _ => pts_nil) (fun _ _ _ _ _ => (pe_sm PySem.F.plainAttrs_str PySem.F.slot_str_index PySem.F.type_str_index mt_ixOf (pe_glob (v := .str _) (by rfl) c_SIGNS ⟨_, rfl⟩) (pa_cons (pv 1) pa_nil)))) pa_nil)))) pa_nil)))), ?_⟩
    walk_at "rd"
    have el : (SQ.rowsL n A).length = n := SQ.len_rows n A
    refine ⟨⟨_, SqT.of hp⟩, ?_⟩
    refine lc_rel walk_tup (fun i y H2 => ∃ a, y = .ref a ∧ H2 a = some (.tup (SQ.rkL n A i))) (fun i y H1 H2 nl h => let ⟨a, h1, h2⟩ := h; ⟨a, h1, nl _ _ (fun _ z => nomatch z) h2⟩) (fun H2 e2 => SqT.of (e2 _ _ hp)) (by rw [el]; omega) ?_ ?_
    · rintro i v H1 _ hi e1 ⟨rfl, ev⟩ R hR
      obtain ⟨hi', rfl⟩ := SQ.mapr_get ev
      walk_at "rd"
      refine lc_val (walk_signs (SQ.rowStr n A i)) (fun j => .int ((A i j : Nat) : Int)) (fun _ _ => trivial) (by rw [SQ.signs_row]; simp; omega) ?_ ?_
      · rintro j v H3 _ hj e3 ⟨rfl, ev⟩ R2 hR2
        rw [SQ.signs_row] at ev
        obtain ⟨hj', rfl⟩ := SQ.mapr_get ev
        walk_at "rd"
        exact ⟨_, SQ.ix_sgn (wf i j hi' hj'), hR2 _ (Same.refl _)⟩
      · intro p2 H3 hp2 e3 hl3
        walk_at "rd"
        intro l hl
        have el2 : (LP.signs (SQ.rowStr n A i)).length = n := by rw [SQ.signs_row]; simp
        rw [el2]
        exact hR _ _ (e3.trans (Same.new hl)) ⟨l, rfl, upd_same⟩
    · intro p2 ys H2 hp2 e2 hl2 hlen hr2
      walk_at "rd"
      intro l hl
      have e3 := Same.new (o := HO.tup ys) hl
      refine q l _ (e2.trans e3) ⟨ys, upd_same, by rw [hlen, el], fun i v ev => ?_⟩
      obtain ⟨a, h1, h2⟩ := hr2 i v ev
      exact ⟨a, h1, e3 _ _ h2⟩
def spRowsOf (K : PySem.W.Frag) : Sp := fun vs H Q _ => ∃ (t : Addr) (n : Nat) (A : SQ.Sq), vs = [.ref t] ∧ SQ.RkAt K H t n A ∧ n ≤ 24 ∧ SQ.Wf n A ∧ ∀ p H', Same H H' → H' p = some (.tup (SQ.rowsL n A)) → Q (.ref p) H'
theorem ok_rows_of (D : Ds K mg Z) (B : Bt mg) (C0 : Cs mg) : FnOk P w K mg base CX0 1 Z.a_rows_of Z.d_rows_of P_rows_of (spRowsOf K) := by
  obtain ⟨⟨t_SIGNS, c_SIGNS⟩, ⟨t_LITTLE, c_LITTLE⟩, ⟨t_GROWING, c_GROWING⟩, ⟨t_MAX_SIZE, c_MAX_SIZE⟩⟩ := C0
  refine D.rows_of.F.ok sc_rows_of (fun vs H Q E h => ?_) (fun cdv A outer s H vs Q E hr h => ?_)
  · obtain ⟨v, n, A, rfl, _⟩ := h
    rfl
  · obtain ⟨t, n, A, rfl, hk, h24, wf, q⟩ := h
    refine ⟨_, (pss_one (ps_ret (pe_callTy call_tupM (by rfl) B.tuple (by decide +kernel) (pa_cons (pe_lc (own := [("row", 2)]) (g := gName 2) rfl sc_rows_of.nd (pi_tupK (K := K) rfl (pv 0)) (blkOk_by (N := N_rows_of) (sc := defScope s_rows_of) (by decide +kernel)) (fun _ _ _ _ _ => (pg_name (i := 2) sc_rows_of.nd rfl (Or.inl rfl))) (fun _ _ _ _ _ => pts_nil) (fun _ _ _ _ _ => (pe_sm PySem.F.plainAttrs_str PySem.F.slot_str_join PySem.F.type_str_join (mt_joinK (K := K) rfl) pe_str (pa_cons (pe_lc (own := [("rank", 1)]) (g := gName 1) rfl sc_rows_of.nd (pi_tupK (K := K) rfl (pv 2)) (blkOk_by (N := N_rows_of) (by kernel_rfl)) (fun _ _ _ _ _ => (pg_name (i := 1) sc_rows_of.nd rfl (Or.inl rfl))) (fun _ _ _ _ _ => pts_nil) (fun _ _ _ _ _ => (pe_ix ix_str (pe_glob (v := .str _) (by rfl) c_SIGNS ⟨_, rfl⟩) (pv 1) (fun _ _ => rfl)))) pa_nil)))) pa_nil)))), ?_⟩
    walk_at "rd"
    obtain ⟨ts, ht, htl, hts⟩ := id hk
    refine ⟨⟨_, SqT.of ht⟩, ?_⟩
    refine lc_val walk_tup (fun i => .str (SQ.rowStr n A i)) (fun H2 e2 => SqT.of (e2 _ _ ht)) (by omega) ?_ ?_
    · rintro i v H1 _ hi e1 ⟨rfl, ev⟩ R hR
      obtain ⟨a, rfl, ha⟩ := hts i v ev
      have ha1 := e1 _ _ ha
      walk_at "rd"
      refine ⟨⟨_, SqT.of ha1⟩, ?_⟩
      refine lc_val walk_tup (fun j => .str (SQ.sgS (A i j))) (fun H2 e2 => SqT.of (e2 _ _ ha1)) (by rw [SQ.len_rk]; omega) ?_ ?_
      · rintro j v H3 _ hj e3 ⟨rfl, ev⟩ R2 hR2
        obtain ⟨hj', rfl⟩ := SQ.mapr_get ev
        walk_at "rd"
        exact ⟨by decide, _, SQ.at_signs (wf i j (by omega) hj'), hR2 _ (Same.refl _)⟩
      · intro p2 H3 hp2 e3 hl3
        walk_at "rd"
        rw [SQ.len_rk] at hl3
        refine ⟨(List.range n).map fun j => SQ.sgS (A i j), .inl (SqL.of (by rw [hl3, List.map_map]; rfl)), ?_, ?_⟩
        · rw [SQ.sum_ones (fun _ => rfl), List.length_range, show ("" : Str).length = 0 from rfl]
          omega
        · rw [SQ.join_row]
          exact hR _ e3
    · intro p2 H2 hp2 e2 hl2
      walk_at "rd"
      intro l hl
      exact q l _ (e2.trans (Same.new hl)) upd_same
/-! ### products -/
def spProd (K : PySem.W.Frag) : Sp := fun vs H Q _ => ∃ (t u : Addr) (n : Nat) (A B : SQ.Sq), vs = [.ref t, .ref u] ∧ SQ.RkAt K H t n A ∧ SQ.RkAt K H u n B ∧ 1 ≤ n ∧ n ≤ 24 ∧ SQ.Wf n A ∧ SQ.Wf n B ∧ ∀ p H', Same H H' → SQ.RkAt K H' p n (SQ.mul n A B) → Q (.ref p) H'
theorem ok_product_of (D : Ds K mg Z) (B : Bt mg) (C0 : Cs mg) : FnOk P w K mg base CX0 1 Z.a_product_of Z.d_product_of P_product_of (spProd K) := by
  obtain ⟨⟨t_SIGNS, c_SIGNS⟩, ⟨t_LITTLE, c_LITTLE⟩, ⟨t_GROWING, c_GROWING⟩, ⟨t_MAX_SIZE, c_MAX_SIZE⟩⟩ := C0
  refine D.product_of.F.ok sc_product_of (fun vs H Q E h => ?_) (fun cdv A outer s H vs Q E hr h => ?_)
  · obtain ⟨t, u, n, A, B, rfl, _⟩ := h
    rfl
  · obtain ⟨t, u, n, A, B', rfl, hk, hk2, h1, h24, wa, wb, q⟩ := h
    refine ⟨_, (pss_cons (ps_set (i := 2) sc_product_of.nd rfl (Or.inr rfl) (pe_lc (own := [("column", 3)]) (g := gName 3) rfl sc_product_of.nd (pi_zipSK (K := K) rfl (by rfl) B.zip (pv 1)) (blkOk_by (N := N_product_of) (sc := defScope s_product_of) (by decide +kernel)) (fun _ _ _ _ _ => (pg_name (i := 3) sc_product_of.nd rfl (Or.inl rfl))) (fun _ _ _ _ _ => pts_nil) (fun _ _ _ _ _ => (pv 3))))
    (pss_one (ps_ret (pe_callTy call_tupM (by rfl) B.tuple (by decide +kernel) (pa_cons (pe_lc (own := [("row", 6)]) (g := gName 6) rfl sc_product_of.nd (pi_tupK (K := K) rfl (pv 0)) (blkOk_by (N := N_product_of) (sc := defScope s_product_of) (by decide +kernel)) (fun _ _ _ _ _ => (pg_name (i := 6) sc_product_of.nd rfl (Or.inr rfl))) (fun _ _ _ _ _ => pts_nil) (fun _ _ _ _ _ => (pe_callTy call_tupM (by rfl) B.tuple (by decide +kernel) (pa_cons (pe_lc (own := [("column", 3)]) (g := gName 3) rfl sc_product_of.nd (pi_listK (K := K) rfl (pv 2)) (blkOk_by (N := N_product_of) (by kernel_rfl)) (fun _ _ _ _ _ => (pg_name (i := 3) sc_product_of.nd rfl (Or.inl rfl))) (fun _ _ _ _ _ => pts_nil) (fun _ _ _ _ _ => (pe_callB (cr_minK' (K := K) rfl rfl) (by rfl) B.min (by decide +kernel) (pa_cons (pe_lc (own := [("left", 4), ("right", 5)]) rfl sc_product_of.nd (pi_zipNK (K := K) rfl (by rfl) B.zip (pa_cons (pv 6) (pa_cons (pv 3) pa_nil))) (blkOk_by (N := N_product_of) (by kernel_rfl)) (fun _ _ _ _ _ => (pg_tupK (K := K) (n := 2) rfl rfl (pgs_cons (pg_name (i := 4) sc_product_of.nd rfl (Or.inl rfl)) (pgs_cons (pg_name (i := 5) sc_product_of.nd rfl (Or.inl rfl)) pgs_nil)))) (fun _ _ _ _ _ => pts_nil) (fun _ _ _ _ _ => (pe_callB (call_max2 rfl) (by rfl) B.max (by decide +kernel) (pa_cons (pv 4) (pa_cons (pv 5) pa_nil))))) pa_nil)))) pa_nil)))) pa_nil))))), ?_⟩
    walk_at "rd"
    obtain ⟨us, ss, hu, hsv, hsl, hall⟩ := hk2.svs
    refine ⟨us, .inl hu, ss, hsv, by omega, by omega, ?_⟩
    refine lc_rel (LZ.walk_zipN (n := n) (xss := (List.range n).map (SQ.rkL n B')) (fun xs hx => ?_) (by simp; omega)) (fun i y H2 => ∃ a, y = .ref a ∧ SqT K H2 a (SQ.clL n B' i)) (fun i y H1 H2 nl h => let ⟨a, h1, h2⟩ := h; ⟨a, h1, nl.tup h2⟩) hall (by omega) ?_ ?_
    · obtain ⟨i, _, rfl⟩ := List.mem_map.mp hx
      exact SQ.len_rk n B' i
    · rintro i v H1 _ hi e1 ⟨T, xs, rfl, hT, rfl, hxl, hx⟩ R hR
      walk_at "rd"
      have ex := SQ.col_of hi (by rw [hxl]; simp) hx
      rw [← ex] at hR
      exact hR _ _ (Same.new hT) ⟨T, rfl, SqT.of upd_same⟩
    · intro cs ys H2 hcs e2 hl2 hlen hcol
      walk_at "go"
      obtain ⟨ts, ht, htl, hts⟩ := hk.same e2
      refine ⟨⟨_, SqT.of ht⟩, ?_⟩
      refine lc_rel walk_tup (fun i y H2 => ∃ a, y = .ref a ∧ H2 a = some (.tup (SQ.rkL n (SQ.mul n A B') i))) (fun i y H1 H2 nl h => let ⟨a, h1, h2⟩ := h; ⟨a, h1, nl _ _ (fun _ z => nomatch z) h2⟩) (fun H3 e3 => SqT.of (e3 _ _ ht)) (by omega) ?_ ?_
      · rintro i v H3 _ hi e3 ⟨rfl, ev⟩ R hR
        obtain ⟨a, rfl, ha⟩ := hts i v ev
        have hl3 := e3 _ _ hl2
        walk_at "rd"
        refine ⟨⟨_, SqL.of hl3⟩, ?_⟩
        refine lc_val walk_list (fun j => .int ((SQ.mul n A B' i j : Nat) : Int)) (fun H4 e4 => SqL.of (e4 _ _ hl3)) (by omega) ?_ ?_
        · rintro j v H4 _ hj e4 ⟨rfl, ev⟩ R2 hR2
          obtain ⟨c, rfl, hc⟩ := hcol j v ev
          have ha4 := SqT.of (K := K) ((e3.trans e4) _ _ ha)
          have hc4 := Same.tup (e3.trans e4) hc
          walk_at "rd"
          refine ⟨[.tup a, .tup c], .cons (s := .tup a) rfl ha4 (.cons (s := .tup c) rfl hc4 .nil), by simp, by simp, ?_⟩
          refine lc_val (LZ.walk_zip2 (s1 := .tup a) (s2 := .tup c) (xs := SQ.rkL n A i) (ys := SQ.clL n B' j) (by rw [SQ.len_rk, SQ.len_cl])) (fun k => .int ((max (A i k) (B' k j) : Nat) : Int)) (fun H5 e5 => ⟨Same.tup e5 ha4, Same.tup e5 hc4⟩) (by rw [SQ.len_rk]; omega) ?_ ?_
          · rintro k v H5 _ hk e5 ⟨T, x, y, rfl, hT, rfl, ex, ey⟩ R3 hR3
            obtain ⟨hk', rfl⟩ := SQ.mapr_get ex
            obtain ⟨_, rfl⟩ := SQ.mapr_get ey
            walk_at "rd"
            refine ⟨_, SqT.of upd_same, rfl, ?_⟩
            walk_at "rd"
            rw [SQ.max_int]
            exact hR3 _ (Same.new hT)
          · intro p3 H5 hp3 e5 hl5
            rw [SQ.len_rk] at hl5
            refine ⟨p3, (List.range n).map fun k => ((max (A i k) (B' k j) : Nat) : Int), rfl, SqL.of (by rw [hl5, List.map_map]; rfl), by simp; omega, fun m hm hm2 => ?_⟩
            rw [SQ.least_of h1 (fun k hk => Nat.max_le.mpr ⟨wa i k (by omega) hk, wb k j hk (by omega)⟩) hm hm2]
            exact hR2 _ e5
        · intro p3 H4 hp3 e4 hl4
          walk_at "rd"
          intro l hl
          exact hR _ _ (e4.trans (Same.new hl)) ⟨l, rfl, by rw [upd_same]; rfl⟩
      · intro p3 zs H3 hp3 e3 hl3 hlen3 hr3
        walk_at "rd"
        intro l hl
        have e4 := Same.new (o := HO.tup zs) hl
        refine q l _ ((e2.trans e3).trans e4) ⟨zs, upd_same, by rw [hlen3, htl], fun i v ev => ?_⟩
        obtain ⟨a, k1, k2⟩ := hr3 i v ev
        exact ⟨a, k1, e4 _ _ k2⟩
/-! ### repeats -/
def spRep (K : PySem.W.Frag) : Sp := fun vs H Q _ => ∃ (t : Addr) (n : Nat) (A : SQ.Sq), vs = [.ref t] ∧ SQ.RkAt K H t n A ∧ 1 ≤ n ∧ n ≤ 24 ∧ SQ.Wf n A ∧ ∀ p H', Same H H' → SQ.RkAt K H' p n (SQ.rep n A) → Q (.ref p) H'
theorem ok_repeat_of (D : Ds K mg Z) (B : Bt mg) (C0 : Cs mg) : FnOk P w K mg base CX0 2 Z.a_repeat_of Z.d_repeat_of P_repeat_of (spRep K) := by
  have G_product_of := ok_product_of (P := P) (w := w) (base := base) D B C0
  obtain ⟨⟨t_SIGNS, c_SIGNS⟩, ⟨t_LITTLE, c_LITTLE⟩, ⟨t_GROWING, c_GROWING⟩, ⟨t_MAX_SIZE, c_MAX_SIZE⟩⟩ := C0
  refine D.repeat_of.F.ok sc_repeat_of (fun vs H Q E h => ?_) (fun cdv A outer s H vs Q E hr h => ?_)
  · obtain ⟨t, n, A, rfl, _⟩ := h
    rfl
  · obtain ⟨t, n, A, rfl, hk, h1, h24, wa, q⟩ := h
    refine ⟨_, (pss_cons (ps_set (i := 1) sc_repeat_of.nd rfl (Or.inr rfl) (pe_lc (own := [("at", 2), ("row", 3)]) rfl sc_repeat_of.nd (pi_enumNK (K := K) rfl (by rfl) B.enumerate (pa_cons (pv 0) pa_nil)) (blkOk_by (N := N_repeat_of) (sc := defScope s_repeat_of) (by decide +kernel)) (fun _ _ _ _ _ => (pg_tupK (K := K) (n := 2) rfl rfl (pgs_cons (pg_name (i := 2) sc_repeat_of.nd rfl (Or.inl rfl)) (pgs_cons (pg_name (i := 3) sc_repeat_of.nd rfl (Or.inl rfl)) pgs_nil)))) (fun _ _ _ _ _ => pts_nil) (fun _ _ _ _ _ => (pe_ifExp (pt_cmpR op_eq (pe_ix ix_TM (pv 3) (pv 2) (fun _ _ => rfl)) (pe_glob (v := .int _) (by rfl) c_LITTLE ⟨_, rfl⟩) (nomark _)) (pe_glob (v := .int _) (by rfl) c_GROWING ⟨_, rfl⟩) (pe_ix ix_TM (pv 3) (pv 2) (fun _ _ => rfl))))))
    (pss_cons (ps_set (i := 4) sc_repeat_of.nd rfl (Or.inl rfl) (pe_callTy call_tupM (by rfl) B.tuple (by decide +kernel) (pa_cons (pe_lc (own := [("row", 3)]) (g := gName 3) rfl sc_repeat_of.nd (pi_tupK (K := K) rfl (pv 0)) (blkOk_by (N := N_repeat_of) (sc := defScope s_repeat_of) (by decide +kernel)) (fun _ _ _ _ _ => (pg_name (i := 3) sc_repeat_of.nd rfl (Or.inl rfl))) (fun _ _ _ _ _ => pts_nil) (fun _ _ _ _ _ => (pe_callTy call_tupM (by rfl) B.tuple (by decide +kernel) (pa_cons (pe_lc (own := [("rank", 5), ("loop", 6)]) rfl sc_repeat_of.nd (pi_zipNK (K := K) rfl (by rfl) B.zip (pa_cons (pv 3) (pa_cons (pv 1) pa_nil))) (blkOk_by (N := N_repeat_of) (by kernel_rfl)) (fun _ _ _ _ _ => (pg_tupK (K := K) (n := 2) rfl rfl (pgs_cons (pg_name (i := 5) sc_repeat_of.nd rfl (Or.inl rfl)) (pgs_cons (pg_name (i := 6) sc_repeat_of.nd rfl (Or.inl rfl)) pgs_nil)))) (fun _ _ _ _ _ => pts_nil) (fun _ _ _ _ _ => (pe_callB (call_max2 rfl) (by rfl) B.max (by decide +kernel) (pa_cons (pv 5) (pa_cons (pv 6) pa_nil))))) pa_nil)))) pa_nil)))
    (pss_one (ps_ret (pe_df D.product_of G_product_of (hr.mono (by decide)) (by rfl) (pa_cons (pv 4) (pa_cons (pv 0) pa_nil))))))), ?_⟩
    walk_at "rd"
    obtain ⟨ts, ht, htl, hts⟩ := id hk
    refine ⟨.tup t, rfl, ts, SqT.of ht, ?_⟩
    refine lc_val LZ.walk_enumN (fun i => .int ((SQ.g (A i i) : Nat) : Int)) (fun H2 e2 => SqT.of (e2 _ _ ht)) (by omega) ?_ ?_
    · rintro i v H1 _ hi e1 ⟨T, x, y, rfl, hT, rfl, ex, ey⟩ R hR
      cases ex
      obtain ⟨a, rfl, ha⟩ := hts i y ey
      have e2 := Same.new (o := HO.tup [.int (i : Nat), .ref a]) hT
      have ha2 := (e1.trans e2) _ _ ha
      have hT2 : upd H1 T (HO.tup [.int (i : Nat), .ref a]) T = some (.tup [.int (i : Nat), .ref a]) := upd_same
      replace hR := fun H3 (e3 : Same (upd H1 T (HO.tup [.int (i : Nat), .ref a])) H3) => hR H3 (e2.trans e3)
      generalize upd H1 T (HO.tup [.int (i : Nat), .ref a]) = H2 at ha2 hT2 hR ⊢
      have at_ : atI (SQ.rkL n A i) ((i : Nat) : Int) = some (.int ((A i i : Nat) : Int)) := L2.at_of rfl (SQ.mapr_at (by omega))
      walk_at "rd"
      refine ⟨_, SqT.of hT2, rfl, ?_⟩
      walk_at "rd"
      rw [show decide (((A i i : Nat) : Int) = 1) = decide (A i i = 1) from decide_eq_decide.mpr (by omega)]
      refine ⟨rfl, ?_⟩
      by_cases h : A i i = 1
      · rw [if_pos (decide_eq_true h)]
        have z := hR _ (Same.refl _)
        rw [h] at z
        exact z
      · rw [if_neg (by simp [h])]
        have z := hR _ (Same.refl _)
        rw [show SQ.g (A i i) = A i i from if_neg h] at z
        exact z
    · intro p2 H2 hp2 e2 hl2
      walk_at "go"
      have ht2 := e2 _ _ ht
      refine ⟨⟨_, SqT.of ht2⟩, ?_⟩
      refine lc_rel walk_tup (fun i y H2 => ∃ a, y = .ref a ∧ H2 a = some (.tup (SQ.rkL n (fun i j => max (A i j) (SQ.g (A j j))) i))) (fun i y H1 H2 nl h => let ⟨a, h1, h2⟩ := h; ⟨a, h1, nl _ _ (fun _ z => nomatch z) h2⟩) (fun H3 e3 => SqT.of (e3 _ _ ht2)) (by omega) ?_ ?_
      · rintro i v H3 _ hi e3 ⟨rfl, ev⟩ R hR
        obtain ⟨a, rfl, ha⟩ := hts i v ev
        have ha3 := (e2.trans e3) _ _ ha
        have hl3 := e3 _ _ hl2
        walk_at "rd"
        refine ⟨[.tup a, .lst p2], .cons (s := .tup a) rfl (SqT.of ha3) (.cons (s := .lst p2) rfl (SqL.of hl3) .nil), by simp, by simp, ?_⟩
        refine lc_val (LZ.walk_zip2 (s1 := .tup a) (s2 := .lst p2) (by rw [SQ.len_rk]; simp; omega)) (fun j => .int ((max (A i j) (SQ.g (A j j)) : Nat) : Int)) (fun H5 e5 => ⟨SqT.of (e5 _ _ ha3), SqL.of (e5 _ _ hl3)⟩) (by rw [SQ.len_rk]; omega) ?_ ?_
        · rintro k v H5 _ hk e5 ⟨T, x, y, rfl, hT, rfl, ex, ey⟩ R3 hR3
          obtain ⟨hk', rfl⟩ := SQ.mapr_get ex
          obtain ⟨_, rfl⟩ := SQ.mapr_get ey
          walk_at "rd"
          refine ⟨_, SqT.of upd_same, rfl, ?_⟩
          walk_at "rd"
          rw [SQ.max_int]
          exact hR3 _ (Same.new hT)
        · intro p3 H4 hp3 e4 hl4
          walk_at "rd"
          intro l hl
          rw [SQ.len_rk] at hl4 ⊢
          exact hR _ _ (e4.trans (Same.new hl)) ⟨l, rfl, by rw [upd_same]; rfl⟩
      · intro p3 zs H3 hp3 e3 hl3 hlen3 hr3
        walk_at "rd"
        intro l hl
        have e4 := Same.new (o := HO.tup zs) hl
        have hz : SQ.RkAt K (upd H3 l (.tup zs)) l n (fun i j => max (A i j) (SQ.g (A j j))) := ⟨zs, upd_same, by rw [hlen3, htl], fun i v ev => by
          obtain ⟨a, k1, k2⟩ := hr3 i v ev
          exact ⟨a, k1, e4 _ _ k2⟩⟩
        walk_at "go"
        exact ⟨l, t, n, _, A, rfl, hz, hk.same ((e2.trans e3).trans e4), h1, h24, fun i j hi hj => Nat.max_le.mpr ⟨wa i j hi hj, SQ.g_top (wa j j hj hj)⟩, wa, fun p H' e5 hr => q p H' (((e2.trans e3).trans e4).trans e5) hr⟩
/-! ### the class -/
/-- a square at a -/
def SqO (K : PySem.W.Frag) (C : Addr) (H : Hp) (a : Addr) (n : Nat) (A : SQ.Sq) : Prop := ∃ dx r, SlX.Slt H a C dx [some (.ref r)] ∧ H r = some (.tup (SQ.rowsL n A)) ∧ 1 ≤ n ∧ n ≤ 24 ∧ SQ.Wf n A
theorem SqO.same {K : PySem.W.Frag} {C : Addr} {H H' : Hp} {a : Addr} {n : Nat} {A : SQ.Sq} (h : SqO K C H a n A) (e : Same H H') : SqO K C H' a n A := by
  obtain ⟨dx, r, h1, h2, h3⟩ := h
  exact ⟨dx, r, Same.slt e h1, e _ _ h2, h3⟩
def spInit (K : PySem.W.Frag) (C : Addr) : Sp := fun vs H Q _ => ∃ (x dx r : Addr) (n : Nat) (A : SQ.Sq), vs = [.ref x, .ref r] ∧ H x = some (.ins C dx []) ∧ dx ≠ x ∧ H r = some (.tup (SQ.rowsL n A)) ∧ 1 ≤ n ∧ n ≤ 24 ∧ SQ.Wf n A ∧
  ∀ H', Same H H' → Q .non (SlX.slH H' x C dx [some (.ref r)])
theorem ok_Square___init__ (D : Ds K mg Z) (B : Bt mg) (C0 : Cs mg) : FnOk P w K mg base CX0 2 Z.a_Square___init__ Z.d_Square___init__ P_Square___init__ (spInit K Z.c_Square) := by
  have G_are_rows := ok_are_rows (P := P) (w := w) (base := base) D B C0
  obtain ⟨⟨t_SIGNS, c_SIGNS⟩, ⟨t_LITTLE, c_LITTLE⟩, ⟨t_GROWING, c_GROWING⟩, ⟨t_MAX_SIZE, c_MAX_SIZE⟩⟩ := C0
  refine D.Square___init__.F.ok sc_Square___init__ (fun vs H Q E h => ?_) (fun cdv A outer s H vs Q E hr h => ?_)
  · obtain ⟨x, dx, r, n, A, rfl, _⟩ := h
    rfl
  · obtain ⟨x, dx, r, n, A, rfl, hx, hne, hrw, h1, h24, wf, q⟩ := h
    refine ⟨_, (pss_cons (ps_if (pt_not (pt_val (pe_df D.are_rows G_are_rows (hr.mono (by decide)) (by rfl) (pa_cons (pv 1) pa_nil)))) (pss_one ps_dead) pss_nil)
    (pss_one (SlX.ps_sl (pv 0) (pv 1)))), ?_⟩
    walk_at "rd"
    refine ⟨.ref r, n, A, rfl, ⟨r, rfl, hrw⟩, h1, h24, wf, fun H1 e1 => ?_⟩
    walk_at "rd"
    walk_at "go"
    walk_at "go"
    refine ⟨.ref r, rfl, .ref x, rfl, x, Z.c_Square, dx, Z.q_Square_own_rows, [], 0, rfl, .inl ⟨e1 _ _ hx, rfl⟩, D.Square.sc, D.Square_own_rows, ?_⟩
    exact q H1 e1
end
section
variable {P : Program} {w : World} {K : PySem.W.Frag} {mg : Str → Option Value} {base : Heap} {Z : Ad}
/-- Square(rows) -/
theorem mk_sq {C : Addr} {H1 : Hp} {r : Addr} {n : Nat} {A : SQ.Sq} {Q : Addr → Hp → Prop} {E : XK} (hr : H1 r = some (.tup (SQ.rowsL n A))) (h1 : 1 ≤ n) (h24 : n ≤ 24) (wf : SQ.Wf n A) (q : ∀ x H2, Same H1 H2 → SqO K C H2 x n A → Q x H2) :
    ∀ x dx, H1 x = none → H1 dx = none → dx ≠ x → spInit K C [.ref x, .ref r] (upd (upd H1 dx (.own x)) x (.ins C dx [])) (fun v H2 => v = .non ∧ Q x H2) E := by
  intro x dx hx hd hne
  have low : ∀ b o, H1 b = some o → upd (upd H1 dx (.own x)) x (.ins C dx []) b = some o := fun b o e => by
    rw [upd_ne (ne_of_none e hx), upd_ne (ne_of_none e hd)]
    exact e
  refine ⟨x, dx, r, n, A, rfl, upd_same, hne, low _ _ hr, h1, h24, wf, fun H' e => ⟨rfl, q x _ (fun b o eb => ?_) ⟨dx, r, SlX.slH_slt hne, ?_, h1, h24, wf⟩⟩⟩
  · rw [SlX.slH_ne (ne_of_none eb hx) (ne_of_none eb hd)]
    exact e _ _ (low _ _ eb)
  · rw [SlX.slH_ne (ne_of_none hr hx) (ne_of_none hr hd)]
    exact e _ _ (low _ _ hr)
def spRows (K : PySem.W.Frag) (C : Addr) : Sp := fun vs H Q _ => ∃ (a dx r : Addr) , vs = [.ref a] ∧ SlX.Slt H a C dx [some (.ref r)] ∧ Q (.ref r) H
theorem ok_Square_rows (D : Ds K mg Z) (B : Bt mg) (C0 : Cs mg) : FnOk P w K mg base CX0 1 Z.a_Square_rows Z.d_Square_rows P_Square_rows (spRows K Z.c_Square) := by
  obtain ⟨⟨t_SIGNS, c_SIGNS⟩, ⟨t_LITTLE, c_LITTLE⟩, ⟨t_GROWING, c_GROWING⟩, ⟨t_MAX_SIZE, c_MAX_SIZE⟩⟩ := C0
  refine D.Square_rows.F.ok sc_Square_rows (fun vs H Q E h => ?_) (fun cdv A outer s H vs Q E hr h => ?_)
  · obtain ⟨a, dx, r, rfl, _⟩ := h
    rfl
  · obtain ⟨a, dx, r, rfl, hs, q⟩ := h
    refine ⟨_, (pss_one (ps_ret (pe_slot D.Square D.Square_own_rows (pv 0)))), ?_⟩
    exact ⟨.ref a, rfl, a, dx, _, .ref r, rfl, hs, rfl, q⟩
/-- whether a square is stable -/
def Stb (n : Nat) (A : SQ.Sq) : Prop := ∀ i j, i < n → j < n → SQ.mul n A A i j = A i j
def spStable (K : PySem.W.Frag) (C : Addr) : Sp := fun vs H Q _ => ∃ (a : Addr) (n : Nat) (A : SQ.Sq), vs = [.ref a] ∧ SqO K C H a n A ∧ ∀ (b : Bool) H', Same H H' → (b = true ↔ Stb n A) → Q (.bl b) H'
theorem ok_Square_is_stable (D : Ds K mg Z) (B : Bt mg) (C0 : Cs mg) : FnOk P w K mg base CX0 2 Z.a_Square_is_stable Z.d_Square_is_stable P_Square_is_stable (spStable K Z.c_Square) := by
  have G_ranks_of := ok_ranks_of (P := P) (w := w) (base := base) D B C0
  have G_product_of := ok_product_of (P := P) (w := w) (base := base) D B C0
  obtain ⟨⟨t_SIGNS, c_SIGNS⟩, ⟨t_LITTLE, c_LITTLE⟩, ⟨t_GROWING, c_GROWING⟩, ⟨t_MAX_SIZE, c_MAX_SIZE⟩⟩ := C0
  refine D.Square_is_stable.F.ok sc_Square_is_stable (fun vs H Q E h => ?_) (fun cdv A outer s H vs Q E hr h => ?_)
  · obtain ⟨a, n, A, rfl, _⟩ := h
    rfl
  · obtain ⟨a, n, A, rfl, ⟨dx, r, hs, hrw, h1, h24, wf⟩, q⟩ := h
    refine ⟨_, (pss_cons (ps_set (i := 1) sc_Square_is_stable.nd rfl (Or.inl rfl) (pe_df D.ranks_of G_ranks_of (hr.mono (by decide)) (by rfl) (pa_cons (pe_slot D.Square D.Square_own_rows (pv 0)) pa_nil)))
    (pss_one (ps_ret (pe_cmpR (op_eqK (K := K) rfl hr.units) (pe_df D.product_of G_product_of (hr.mono (by decide)) (by rfl) (pa_cons (pv 1) (pa_cons (pv 1) pa_nil))) (pv 1) (nomark _))))), ?_⟩
    walk_at "rd"
    refine ⟨dx, _, hs, _, rfl, ?_⟩
    walk_at "rd"
    refine ⟨.ref r, n, A, rfl, ⟨r, rfl, hrw⟩, h24, wf, fun t H1 e1 ht => ?_⟩
    walk_at "go"
    refine ⟨t, t, n, A, A, rfl, ht, ht, h1, h24, wf, wf, fun u H2 e2 hu => ?_⟩
    walk_at "rd"
    exact SQ.eq_rk hu (ht.same e2) fun b hb => q b H2 (e1.trans e2) hb
def spRepeated (K : PySem.W.Frag) (C : Addr) : Sp := fun vs H Q _ => ∃ (a : Addr) (n : Nat) (A : SQ.Sq), vs = [.ref a] ∧ SqO K C H a n A ∧ Stb n A ∧ ∀ x H', Same H H' → SqO K C H' x n (SQ.rep n A) → Q (.ref x) H'
theorem ok_Square_repeated (D : Ds K mg Z) (B : Bt mg) (C0 : Cs mg) : FnOk P w K mg base CX0 4 Z.a_Square_repeated Z.d_Square_repeated P_Square_repeated (spRepeated K Z.c_Square) := by
  have G_Square_is_stable := ok_Square_is_stable (P := P) (w := w) (base := base) D B C0
  have G_Square___init__ := ok_Square___init__ (P := P) (w := w) (base := base) D B C0
  have G_ranks_of := ok_ranks_of (P := P) (w := w) (base := base) D B C0
  have G_rows_of := ok_rows_of (P := P) (w := w) (base := base) D B C0
  have G_repeat_of := ok_repeat_of (P := P) (w := w) (base := base) D B C0
  obtain ⟨⟨t_SIGNS, c_SIGNS⟩, ⟨t_LITTLE, c_LITTLE⟩, ⟨t_GROWING, c_GROWING⟩, ⟨t_MAX_SIZE, c_MAX_SIZE⟩⟩ := C0
  refine D.Square_repeated.F.ok sc_Square_repeated (fun vs H Q E h => ?_) (fun cdv A outer s H vs Q E hr h => ?_)
  · obtain ⟨a, n, A, rfl, _⟩ := h
    rfl
  · obtain ⟨a, n, A, rfl, ho, hst, q⟩ := h
    refine ⟨_, (pss_cons (ps_if (pt_not (pt_val (pe_pr D.Square D.Square_is_stable G_Square_is_stable (hr.mono (by decide)) (pv 0)))) (pss_one ps_dead) pss_nil)
    (pss_one (ps_ret (pe_mkS D.Square D.Square___init__ G_Square___init__ (hr.mono (by decide)) (by rfl) (pa_cons (pe_df D.rows_of G_rows_of (hr.mono (by decide)) (by rfl) (pa_cons (pe_df D.repeat_of G_repeat_of (hr.mono (by decide)) (by rfl) (pa_cons (pe_df D.ranks_of G_ranks_of (hr.mono (by decide)) (by rfl) (pa_cons (pe_slot D.Square D.Square_own_rows (pv 0)) pa_nil)) pa_nil)) pa_nil)) pa_nil))))), ?_⟩
    walk_at "rd"
    obtain ⟨dx, r, hs, hrw, h1, h24, wf⟩ := id ho
    refine ⟨dx, _, hs, a, n, A, rfl, ho, fun b H1 e1 hb => ?_⟩
    rw [hb.mpr hst]
    walk_at "rd"
    walk_at "go"
    walk_at "go"
    refine ⟨dx, _, Same.slt e1 hs, _, rfl, ?_⟩
    refine ⟨.ref r, n, A, rfl, ⟨r, rfl, e1 _ _ hrw⟩, h24, wf, fun t H2 e2 ht => ?_⟩
    refine ⟨t, n, A, rfl, ht, h1, h24, wf, fun u H3 e3 hu => ?_⟩
    refine ⟨u, n, _, rfl, hu, h24, SQ.rep_wf A, fun v H4 e4 hv => ?_⟩
    exact mk_sq hv h1 h24 (SQ.rep_wf A) fun x H5 e5 hx => q x H5 (((e1.trans e2).trans (e3.trans e4)).trans e5) hx
def spMul (K : PySem.W.Frag) (C : Addr) : Sp := fun vs H Q _ => ∃ (a b : Addr) (n : Nat) (A B : SQ.Sq), vs = [.ref a, .ref b] ∧ SqO K C H a n A ∧ SqO K C H b n B ∧ ∀ x H', Same H H' → SqO K C H' x n (SQ.mul n A B) → Q (.ref x) H'
theorem ok_Square___mul__ (D : Ds K mg Z) (B : Bt mg) (C0 : Cs mg) : FnOk P w K mg base CX0 4 Z.a_Square___mul__ Z.d_Square___mul__ P_Square___mul__ (spMul K Z.c_Square) := by
  have G_Square___init__ := ok_Square___init__ (P := P) (w := w) (base := base) D B C0
  have G_ranks_of := ok_ranks_of (P := P) (w := w) (base := base) D B C0
  have G_rows_of := ok_rows_of (P := P) (w := w) (base := base) D B C0
  have G_product_of := ok_product_of (P := P) (w := w) (base := base) D B C0
  obtain ⟨⟨t_SIGNS, c_SIGNS⟩, ⟨t_LITTLE, c_LITTLE⟩, ⟨t_GROWING, c_GROWING⟩, ⟨t_MAX_SIZE, c_MAX_SIZE⟩⟩ := C0
  refine D.Square___mul__.F.ok sc_Square___mul__ (fun vs H Q E h => ?_) (fun cdv A outer s H vs Q E hr h => ?_)
  · obtain ⟨a, b, n, A, B', rfl, _⟩ := h
    rfl
  · obtain ⟨a, b, n, A, B', rfl, ho, ho2, q⟩ := h
    refine ⟨_, (pss_cons (ps_if (pt_not (pt_val (pe_callB (call_isS D.Square) (by rfl) B.isinstance (by decide +kernel) (pa_cons (pv 1) (pa_cons (pe_glob (v := .ref Z.c_Square) (by rfl) D.Square.g rfl) pa_nil))))) (pss_one ps_dead) pss_nil)
    (pss_cons (ps_if (pt_cmpR op_ne (pe_callB call_lenT (by rfl) B.len (by decide +kernel) (pa_cons (pe_slot D.Square D.Square_own_rows (pv 0)) pa_nil)) (pe_callB call_lenT (by rfl) B.len (by decide +kernel) (pa_cons (pe_slot D.Square D.Square_own_rows (pv 1)) pa_nil)) (nomark _)) (pss_one ps_dead) pss_nil)
    (pss_one (ps_ret (pe_mkS D.Square D.Square___init__ G_Square___init__ (hr.mono (by decide)) (by rfl) (pa_cons (pe_df D.rows_of G_rows_of (hr.mono (by decide)) (by rfl) (pa_cons (pe_df D.product_of G_product_of (hr.mono (by decide)) (by rfl) (pa_cons (pe_df D.ranks_of G_ranks_of (hr.mono (by decide)) (by rfl) (pa_cons (pe_slot D.Square D.Square_own_rows (pv 0)) pa_nil)) (pa_cons (pe_df D.ranks_of G_ranks_of (hr.mono (by decide)) (by rfl) (pa_cons (pe_slot D.Square D.Square_own_rows (pv 1)) pa_nil)) pa_nil))) pa_nil)) pa_nil)))))), ?_⟩
    walk_at "rd"
    obtain ⟨dx, r, hs, hrw, h1, h24, wf⟩ := id ho
    obtain ⟨dy, r2, hs2, hrw2, _, _, wf2⟩ := id ho2
    refine ⟨dy, _, hs2, ?_⟩
    walk_at "go"
    walk_at "go"
    refine ⟨dx, _, hs, _, rfl, ?_⟩
    walk_at "rd"
    refine ⟨dy, _, hs2, _, rfl, ?_⟩
    walk_at "rd"
    rw [SQ.len_rows, SQ.len_rows, decide_eq_true rfl]
    refine ⟨rfl, ?_⟩
    walk_at "rd"
    walk_at "go"
    walk_at "go"
    refine ⟨dx, _, hs, _, rfl, ?_⟩
    refine ⟨.ref r, n, A, rfl, ⟨r, rfl, hrw⟩, h24, wf, fun t H2 e2 ht => ?_⟩
    refine ⟨dy, _, Same.slt e2 hs2, _, rfl, ?_⟩
    refine ⟨.ref r2, n, B', rfl, ⟨r2, rfl, e2 _ _ hrw2⟩, h24, wf2, fun t2 H3 e3 ht2 => ?_⟩
    refine ⟨t, t2, n, A, B', rfl, ht.same e3, ht2, h1, h24, wf, wf2, fun u H4 e4 hu => ?_⟩
    refine ⟨u, n, _, rfl, hu, h24, SQ.mul_wf A B', fun v H5 e5 hv => ?_⟩
    exact mk_sq hv h1 h24 (SQ.mul_wf A B') fun x H6 e6 hx => q x H6 (((e2.trans e3).trans (e4.trans e5)).trans e6) hx
def spEq (K : PySem.W.Frag) (C : Addr) : Sp := fun vs H Q _ => ∃ (a b : Addr) (n : Nat) (A B : SQ.Sq), vs = [.ref a, .ref b] ∧ SqO K C H a n A ∧ SqO K C H b n B ∧ ∀ c : Bool, (c = true ↔ ∀ i j, i < n → j < n → A i j = B i j) → Q (.bl c) H
theorem ok_Square___eq__ (D : Ds K mg Z) (B : Bt mg) (C0 : Cs mg) : FnOk P w K mg base CX0 1 Z.a_Square___eq__ Z.d_Square___eq__ P_Square___eq__ (spEq K Z.c_Square) := by
  obtain ⟨⟨t_SIGNS, c_SIGNS⟩, ⟨t_LITTLE, c_LITTLE⟩, ⟨t_GROWING, c_GROWING⟩, ⟨t_MAX_SIZE, c_MAX_SIZE⟩⟩ := C0
  refine D.Square___eq__.F.ok sc_Square___eq__ (fun vs H Q E h => ?_) (fun cdv A outer s H vs Q E hr h => ?_)
  · obtain ⟨a, b, n, A, B', rfl, _⟩ := h
    rfl
  · obtain ⟨a, b, n, A, B', rfl, ho, ho2, q⟩ := h
    refine ⟨_, (pss_one (ps_ret (pe_and (pe_callB (call_isS D.Square) (by rfl) B.isinstance (by decide +kernel) (pa_cons (pv 1) (pa_cons (pe_glob (v := .ref Z.c_Square) (by rfl) D.Square.g rfl) pa_nil))) (pe_one (pe_cmpR (op_eqK (K := K) rfl hr.units) (pe_slot D.Square D.Square_own_rows (pv 0)) (pe_slot D.Square D.Square_own_rows (pv 1)) (nomark _)))))), ?_⟩
    walk_at "rd"
    obtain ⟨dx, r, hs, hrw, h1, h24, wf⟩ := id ho
    obtain ⟨dy, r2, hs2, hrw2, _, _, wf2⟩ := id ho2
    refine ⟨dy, _, hs2, ?_⟩
    walk_at "rd"
    refine ⟨dx, _, hs, _, rfl, ?_⟩
    refine ⟨dy, _, hs2, _, rfl, ?_⟩
    exact SQ.eq_rowsT (SqT.of hrw) (SqT.of hrw2) wf wf2 q
def spStr (K : PySem.W.Frag) (C : Addr) : Sp := fun vs H Q _ => ∃ (a : Addr) (n : Nat) (A : SQ.Sq), vs = [.ref a] ∧ SqO K C H a n A ∧ Q (.str (Txt.join "/" ((List.range n).map fun i => SQ.rowStr n A i))) H
theorem ok_Square___str__ (D : Ds K mg Z) (B : Bt mg) (C0 : Cs mg) : FnOk P w K mg base CX0 1 Z.a_Square___str__ Z.d_Square___str__ P_Square___str__ (spStr K Z.c_Square) := by
  obtain ⟨⟨t_SIGNS, c_SIGNS⟩, ⟨t_LITTLE, c_LITTLE⟩, ⟨t_GROWING, c_GROWING⟩, ⟨t_MAX_SIZE, c_MAX_SIZE⟩⟩ := C0
  refine D.Square___str__.F.ok sc_Square___str__ (fun vs H Q E h => ?_) (fun cdv A outer s H vs Q E hr h => ?_)
  · obtain ⟨a, n, A, rfl, _⟩ := h
    rfl
  · obtain ⟨a, n, A, rfl, ⟨dx, r, hs, hrw, h1, h24, wf⟩, q⟩ := h
    refine ⟨_, (pss_one (ps_ret (pe_sm PySem.F.plainAttrs_str PySem.F.slot_str_join PySem.F.type_str_join (mt_joinK (K := K) rfl) pe_str (pa_cons (pe_slot D.Square D.Square_own_rows (pv 0)) pa_nil)))), ?_⟩
    walk_at "rd"
    refine ⟨dx, _, hs, _, rfl, ?_⟩
    walk_at "rd"
    refine ⟨(List.range n).map fun i => SQ.rowStr n A i, .inr (SqT.of (by rw [hrw, SQ.rowsL_map])), ?_, q⟩
    have el : (((List.range n).map fun i => SQ.rowStr n A i).map (·.length)).sum = n * n := by
      have z := SQ.sum_const (l := List.range n) (f := fun i => (SQ.rowStr n A i).length) (c := n) (fun i => SQ.len_row n A i)
      rw [List.length_range] at z
      rw [List.map_map]
      exact z
    rw [el, List.length_map, List.length_range, show ("/" : Str).length = 1 from rfl]
    have := Nat.mul_le_mul h24 h24
    omega
/-! ### the operators, as they are read -/
theorem rd_mul {C : Addr} {H : Hp} {a b : Addr} {n : Nat} {A B : SQ.Sq} {Q : VK} {E : XK} (ha : SqO K C H a n A) (hb : SqO K C H b n B) (q : ∀ x H', Same H H' → SqO K C H' x n (SQ.mul n A B) → Q (.ref x) H') : rOwnB C (spMul K C) E (.ref a) (.ref b) H Q := by
  obtain ⟨dx, r, hs, _⟩ := id ha
  obtain ⟨dy, r2, hs2, _⟩ := id hb
  exact ⟨a, dx, _, b, dy, _, rfl, rfl, hs, hs2, a, b, n, A, B, rfl, ha, hb, q⟩
theorem rd_eq {C : Addr} {H : Hp} {a b : Addr} {n : Nat} {A B : SQ.Sq} {Q : VK} {E : XK} (nf : PySem.W.notFirst K C (.ref C) = true) (ha : SqO K C H a n A) (hb : SqO K C H b n B) (q : ∀ c : Bool, (c = true ↔ ∀ i j, i < n → j < n → A i j = B i j) → Q (.bl c) H) :
    SlX.rOwn K C (spEq K C) E (.ref a) (.ref b) H Q := by
  obtain ⟨dx, r, hs, _⟩ := id ha
  obtain ⟨dy, r2, hs2, _⟩ := id hb
  exact ⟨a, dx, _, b, C, dy, _, rfl, rfl, hs, hs2, nf, a, b, n, A, B, rfl, ha, hb, q⟩
theorem rd_ne {C : Addr} {H : Hp} {a b : Addr} {n : Nat} {A B : SQ.Sq} {Q : VK} {E : XK} (nf : PySem.W.notFirst K C (.ref C) = true) (ha : SqO K C H a n A) (hb : SqO K C H b n B) (q : ∀ c : Bool, (c = false ↔ ∀ i j, i < n → j < n → A i j = B i j) → Q (.bl c) H) :
    rOwnNe K C (spEq K C) E (.ref a) (.ref b) H Q := by
  obtain ⟨dx, r, hs, _⟩ := id ha
  obtain ⟨dy, r2, hs2, _⟩ := id hb
  exact ⟨a, dx, _, b, C, dy, _, rfl, rfl, hs, hs2, nf, a, b, n, A, B, rfl, ha, hb, fun c hc => ⟨c, rfl, q (!c) (by rw [← hc, Bool.not_eq_false'])⟩⟩
end
section
variable {P : Program} {w : World} {K : PySem.W.Frag} {mg : Str → Option Value} {base : Heap} {Z : Ad}
/-! ### the law's own signs and squares -/
def spLes : Sp := fun vs H Q _ => ∃ r s : Nat, vs = [.str (SQ.sgS r), .str (SQ.sgS s)] ∧ r ≤ 3 ∧ s ≤ 3 ∧ Q (.str (SQ.sgS (min r s))) H
theorem ok_lesser (D : Ds K mg Z) (B : Bt mg) (C0 : Cs mg) : FnOk P w K mg base CX0 1 Z.a_lesser Z.d_lesser P_lesser spLes := by
  obtain ⟨⟨t_SIGNS, c_SIGNS⟩, ⟨t_LITTLE, c_LITTLE⟩, ⟨t_GROWING, c_GROWING⟩, ⟨t_MAX_SIZE, c_MAX_SIZE⟩⟩ := C0
  refine D.lesser.F.ok sc_lesser (fun vs H Q E h => ?_) (fun cdv A outer s H vs Q E hr h => ?_)
  · obtain ⟨r, s, rfl, _⟩ := h
    rfl
  · obtain ⟨r, s, rfl, h3, h4, q⟩ := h
    refine ⟨_, (pss_one (ps_ret (pe_ifExp (pt_cmpR op_gt (pe_sm PySem.F.plainAttrs_str PySem.F.slot_str_index PySem.F.type_str_index mt_ixOf pe_str (pa_cons (pv 0) pa_nil)) (pe_sm PySem.F.plainAttrs_str PySem.F.slot_str_index PySem.F.type_str_index mt_ixOf pe_str (pa_cons (pv 1) pa_nil)) (nomark _)) (pv 0) (pv 1)))), ?_⟩
    walk_at "rd"
    refine ⟨_, SQ.ix_law h3, _, SQ.ix_law h4, ?_⟩
    by_cases h : r < s
    · rw [if_pos (decide_eq_true (by omega))]
      rw [Nat.min_eq_left (by omega)] at q
      exact q
    · rw [if_neg (by simp; omega)]
      rw [Nat.min_eq_right (by omega)] at q
      exact q
def spGre : Sp := fun vs H Q _ => ∃ r s : Nat, vs = [.str (SQ.sgS r), .str (SQ.sgS s)] ∧ r ≤ 3 ∧ s ≤ 3 ∧ Q (.str (SQ.sgS (max r s))) H
theorem ok_greater (D : Ds K mg Z) (B : Bt mg) (C0 : Cs mg) : FnOk P w K mg base CX0 2 Z.a_greater Z.d_greater P_greater spGre := by
  have G_lesser := ok_lesser (P := P) (w := w) (base := base) D B C0
  obtain ⟨⟨t_SIGNS, c_SIGNS⟩, ⟨t_LITTLE, c_LITTLE⟩, ⟨t_GROWING, c_GROWING⟩, ⟨t_MAX_SIZE, c_MAX_SIZE⟩⟩ := C0
  refine D.greater.F.ok sc_greater (fun vs H Q E h => ?_) (fun cdv A outer s H vs Q E hr h => ?_)
  · obtain ⟨r, s, rfl, _⟩ := h
    rfl
  · obtain ⟨r, s, rfl, h3, h4, q⟩ := h
    refine ⟨_, (pss_one (ps_ret (pe_ifExp (pt_cmpR op_eq (pe_df D.lesser G_lesser (hr.mono (by decide)) (by rfl) (pa_cons (pv 0) (pa_cons (pv 1) pa_nil))) (pv 0) (nomark _)) (pv 1) (pv 0)))), ?_⟩
    walk_at "rd"
    refine ⟨r, s, rfl, h3, h4, ?_⟩
    walk_at "rd"
    rw [show decide (SQ.sgS (min r s) = SQ.sgS r) = decide (min r s = r) from decide_eq_decide.mpr (SQ.sgS_inj (by omega) h3)]
    by_cases h : r ≤ s
    · rw [if_pos (decide_eq_true (by omega))]
      rw [Nat.max_eq_right h] at q
      exact q
    · rw [if_neg (by simp; omega)]
      rw [Nat.max_eq_left (by omega)] at q
      exact q
/-- the law's product of rows -/
def spLProd (K : PySem.W.Frag) : Sp := fun vs H Q _ => ∃ (v u : V) (n : Nat) (A B : SQ.Sq), vs = [v, u] ∧ Rows K H v n A ∧ Rows K H u n B ∧ n ≤ 24 ∧ SQ.Wf n A ∧ SQ.Wf n B ∧ ∀ p H', Same H H' → H' p = some (.tup (SQ.rowsL n (SQ.mul n A B))) → Q (.ref p) H'
theorem ok_product (D : Ds K mg Z) (B : Bt mg) (C0 : Cs mg) : FnOk P w K mg base CX0 3 Z.a_product Z.d_product P_product (spLProd K) := by
  have G_lesser := ok_lesser (P := P) (w := w) (base := base) D B C0
  have G_greater := ok_greater (P := P) (w := w) (base := base) D B C0
  obtain ⟨⟨t_SIGNS, c_SIGNS⟩, ⟨t_LITTLE, c_LITTLE⟩, ⟨t_GROWING, c_GROWING⟩, ⟨t_MAX_SIZE, c_MAX_SIZE⟩⟩ := C0
  refine D.product.F.ok sc_product (fun vs H Q E h => ?_) (fun cdv A outer s H vs Q E hr h => ?_)
  · obtain ⟨v, u, n, A, B', rfl, _⟩ := h
    rfl
  · obtain ⟨v, u, n, A, B', rfl, ⟨p, rfl, hp⟩, ⟨p2, rfl, hp2⟩, h24, wa, wb, q⟩ := h
    refine ⟨_, (pss_cons (ps_set (i := 2) sc_product.nd rfl (Or.inl rfl) (pe_lst pa_nil))
    (pss_cons (ps_for PassesOwn.never rfl (pi_tupK (K := K) rfl (pv 0)) (pg_name (i := 3) sc_product.nd rfl (Or.inl rfl))
      (pss_cons (ps_set (i := 4) sc_product.nd rfl (Or.inl rfl) (pe_lst pa_nil))
    (pss_cons (ps_for PassesOwn.never rfl (pi_range1 (by rfl) B.range (pa_cons (pe_callB call_lenT (by rfl) B.len (by decide +kernel) (pa_cons (pv 0) pa_nil)) pa_nil)) (pg_name (i := 5) sc_product.nd rfl (Or.inl rfl))
      (pss_cons (ps_set (i := 6) sc_product.nd rfl (Or.inl rfl) pe_str)
    (pss_cons (ps_for PassesOwn.never rfl (pi_range1 (by rfl) B.range (pa_cons (pe_callB call_lenT (by rfl) B.len (by decide +kernel) (pa_cons (pv 0) pa_nil)) pa_nil)) (pg_name (i := 7) sc_product.nd rfl (Or.inl rfl))
      (pss_one (ps_set (i := 6) sc_product.nd rfl (Or.inl rfl) (pe_df D.lesser G_lesser (hr.mono (by decide)) (by rfl) (pa_cons (pv 6) (pa_cons (pe_df D.greater G_greater (hr.mono (by decide)) (by rfl) (pa_cons (pe_ix ix_str (pv 3) (pv 7) (fun _ _ => rfl)) (pa_cons (pe_ix ix_str (pe_ix ix_TM (pv 1) (pv 7) (fun _ _ => rfl)) (pv 5) (fun _ _ => rfl)) pa_nil))) pa_nil))))))
    (pss_one (ps_expr (pe_lm PySem.F.plainAttrs_list PySem.F.slot_list_append PySem.F.type_list_append mt_append (pv 4) (pa_cons (pv 6) pa_nil)))))))
    (pss_one (ps_expr (pe_lm PySem.F.plainAttrs_list PySem.F.slot_list_append PySem.F.type_list_append mt_append (pv 2) (pa_cons (pe_sm PySem.F.plainAttrs_str PySem.F.slot_str_join PySem.F.type_str_join (mt_joinK (K := K) rfl) pe_str (pa_cons (pv 4) pa_nil)) pa_nil)))))))
    (pss_one (ps_ret (pe_callTy call_tupM (by rfl) B.tuple (by decide +kernel) (pa_cons (pv 2) pa_nil)))))), ?_⟩
    walk_at "rd"
    refine ⟨Nat.zero_le _, fun f hf => ?_⟩
    walk_at "go"
    have el : (SQ.rowsL n A).length = n := SQ.len_rows n A
    have e0 := Same.new (o := HO.lst []) hf
    refine ⟨⟨_, SqT.of (e0 _ _ hp)⟩, ?_⟩
    obtain ⟨Pv, hP⟩ := inv_of (fun (i : Nat) (σ : St) (H' : Hp) => ∃ (o3 o4 o5 o6 o7 : Option V), σ = [some (.ref p), some (.ref p2), some (.ref f), o3, o4, o5, o6, o7] ∧
      Same H H' ∧ H' f = some (.lst ((List.range i).map fun k => .str (SQ.rowStr n (SQ.mul n A B') k))))
    refine loop_tup (xs := SQ.rowsL n A) Pv ((hP _ _ _).mpr ⟨_, _, _, _, _, rfl, e0, upd_same⟩) (fun i σ H1 _ h1 => ?_) ?_ ?_
    · obtain ⟨_, _, _, _, _, _, sm, _⟩ := (hP _ _ _).mp h1
      exact SqT.of (sm _ _ hp)
    · intro i x σ H1 ex hpv
      obtain ⟨o3, o4, o5, o6, o7, rfl, sm, hl⟩ := (hP _ _ _).mp hpv
      obtain ⟨hi, rfl⟩ := SQ.mapr_get ex
      have hp1 := sm _ _ hp
      walk_at "rd"
      walk_at "go"
      refine ⟨Nat.zero_le _, fun g hg => ?_⟩
      have e1 := Same.new (o := HO.lst []) hg
      have hg1 : upd H1 g (HO.lst []) g = some (.lst []) := upd_same
      have hl1 := e1 _ _ hl
      have hp1' := e1 _ _ hp1
      generalize upd H1 g (HO.lst []) = H2 at e1 hg1 hl1 hp1' ⊢
      walk_at "go"
      refine ⟨by omega, by omega, ?_⟩
      rw [Int.toNat_natCast]
      have nfg : g ≠ f := (ne_of_none hl hg).symm
      obtain ⟨P2, hP2⟩ := inv_of (fun (j : Nat) (σ : St) (H' : Hp) => ∃ (o5 o6 o7 : Option V), σ = [some (.ref p), some (.ref p2), some (.ref f), some (.str (SQ.rowStr n A i)), some (.ref g), o5, o6, o7] ∧
        Same H1 H' ∧ H' g = some (.lst ((List.range j).map fun k => .str (SQ.sgS (SQ.mul n A B' i k)))))
      refine loop_range P2 ((hP2 _ _ _).mpr ⟨_, _, _, rfl, e1, hg1⟩) ?_ ?_
      · intro j σ H3 hj hpv3
        obtain ⟨o5, o6, o7, rfl, sm3, hg3⟩ := (hP2 _ _ _).mp hpv3
        have hp3 := (sm.trans sm3) _ _ hp
        have hp23 := (sm.trans sm3) _ _ hp2
        walk_at "rd"
        walk_at "go"
        walk_at "go"
        refine ⟨by omega, by omega, ?_⟩
        rw [Int.toNat_natCast]
        obtain ⟨P3, hP3⟩ := inv_of (fun (k : Nat) (σ : St) (H' : Hp) => ∃ (o7 : Option V), σ = [some (.ref p), some (.ref p2), some (.ref f), some (.str (SQ.rowStr n A i)), some (.ref g), some (.int ((j : Nat) : Int)), some (.str (SQ.sgS (SQ.mn k fun k => max (A i k) (B' k j)))), o7] ∧ H' = H3)
        refine loop_range P3 ((hP3 _ _ _).mpr ⟨_, rfl, rfl⟩) ?_ ?_
        · intro k σ H4 hk hpv4
          obtain ⟨o7, rfl, rfl⟩ := (hP3 _ _ _).mp hpv4
          have a1 : atI (SQ.rowStr n A i).cps.toList ((k : Nat) : Int) = some (SQ.sgn (A i k)) := SQ.at_row hk
          have a2 : atI (SQ.rowsL n B') ((k : Nat) : Int) = some (.str (SQ.rowStr n B' k)) := SQ.at_rows hk
          have a3 : atI (SQ.rowStr n B' k).cps.toList ((j : Nat) : Int) = some (SQ.sgn (B' k j)) := SQ.at_row hj
          have l1 : (SQ.rowStr n A i).length ≤ sizeLine := by rw [SQ.len_row]; exact Nat.le_trans h24 (by decide)
          have l2 : (SQ.rowStr n B' k).length ≤ sizeLine := by rw [SQ.len_row]; exact Nat.le_trans h24 (by decide)
          walk_at "rd"
          walk_at "go"
          refine ⟨A i k, B' k j, rfl, wa i k hi hk, wb k j hk hj, ?_⟩
          refine ⟨_, _, rfl, SQ.mn_le.mpr (.inl (Nat.le_refl 3)), Nat.max_le.mpr ⟨wa i k hi hk, wb k j hk hj⟩, ?_⟩
          exact ⟨rfl, rfl⟩
        · intro σ H4 hpv4
          obtain ⟨o7, rfl, rfl⟩ := (hP3 _ _ _).mp hpv4
          walk_at "go"
          walk_at "go"
          refine ⟨by rw [List.length_map, List.length_range]; exact Nat.lt_of_lt_of_le (show j < 24 by omega) (by decide), Same.lay sm3 hg, SQ.mapr_succ (fun k => V.str (SQ.sgS (SQ.mul n A B' i k))) j⟩
      · intro σ H3 hpv3
        obtain ⟨o5, o6, o7, rfl, sm3, hg3⟩ := (hP2 _ _ _).mp hpv3
        have hl3 := sm3 _ _ hl
        walk_at "go"
        walk_at "go"
        refine ⟨(List.range n).map fun k => SQ.sgS (SQ.mul n A B' i k), .inl (SqL.of (by rw [hg3, List.map_map]; rfl)), ?_, by rw [List.length_map, List.length_range]; exact Nat.lt_of_lt_of_le (show i < 24 by omega) (by decide), Same.lay (sm.trans sm3) hf, ?_⟩
        · rw [SQ.sum_ones (fun _ => rfl), List.length_range, show (Str.ofString "").length = 0 from rfl]
          omega
        · rw [show Txt.join (Str.ofString "") ((List.range n).map fun k => SQ.sgS (SQ.mul n A B' i k)) = SQ.rowStr n (SQ.mul n A B') i from SQ.join_row n _ i]
          exact SQ.mapr_succ (fun k => V.str (SQ.rowStr n (SQ.mul n A B') k)) i
    · intro σ H1 hpv
      obtain ⟨o3, o4, o5, o6, o7, rfl, sm, hl⟩ := (hP _ _ _).mp hpv
      rw [el] at hl
      walk_at "go"
      walk_at "go"
      exact fun l hl2 => q l _ (sm.trans (Same.new hl2)) upd_same
/-- the law's repeat -/
def gr (A : SQ.Sq) : SQ.Sq := fun i j => if i = j then SQ.g (A i i) else 3
theorem gr_wf {n : Nat} {A : SQ.Sq} (h : SQ.Wf n A) : SQ.Wf n (gr A) := fun i j hi hj => by
  unfold gr
  split
  · exact SQ.g_top (h i i hi hi)
  · exact Nat.le_refl 3
theorem gr_list {n i : Nat} (A : SQ.Sq) (hi : i < n) : (List.replicate n (V.str (Str.ofString "."))).set i (V.str (SQ.sgS (SQ.g (A i i)))) = (List.range n).map fun k => V.str (SQ.sgS (gr A i k)) := by
  refine List.ext_getElem? fun k => ?_
  by_cases hk : k < n
  · rw [SQ.mapr_at hk, List.getElem?_set]
    by_cases e : i = k
    · subst e
      rw [if_pos rfl, if_pos (by rw [List.length_replicate]; exact hi)]
      unfold gr
      rw [if_pos rfl]
    · rw [if_neg e, List.getElem?_replicate, if_pos hk]
      unfold gr
      rw [if_neg e]
      rfl
  · rw [List.getElem?_eq_none (by rw [List.length_set, List.length_replicate]; omega), List.getElem?_eq_none (by rw [List.length_map, List.length_range]; omega)]
def spLRep (K : PySem.W.Frag) : Sp := fun vs H Q _ => ∃ (v : V) (n : Nat) (A : SQ.Sq), vs = [v] ∧ Rows K H v n A ∧ n ≤ 24 ∧ SQ.Wf n A ∧ ∀ p H', Same H H' → H' p = some (.tup (SQ.rowsL n (SQ.mul n (SQ.mul n A (gr A)) A))) → Q (.ref p) H'
theorem ok_repeat_ (D : Ds K mg Z) (B : Bt mg) (C0 : Cs mg) : FnOk P w K mg base CX0 4 Z.a_repeat_ Z.d_repeat_ P_repeat_ (spLRep K) := by
  have G_product := ok_product (P := P) (w := w) (base := base) D B C0
  obtain ⟨⟨t_SIGNS, c_SIGNS⟩, ⟨t_LITTLE, c_LITTLE⟩, ⟨t_GROWING, c_GROWING⟩, ⟨t_MAX_SIZE, c_MAX_SIZE⟩⟩ := C0
  refine D.repeat_.F.ok sc_repeat_ (fun vs H Q E h => ?_) (fun cdv A outer s H vs Q E hr h => ?_)
  · obtain ⟨v, n, A, rfl, _⟩ := h
    rfl
  · obtain ⟨v, n, A, rfl, ⟨p, rfl, hp⟩, h24, wa, q⟩ := h
    refine ⟨_, (pss_cons (ps_set (i := 1) sc_repeat_.nd rfl (Or.inl rfl) (pe_lst pa_nil))
    (pss_cons (ps_for PassesOwn.never rfl (pi_range1 (by rfl) B.range (pa_cons (pe_callB call_lenT (by rfl) B.len (by decide +kernel) (pa_cons (pv 0) pa_nil)) pa_nil)) (pg_name (i := 2) sc_repeat_.nd rfl (Or.inl rfl))
      (pss_cons (ps_set (i := 3) sc_repeat_.nd rfl (Or.inl rfl) (pe_ifExp (pt_cmpR op_eq (pe_ix ix_str (pe_ix ix_TM (pv 0) (pv 2) (fun _ _ => rfl)) (pv 2) (fun _ _ => rfl)) pe_str (nomark _)) pe_str (pe_ix ix_str (pe_ix ix_TM (pv 0) (pv 2) (fun _ _ => rfl)) (pv 2) (fun _ _ => rfl))))
    (pss_cons (ps_set (i := 4) sc_repeat_.nd rfl (Or.inl rfl) (pe_op op_rep (pe_lst (pa_cons pe_str pa_nil)) (pe_callB call_lenT (by rfl) B.len (by decide +kernel) (pa_cons (pv 0) pa_nil))))
    (pss_cons (ps_asg (pv 3) (pg_sub (pv 4) (pv 2) set_list))
    (pss_one (ps_expr (pe_lm PySem.F.plainAttrs_list PySem.F.slot_list_append PySem.F.type_list_append mt_append (pv 1) (pa_cons (pe_sm PySem.F.plainAttrs_str PySem.F.slot_str_join PySem.F.type_str_join (mt_joinK (K := K) rfl) pe_str (pa_cons (pv 4) pa_nil)) pa_nil))))))))
    (pss_one (ps_ret (pe_df D.product G_product (hr.mono (by decide)) (by rfl) (pa_cons (pe_df D.product G_product (hr.mono (by decide)) (by rfl) (pa_cons (pv 0) (pa_cons (pe_callTy call_tupM (by rfl) B.tuple (by decide +kernel) (pa_cons (pv 1) pa_nil)) pa_nil))) (pa_cons (pv 0) pa_nil))))))), ?_⟩
    walk_at "rd"
    refine ⟨Nat.zero_le _, fun f hf => ?_⟩
    have el : (SQ.rowsL n A).length = n := SQ.len_rows n A
    have e0 := Same.new (o := HO.lst []) hf
    have hp0 := e0 _ _ hp
    walk_at "go"
    refine ⟨by omega, by omega, ?_⟩
    rw [Int.toNat_natCast]
    obtain ⟨Pv, hP⟩ := inv_of (fun (i : Nat) (σ : St) (H' : Hp) => ∃ (o2 o3 o4 : Option V), σ = [some (.ref p), some (.ref f), o2, o3, o4] ∧
      Same H H' ∧ H' f = some (.lst ((List.range i).map fun k => .str (SQ.rowStr n (gr A) k))))
    refine loop_range Pv ((hP _ _ _).mpr ⟨_, _, _, rfl, e0, upd_same⟩) ?_ ?_
    · intro i σ H1 hi hpv
      obtain ⟨o2, o3, o4, rfl, sm, hl⟩ := (hP _ _ _).mp hpv
      have hp1 := sm _ _ hp
      have a2 : atI (SQ.rowsL n A) ((i : Nat) : Int) = some (.str (SQ.rowStr n A i)) := SQ.at_rows hi
      have a3 : atI (SQ.rowStr n A i).cps.toList ((i : Nat) : Int) = some (SQ.sgn (A i i)) := SQ.at_row hi
      have l2 : (SQ.rowStr n A i).length ≤ sizeLine := by rw [SQ.len_row]; exact Nat.le_trans h24 (by decide)
      walk_at "rd"
      walk_at "go"
      obtain ⟨r0, hr0⟩ : ∃ r0, SQ.g (A i i) = r0 := ⟨_, rfl⟩
      have h3 : r0 ≤ 3 := by rw [← hr0]; exact SQ.g_top (wa i i hi hi)
      by_cases h1 : A i i = 1
      have hg : SQ.g (A i i) = 2 := if_pos h1
      rw [if_pos (decide_eq_true (by rw [h1]; rfl)), show Str.ofString "n" = SQ.sgS r0 by rw [← hr0, hg]; rfl]
      clear hg
      rotate_left
      have hg : SQ.g (A i i) = A i i := if_neg h1
      rw [if_neg (by rw [decide_eq_true_eq]; exact fun e => h1 ((SQ.sgS_inj (wa i i hi hi) (by decide : 1 ≤ 3)).mp e)), show (⟨#[SQ.sgn (A i i)]⟩ : Str) = SQ.sgS r0 by rw [← hr0, hg]; rfl]
      clear hg
      all_goals
        clear h1 a3 a2 l2
        walk_at "go"
        refine ⟨by decide, fun d hd => ?_⟩
        have e1 := Same.new (o := HO.lst [V.str (Str.ofString ".")]) hd
        have hp2 := e1 _ _ hp1
        have hl2 := e1 _ _ hl
        have hd2 : upd H1 d (HO.lst [V.str (Str.ofString ".")]) d = some (.lst [V.str (Str.ofString ".")]) := upd_same
        generalize upd H1 d (HO.lst [V.str (Str.ofString ".")]) = H2 at e1 hp2 hl2 hd2 ⊢
        refine ⟨_, hp2, d, _, _, rfl, rfl, hd2, by rw [el]; omega, by rw [el]; omega, by rw [el, Int.toNat_natCast]; exact Nat.le_trans (show [V.str (Str.ofString ".")].length * n ≤ 24 by rw [List.length_singleton]; omega) (by decide), fun g hg => ?_⟩
        rw [el, Int.toNat_natCast, SQ.rep_flat]
        have e2 := Same.new (o := HO.lst (List.replicate n (V.str (Str.ofString ".")))) hg
        have hl3 := e2 _ _ hl2
        have hg3 : upd H2 g (HO.lst (List.replicate n (V.str (Str.ofString ".")))) g = some (.lst (List.replicate n (V.str (Str.ofString ".")))) := upd_same
        have nfg : g ≠ f := (ne_of_none hl2 hg).symm
        have hgn : H1 g = none := by
          cases hh : H1 g with
          | none => rfl
          | some o => rw [e1 _ _ hh] at hg; cases hg
        replace e2 := Same.trans e1 e2
        generalize upd H2 g (HO.lst (List.replicate n (V.str (Str.ofString ".")))) = H3 at e2 hl3 hg3 ⊢
        walk_at "go"
        refine ⟨i, by rw [List.length_replicate]; exact SQ.ixN_at hi, ?_⟩
        rw [← hr0, gr_list A hi]
        have hg4 : upd H3 g (HO.lst ((List.range n).map fun k => V.str (SQ.sgS (gr A i k)))) g = some (.lst ((List.range n).map fun k => V.str (SQ.sgS (gr A i k)))) := upd_same
        have hl4 : upd H3 g (HO.lst ((List.range n).map fun k => V.str (SQ.sgS (gr A i k)))) f = some (.lst ((List.range i).map fun k => V.str (SQ.rowStr n (gr A) k))) := by
          rw [upd_ne nfg.symm]
          exact hl3
        have e4 : Same H1 (upd H3 g (HO.lst ((List.range n).map fun k => V.str (SQ.sgS (gr A i k))))) := Same.lay e2 hgn
        generalize upd H3 g (HO.lst ((List.range n).map fun k => V.str (SQ.sgS (gr A i k)))) = H4 at hg4 hl4 e4 ⊢
        walk_at "go"
        refine ⟨(List.range n).map fun k => SQ.sgS (gr A i k), .inl (SqL.of (by rw [hg4, List.map_map]; rfl)), ?_, by rw [List.length_map, List.length_range]; exact Nat.lt_of_lt_of_le (show i < 24 by omega) (by decide), Same.lay (sm.trans e4) hf, ?_⟩
        · rw [SQ.sum_ones (fun _ => rfl), List.length_range, show (Str.ofString "").length = 0 from rfl]
          omega
        · rw [show Txt.join (Str.ofString "") ((List.range n).map fun k => SQ.sgS (gr A i k)) = SQ.rowStr n (gr A) i from SQ.join_row n _ i]
          exact SQ.mapr_succ (fun k => V.str (SQ.rowStr n (gr A) k)) i
    · intro σ H1 hpv
      obtain ⟨o2, o3, o4, rfl, sm, hl⟩ := (hP _ _ _).mp hpv
      walk_at "go"
      walk_at "go"
      intro l hl1
      have e1 := Same.new (o := HO.tup ((List.range n).map fun k => V.str (SQ.rowStr n (gr A) k))) hl1
      refine ⟨_, _, n, A, gr A, rfl, ⟨p, rfl, (sm.trans e1) _ _ hp⟩, ⟨l, rfl, upd_same⟩, h24, wa, gr_wf wa, fun p3 H3 e3 h3 => ?_⟩
      exact ⟨_, _, n, _, A, rfl, ⟨p3, rfl, h3⟩, ⟨p, rfl, ((sm.trans e1).trans e3) _ _ hp⟩, h24, SQ.mul_wf _ _, wa, fun p4 H4 e4 h4 => q p4 H4 (((sm.trans e1).trans e3).trans e4) h4⟩
/-! ### drawn squares -/
/-- all but the dice stays -/
def DK (d : Addr) (H H' : Hp) : Prop := (∀ b o, b ≠ d → H b = some o → H' b = some o) ∧ ∃ x y z : Int, H' d = some (.lst [.int x, .int y, .int z])
theorem DK.trans {d : Addr} {A B C : Hp} (h : DK d A B) (k : DK d B C) : DK d A C := ⟨fun b o hb e => k.1 b o hb (h.1 b o hb e), k.2⟩
theorem DK.same {d : Addr} {A B C : Hp} (h : DK d A B) (k : Same B C) : DK d A C := ⟨fun b o hb e => k _ _ (h.1 b o hb e), let ⟨x, y, z, q⟩ := h.2; ⟨x, y, z, k _ _ q⟩⟩
theorem DK.of {d : Addr} {A B : Hp} {x y z : Int} (h : A d = some (.lst [.int x, .int y, .int z])) (k : Same A B) : DK d A B := ⟨fun b o _ e => k _ _ e, x, y, z, k _ _ h⟩
theorem DK.roll {d : Addr} {A : Hp} (x y z : Int) : DK d A (upd A d (.lst [.int x, .int y, .int z])) := ⟨fun b o hb e => by rw [upd_ne hb]; exact e, x, y, z, upd_same⟩
theorem DK.rows {K : PySem.W.Frag} {d : Addr} {A B : Hp} {v : V} {n : Nat} {M : SQ.Sq} {x y z : Int} (hd : A d = some (.lst [.int x, .int y, .int z])) (h : DK d A B) (r : Rows K A v n M) : Rows K B v n M := by
  obtain ⟨p, e, hp⟩ := r
  exact ⟨p, e, h.1 _ _ (fun z => by rw [z, hd] at hp; cases hp) hp⟩
end
section
variable {P : Program} {w : World} {K : PySem.W.Frag} {mg : Str → Option Value} {base : Heap} {Z : Ad}
def spDrawn (K : PySem.W.Frag) : Sp := fun vs H Q _ => ∃ (d : Addr) (x y z : Int) (n : Nat), vs = [.ref d, .int (n : Int)] ∧ H d = some (.lst [.int x, .int y, .int z]) ∧ n ≤ 4 ∧
  ∀ (p : Addr) (A : SQ.Sq) (H' : Hp), DK d H H' → SQ.Wf n A → H' p = some (.tup (SQ.rowsL n A)) → Q (.ref p) H'
theorem pool_of {v : V} (h : v ∈ [V.str (Str.ofString "01n."), V.str (Str.ofString "01."), V.str (Str.ofString "0."), V.str (Str.ofString "1n."), V.str (Str.ofString "0..1"), V.str (Str.ofString "0n")]) :
    ∃ rs : List Nat, (∀ r, r ∈ rs → r ≤ 3) ∧ 0 < rs.length ∧ rs.length ≤ 4 ∧ v = .str ⟨(rs.map SQ.sgn).toArray⟩ := by
  simp only [List.mem_cons, List.not_mem_nil, or_false] at h
  rcases h with rfl | rfl | rfl | rfl | rfl | rfl
  · exact ⟨[0, 1, 2, 3], by decide, by decide, by decide, rfl⟩
  · exact ⟨[0, 1, 3], by decide, by decide, by decide, rfl⟩
  · exact ⟨[0, 3], by decide, by decide, by decide, rfl⟩
  · exact ⟨[1, 2, 3], by decide, by decide, by decide, rfl⟩
  · exact ⟨[0, 3, 3, 1], by decide, by decide, by decide, rfl⟩
  · exact ⟨[0, 2], by decide, by decide, by decide, rfl⟩
theorem ok_drawn_square (D : Ds K mg Z) (B : Bt mg) (C0 : Cs mg) : FnOk P w K mg base CX0 3 Z.a_drawn_square Z.d_drawn_square P_drawn_square (spDrawn K) := by
  have G_pick := ok_pick (P := P) (w := w) (base := base) D B
  obtain ⟨⟨t_SIGNS, c_SIGNS⟩, ⟨t_LITTLE, c_LITTLE⟩, ⟨t_GROWING, c_GROWING⟩, ⟨t_MAX_SIZE, c_MAX_SIZE⟩⟩ := C0
  refine D.drawn_square.F.ok sc_drawn_square (fun vs H Q E h => ?_) (fun cdv A outer s H vs Q E hr h => ?_)
  · obtain ⟨d, x, y, z, n, rfl, _⟩ := h
    rfl
  · obtain ⟨d, x, y, z, n, rfl, hd, h4, q⟩ := h
    refine ⟨_, (pss_cons (ps_set (i := 2) sc_drawn_square.nd rfl (Or.inr rfl) (pe_df D.pick G_pick (hr.mono (by decide)) (by rfl) (pa_cons (pv 0) (pa_cons (pe_lst (pa_cons pe_str (pa_cons pe_str (pa_cons pe_str (pa_cons pe_str (pa_cons pe_str (pa_cons pe_str pa_nil))))))) pa_nil))))
    (pss_cons (ps_set (i := 3) sc_drawn_square.nd rfl (Or.inl rfl) (pe_lst pa_nil))
    (pss_cons (ps_for PassesOwn.never rfl (pi_range1 (by rfl) B.range (pa_cons (pv 1) pa_nil)) (pg_name (i := 4) sc_drawn_square.nd rfl (Or.inl rfl))
      (pss_one (ps_expr (pe_lm PySem.F.plainAttrs_list PySem.F.slot_list_append PySem.F.type_list_append mt_append (pv 3) (pa_cons (pe_sm PySem.F.plainAttrs_str PySem.F.slot_str_join PySem.F.type_str_join (mt_joinK (K := K) rfl) pe_str (pa_cons (pe_lc (own := [("_law_at", 5)]) (g := gName 5) rfl sc_drawn_square.nd (pi_range1 (by rfl) B.range (pa_cons (pv 1) pa_nil)) (blkOk_by (N := N_drawn_square) (sc := defScope s_drawn_square) (by decide +kernel)) (fun _ _ _ _ _ => (pg_name (i := 5) sc_drawn_square.nd rfl (Or.inl rfl))) (fun _ _ _ _ _ => pts_nil) (fun _ _ _ _ _ => (pe_df D.pick G_pick (hr.mono (by decide)) (by rfl) (pa_cons (pv 0) (pa_cons (pv 2) pa_nil))))) pa_nil)) pa_nil)))))
    (pss_one (ps_ret (pe_callTy call_tupM (by rfl) B.tuple (by decide +kernel) (pa_cons (pv 3) pa_nil))))))), ?_⟩
    walk_at "rd"
    refine ⟨by decide, fun t ht => ?_⟩
    have ntd : t ≠ d := (ne_of_none hd ht).symm
    have e1 := Same.new (o := HO.lst [V.str (Str.ofString "01n."), V.str (Str.ofString "01."), V.str (Str.ofString "0."), V.str (Str.ofString "1n."), V.str (Str.ofString "0..1"), V.str (Str.ofString "0n")]) ht
    refine ⟨d, x, y, z, .ref t, _, rfl, e1 _ _ hd, .inl ⟨t, rfl, ntd, upd_same⟩, by decide, by decide, fun v hv x1 y1 z1 => ?_⟩
    have k1 : DK d H _ := (DK.of hd e1).trans (DK.roll x1 y1 z1)
    generalize upd (upd H t _) d (HO.lst [.int x1, .int y1, .int z1]) = H1 at k1 ⊢
    obtain ⟨rs, hrs, h0, hl4, rfl⟩ := pool_of hv
    clear hv
    obtain ⟨kk1, x2, y2, z2, hd1⟩ := id k1
    show LP.Later _ _ _ _
    walk_at "go"
    refine ⟨Nat.zero_le _, fun f hf => ?_⟩
    have nfd : f ≠ d := (ne_of_none hd1 hf).symm
    have e2 := Same.new (o := HO.lst []) hf
    have hf2 : upd H1 f (HO.lst []) f = some (.lst []) := upd_same
    generalize upd H1 f (HO.lst []) = H2 at e2 hf2 ⊢
    have k2 : DK d H H2 := k1.same e2
    have e2low : ∀ b o, b ≠ d → H b = some o → H1 b = some o := kk1
    walk_at "go"
    refine ⟨by omega, by omega, ?_⟩
    rw [Int.toNat_natCast]
    obtain ⟨Pv, hP⟩ := inv_bi (fun (i : Nat) (σ : St) (H' : Hp) => ∃ (o4 o5 : Option V) (A : SQ.Sq), σ = [some (.ref d), some (.int (n : Int)), some (.str ⟨(rs.map SQ.sgn).toArray⟩), some (.ref f), o4, o5] ∧
      DK d H H' ∧ (∀ k j, A k j ≤ 3) ∧ H' f = some (.lst ((List.range i).map fun k => .str (SQ.rowStr n A k))))
    refine loop_range Pv ((hP _ _ _).mpr ⟨_, _, fun _ _ => 3, rfl, k2, fun _ _ => Nat.le_refl 3, hf2⟩) ?_ ?_
    · intro i σ H3 hi hpv
      obtain ⟨o4, o5, A, rfl, k3, wa, hl3⟩ := (hP _ _ _).mp hpv
      obtain ⟨kk3, x3, y3, z3, hd3⟩ := id k3
      walk_at "rd"
      walk_at "go"
      refine ⟨by omega, by omega, ?_⟩
      rw [Int.toNat_natCast]
      intro g hg
      have ngd : g ≠ d := (ne_of_none hd3 hg).symm
      have ngf : g ≠ f := (ne_of_none hl3 hg).symm
      obtain ⟨P2, hP2⟩ := inv_bi2 (fun (j : Nat) H' => ∃ qs : List Nat, qs.length = j ∧ (∀ r, r ∈ qs → r ≤ 3) ∧ DK d H3 H' ∧ H' g = some (.lst (qs.map fun r => .str (SQ.sgS r))))
      refine lc_it walk_range P2 ((hP2 _ _).mpr ⟨[], rfl, (fun r hr => by cases hr), DK.of hd3 (Same.new hg), upd_same⟩) (fun _ _ _ _ => trivial) ?_ ?_
      · rintro j v H4 _ hj p4 ⟨rfl, rfl⟩
        obtain ⟨qs, hql, hq3, k4, hg4⟩ := (hP2 _ _).mp p4
        obtain ⟨kk4, x4, y4, z4, hd4⟩ := id k4
        walk_at "rd"
        refine ⟨d, x4, y4, z4, _, rs.map fun r => .str (SQ.sgS r), rfl, hd4, .inr ⟨_, rfl, by simp [SQ.sgS]⟩, by simpa using h0, by simp; omega, fun v hv x5 y5 z5 => ?_⟩
        obtain ⟨r, hr, rfl⟩ := List.mem_map.mp hv
        refine ⟨_, by rw [upd_ne ngd]; exact hg4, by rw [List.length_map, hql]; exact Nat.lt_of_lt_of_le (show j < 4 by omega) (by decide), (hP2 _ _).mpr ⟨qs ++ [r], by rw [List.length_append, hql]; rfl, fun r' hr' => ?_, ⟨fun b o hb e => ?_, x5, y5, z5, ?_⟩, ?_⟩⟩
        · rcases List.mem_append.mp hr' with h | h
          · exact hq3 r' h
          · rw [List.mem_singleton.mp h]
            exact hrs r hr
        · have nb : b ≠ g := ne_of_none e hg
          rw [upd_ne nb, upd_ne hb]
          exact kk4 b o hb e
        · rw [upd_ne ngd.symm, upd_same]
        · rw [upd_same, List.map_append]
          rfl
      · intro H4 p4
        obtain ⟨qs, hql, hq3, k4, hg4⟩ := (hP2 _ _).mp p4
        have hl4' := k4.1 _ _ nfd hl3
        have em : (qs.map fun r => V.str (SQ.sgS r)) = ((List.range n).map fun j => SQ.sgS (SQ.ofL qs j)).map V.str := by
          rw [SQ.map_ofL hql, List.map_map]
          rfl
        walk_at "rd"
        refine ⟨(List.range n).map fun j => SQ.sgS (SQ.ofL qs j), .inl (SqL.of (by rw [hg4, em])), ?_, ?_⟩
        · rw [SQ.sum_ones (fun _ => rfl), List.length_range, show (Str.ofString "").length = 0 from rfl]
          omega
        · walk_at "rd"
          rw [show Txt.join (Str.ofString "") ((List.range n).map fun j => SQ.sgS (SQ.ofL qs j)) = SQ.rowStr n (fun k j => if k = i then SQ.ofL qs j else A k j) i by
            have z := SQ.join_row n (fun k j => if k = i then SQ.ofL qs j else A k j) i
            simp only [if_true] at z
            exact z]
          refine ⟨by rw [List.length_map, List.length_range]; exact Nat.lt_of_lt_of_le (show i < 4 by omega) (by decide), (hP _ _ _).mpr ⟨_, _, fun k j => if k = i then SQ.ofL qs j else A k j, rfl, ?_, ?_, ?_⟩⟩
          · refine ⟨fun b o hb e => ?_, ?_⟩
            · have nb : b ≠ f := fun z => by
                have h1 := e2low b o hb e
                rw [z, hf] at h1
                cases h1
              rw [upd_ne nb]
              exact (k3.trans k4).1 b o hb e
            · obtain ⟨x6, y6, z6, h6⟩ := k4.2
              exact ⟨x6, y6, z6, by rw [upd_ne nfd.symm]; exact h6⟩
          · intro k j
            show (if k = i then SQ.ofL qs j else A k j) ≤ 3
            split
            · exact SQ.ofL_le hq3 j
            · exact wa k j
          · rw [upd_same]
            congr 2
            rw [← SQ.mapr_succ]
            congr 1
            refine List.map_congr_left fun k hk => ?_
            have hki := List.mem_range.mp hk
            congr 1
            unfold SQ.rowStr
            congr 2
            refine List.map_congr_left fun j _ => ?_
            show SQ.sgn (A k j) = SQ.sgn (if k = i then SQ.ofL qs j else A k j)
            rw [if_neg (by omega)]
    · intro σ H3 hpv
      obtain ⟨o4, o5, A, rfl, k3, wa, hl3⟩ := (hP _ _ _).mp hpv
      walk_at "go"
      walk_at "go"
      exact fun l hl => q l A _ (k3.same (Same.new hl)) (fun i j _ _ => wa i j) upd_same
/-! ### stable powers -/
def pw (n : Nat) (A : SQ.Sq) : Nat → SQ.Sq
  | 0 => A
  | i + 1 => SQ.mul n (pw n A i) A
theorem pw_wf {n : Nat} {A : SQ.Sq} (h : SQ.Wf n A) : ∀ i, SQ.Wf n (pw n A i)
  | 0 => h
  | i + 1 => SQ.mul_wf _ _
theorem pw_eleven (n : Nat) (A : SQ.Sq) : pw n A 11 = SQ.p12 n A := by
  unfold SQ.p12
  simp only [pw, SQ.mul_assoc]
def spStab (K : PySem.W.Frag) : Sp := fun vs H Q _ => ∃ (v : V) (n : Nat) (A : SQ.Sq), vs = [v] ∧ Rows K H v n A ∧ n ≤ 4 ∧ SQ.Wf n A ∧ ∀ (u : V) (E : SQ.Sq) H', Same H H' → Rows K H' u n E → SQ.Wf n E → Stb n E → Q u H'
theorem ok_stable_of (D : Ds K mg Z) (B : Bt mg) (C0 : Cs mg) : FnOk P w K mg base CX0 4 Z.a_stable_of Z.d_stable_of P_stable_of (spStab K) := by
  have G_product := ok_product (P := P) (w := w) (base := base) D B C0
  obtain ⟨⟨t_SIGNS, c_SIGNS⟩, ⟨t_LITTLE, c_LITTLE⟩, ⟨t_GROWING, c_GROWING⟩, ⟨t_MAX_SIZE, c_MAX_SIZE⟩⟩ := C0
  refine D.stable_of.F.ok sc_stable_of (fun vs H Q E h => ?_) (fun cdv A outer s H vs Q E hr h => ?_)
  · obtain ⟨v, n, A, rfl, _⟩ := h
    rfl
  · obtain ⟨v, n, A, rfl, hv, h4, wf, q⟩ := h
    refine ⟨_, (pss_cons (ps_set (i := 1) sc_stable_of.nd rfl (Or.inl rfl) (pv 0))
    (pss_cons (ps_for PassesOwn.never rfl (pi_range1 (by rfl) B.range (pa_cons pe_int pa_nil)) (pg_name (i := 2) sc_stable_of.nd rfl (Or.inl rfl))
      (pss_cons (ps_if (pt_cmpR (op_eqK (K := K) rfl hr.units) (pe_df D.product G_product (hr.mono (by decide)) (by rfl) (pa_cons (pv 1) (pa_cons (pv 1) pa_nil))) (pv 1) (nomark _)) (pss_one ps_break) pss_nil)
    (pss_one (ps_set (i := 1) sc_stable_of.nd rfl (Or.inl rfl) (pe_df D.product G_product (hr.mono (by decide)) (by rfl) (pa_cons (pv 1) (pa_cons (pv 0) pa_nil)))))))
    (pss_one (ps_ret (pv 1))))), ?_⟩
    walk_at "rd"
    walk_at "go"
    refine ⟨by decide, by decide, ?_⟩
    obtain ⟨Pv, hP⟩ := inv_bi (fun (i : Nat) (σ : St) (H' : Hp) => ∃ (u : V) (o2 : Option V), σ = [some v, some u, o2] ∧ i ≤ 11 ∧ Same H H' ∧ Rows K H' u n (pw n A i))
    refine loop_range Pv ((hP _ _ _).mpr ⟨_, _, rfl, Nat.zero_le _, Same.refl _, hv⟩) ?_ ?_
    · intro i σ H1 hi hpv
      obtain ⟨u, o2, rfl, h11, sm, hu⟩ := (hP _ _ _).mp hpv
      walk_at "rd"
      walk_at "go"
      refine ⟨u, u, n, _, _, rfl, hu, hu, Nat.le_trans h4 (by decide), pw_wf wf i, pw_wf wf i, fun p H2 e2 hp => ?_⟩
      obtain ⟨p', rfl, hp'⟩ := id hu
      walk_at "rd"
      refine SQ.eq_rowsT (SqT.of hp) (SqT.of (e2 _ _ hp')) (SQ.mul_wf _ _) (pw_wf wf i) fun b hb => ?_
      walk_at "rd"
      cases b with
      | true =>
        walk_at "rd"
        walk_at "go"
        walk_at "go"
        walk_at "go"
        exact q _ (pw n A i) H2 (sm.trans e2) (hu.same e2) (pw_wf wf i) (hb.mp rfl)
      | false =>
        have hlt : i + 1 ≤ 11 := by
          rcases Nat.lt_or_ge i 11 with h | h
          · exact h
          · have e : i = 11 := by omega
            subst e
            refine absurd (hb.mpr fun i j hi hj => ?_) (by decide)
            rw [pw_eleven]
            exact SQ.p12_idem h4 A hi hj
        clear hb
        walk_at "rd"
        walk_at "go"
        walk_at "go"
        exact ⟨_, _, n, _, A, rfl, hu.same e2, hv.same (sm.trans e2), Nat.le_trans h4 (by decide), pw_wf wf i, wf, fun p3 H3 e3 h3 => (hP _ _ _).mpr ⟨_, _, rfl, hlt, (sm.trans e2).trans e3, p3, rfl, h3⟩⟩
    · intro σ H1 hpv
      obtain ⟨u, o2, rfl, h11, sm, hu⟩ := (hP _ _ _).mp hpv
      exact absurd h11 (by decide)
def spNoLess (K : PySem.W.Frag) (C : Addr) : Sp := fun vs H Q _ => ∃ (a b : Addr) (n : Nat) (A B : SQ.Sq), vs = [.ref a, .ref b] ∧ SqO K C H a n A ∧ SqO K C H b n B ∧ n ≤ 4 ∧ (∀ i j, i < n → j < n → B i j ≤ A i j ∧ (A i j = 0 ↔ B i j = 0) ∧ (A i j = 3 ↔ B i j = 3)) ∧ ∀ H', Same H H' → Q (.bl true) H'
theorem ok_no_less (D : Ds K mg Z) (B : Bt mg) (C0 : Cs mg) : FnOk P w K mg base CX0 4 Z.a_no_less Z.d_no_less P_no_less (spNoLess K Z.c_Square) := by
  have G_least_sign := ok_least_sign (P := P) (w := w) (base := base) D B C0
  have G_Square_rows := ok_Square_rows (P := P) (w := w) (base := base) D B C0
  obtain ⟨⟨t_SIGNS, c_SIGNS⟩, ⟨t_LITTLE, c_LITTLE⟩, ⟨t_GROWING, c_GROWING⟩, ⟨t_MAX_SIZE, c_MAX_SIZE⟩⟩ := C0
  refine D.no_less.F.ok sc_no_less (fun vs H Q E h => ?_) (fun cdv A outer s H vs Q E hr h => ?_)
  · obtain ⟨a, b, n, A, B', rfl, _⟩ := h
    rfl
  · obtain ⟨a, b, n, A, B', rfl, ho, ho2, h4, hle, q⟩ := h
    refine ⟨_, (pss_cons (ps_for PassesOwn.never rfl (pi_zipNK (K := K) rfl (by rfl) B.zip (pa_cons (pe_sm PySem.F.plainAttrs_str PySem.F.slot_str_join PySem.F.type_str_join (mt_joinK (K := K) rfl) pe_str (pa_cons (pe_pr D.Square D.Square_rows G_Square_rows (hr.mono (by decide)) (pv 0)) pa_nil)) (pa_cons (pe_sm PySem.F.plainAttrs_str PySem.F.slot_str_join PySem.F.type_str_join (mt_joinK (K := K) rfl) pe_str (pa_cons (pe_pr D.Square D.Square_rows G_Square_rows (hr.mono (by decide)) (pv 1)) pa_nil)) pa_nil))) (pg_tupK (K := K) (n := 2) rfl rfl (pgs_cons (pg_name (i := 2) sc_no_less.nd rfl (Or.inl rfl)) (pgs_cons (pg_name (i := 3) sc_no_less.nd rfl (Or.inl rfl)) pgs_nil)))
      (pss_one (ps_if (PW.pt (pw_or (pt_cmpR op_ne (pe_dfR G_least_sign (hr.mono (by decide)) D.least_sign.F.kp (by rfl) D.least_sign.g (pa_cons (pv 2) (pa_cons (pv 3) pa_nil))) (pv 3) (nomark _)) (pw_or (pt_cmpR op_ne (pe_cmpR op_in_str (pv 2) pe_str (by rfl)) (pe_cmpR op_in_str (pv 3) pe_str (by rfl)) (nomark _)) (pw_or1 (PW.pt (pw_and (pt_cmpR op_in_str (pv 2) pe_str (by rfl)) (pw_and1 (pt_cmpR op_ne (pv 2) (pv 3) (nomark _))))))))) (pss_one (ps_ret pe_bl)) pss_nil)))
    (pss_one (ps_ret pe_bl))), ?_⟩
    walk_at "rd"
    obtain ⟨dx, r, hs, hrw, h1, h24, wf⟩ := id ho
    obtain ⟨dy, r2, hs2, hrw2, _, _, wf2⟩ := id ho2
    have hr1 : SqT K H r (((List.range n).map fun i => SQ.rowStr n A i).map V.str) := SqT.of (by rw [hrw, SQ.rowsL_map])
    have hr2 : SqT K H r2 (((List.range n).map fun i => SQ.rowStr n B' i).map V.str) := SqT.of (by rw [hrw2, SQ.rowsL_map])
    have sz : ∀ M : SQ.Sq, (((List.range n).map fun i => SQ.rowStr n M i).map (·.length)).sum + ((List.range n).map fun i => SQ.rowStr n M i).length * (Str.ofString "").length ≤ 16777216 := fun M => by
      have z := SQ.sum_const (l := List.range n) (f := fun i => (SQ.rowStr n M i).length) (c := n) (fun i => SQ.len_row n M i)
      rw [List.length_range] at z
      have z2 : (((List.range n).map fun i => SQ.rowStr n M i).map (·.length)).sum = n * n := by
        rw [List.map_map]
        exact z
      rw [z2, show (Str.ofString "").length = 0 from rfl]
      have := Nat.mul_le_mul h4 h4
      omega
    refine ⟨dx, _, hs, a, dx, r, rfl, hs, ?_⟩
    refine ⟨r, rfl, (List.range n).map fun i => SQ.rowStr n A i, .inr hr1, sz A, ?_⟩
    refine ⟨dy, _, hs2, b, dy, r2, rfl, hs2, ?_⟩
    refine ⟨r2, rfl, (List.range n).map fun i => SQ.rowStr n B' i, .inr hr2, sz B', ?_⟩
    refine ⟨[.str (SQ.allStr n A), .str (SQ.allStr n B')], .cons (s := .str (SQ.allStr n A)) rfl rfl (.cons (s := .str (SQ.allStr n B')) rfl rfl .nil), by simp, by simp, ?_⟩
    obtain ⟨Pv, hP⟩ := inv_bi (fun (i : Nat) (σ : St) (H' : Hp) => ∃ (o2 o3 : Option V), σ = [some (.ref a), some (.ref b), o2, o3] ∧ Same H H')
    refine loop_it (LZ.walk_zip2 (s1 := .str (SQ.allStr n A)) (s2 := .str (SQ.allStr n B')) (by rw [SQ.len_all, SQ.len_all])) Pv ((hP _ _ _).mpr ⟨_, _, rfl, Same.refl _⟩) (fun _ _ _ _ _ => ⟨rfl, rfl⟩) ?_ ?_
    · rintro k v σ H1 _ hk hpv ⟨T, x, y, rfl, hT, rfl, ex, ey⟩
      obtain ⟨o2, o3, rfl, sm⟩ := (hP _ _ _).mp hpv
      obtain ⟨i, j, hi, hj, rfl, rfl⟩ := SQ.all_pair ex ey
      obtain ⟨h5, h6, h7⟩ := hle i j hi hj
      have e1 := Same.new (o := HO.tup [V.str (SQ.sgS (A i j)), V.str (SQ.sgS (B' i j))]) hT
      have hT1 : upd H1 T (HO.tup [V.str (SQ.sgS (A i j)), V.str (SQ.sgS (B' i j))]) T = some (.tup [V.str (SQ.sgS (A i j)), V.str (SQ.sgS (B' i j))]) := upd_same
      generalize upd H1 T (HO.tup [V.str (SQ.sgS (A i j)), V.str (SQ.sgS (B' i j))]) = H2 at e1 hT1 ⊢
      walk_at "rd"
      refine ⟨_, SqT.of hT1, rfl, ?_⟩
      walk_at "rd"
      walk_at "go"
      refine ⟨A i j, B' i j, rfl, wf i j hi hj, wf2 i j hi hj, fun H3 e3 => ?_⟩
      walk_at "rd"
      have wa := wf i j hi hj
      have wb := wf2 i j hi hj
      rw [show Str.ofString "0." = ("0." : Str) from rfl, SQ.in_ends wa, SQ.in_ends wb,
        show decide (SQ.sgS (min (A i j) (B' i j)) = SQ.sgS (B' i j)) = true from decide_eq_true (by rw [Nat.min_eq_right h5]),
        show (decide (B' i j = 0) || decide (B' i j = 3)) = (decide (A i j = 0) || decide (A i j = 3)) by rw [decide_eq_decide.mpr h6, decide_eq_decide.mpr h7],
        decide_eq_true rfl]
      refine (if_neg (by decide)).mpr ⟨rfl, (if_neg (by decide)).mpr ?_⟩
      have nx : Pv (k + 1) [some (V.ref a), some (V.ref b), some (V.str (SQ.sgS (A i j))), some (V.str (SQ.sgS (B' i j)))] H3 := (hP _ _ _).mpr ⟨_, _, rfl, (sm.trans e1).trans e3⟩
      by_cases hc : (decide (A i j = 0) || decide (A i j = 3)) = true
      · rw [if_pos hc, show decide (SQ.sgS (A i j) = SQ.sgS (B' i j)) = true from decide_eq_true (by
          rw [Bool.or_eq_true, decide_eq_true_iff, decide_eq_true_iff] at hc
          rcases hc with h | h
          · rw [h, h6.mp h]
          · rw [h, h7.mp h])]
        exact nx
      · rw [if_neg hc]
        exact nx
    · intro σ H1 hpv
      obtain ⟨o2, o3, rfl, sm⟩ := (hP _ _ _).mp hpv
      walk_at "go"
      walk_at "go"
end
section
variable {P : Program} {w : World} {K : PySem.W.Frag} {mg : Str → Option Value} {base : Heap} {Z : Ad}
theorem stb_st {n : Nat} {E : SQ.Sq} (h : Stb n E) (wf : SQ.Wf n E) : SQ.St n E := ⟨wf, h⟩
theorem gr_rep {n : Nat} (A : SQ.Sq) {i m : Nat} (hi : i < n) (hm : m < n) : SQ.mul n (SQ.mul n A (gr A)) A i m = SQ.rep n A i m := by
  refine SQ.le_ext fun v => ?_
  rw [SQ.mul_le, SQ.rep_le]
  constructor
  · rintro (h | ⟨k, hk, h1, h2⟩)
    · exact .inl h
    · rw [SQ.mul_le] at h1
      rcases h1 with h | ⟨j, hj, h3, h4⟩
      · exact .inl h
      · unfold gr at h4
        by_cases e : j = k
        · subst e
          rw [if_pos rfl] at h4
          exact .inr ⟨j, hj, h3, h4, h2⟩
        · rw [if_neg e] at h4
          exact .inl h4
  · rintro (h | ⟨j, hj, h1, h2, h3⟩)
    · exact .inl h
    · refine .inr ⟨j, hj, SQ.mul_le.mpr (.inr ⟨j, hj, h1, ?_⟩), h3⟩
      unfold gr
      rw [if_pos rfl]
      exact h2
def spRR (K : PySem.W.Frag) : Sp := fun vs H Q _ => ∃ (v : V) (n : Nat) (A : SQ.Sq), vs = [v] ∧ Rows K H v n A ∧ 1 ≤ n ∧ n ≤ 4 ∧ SQ.Wf n A ∧ Stb n A ∧ ∀ H', Same H H' → Q (.bl true) H'
theorem ok_repeats_right (D : Ds K mg Z) (B : Bt mg) (C0 : Cs mg) : FnOk P w K mg base CX0 6 Z.a_repeats_right Z.d_repeats_right P_repeats_right (spRR K) := by
  have G_repeat_ := ok_repeat_ (P := P) (w := w) (base := base) D B C0
  have G_no_less := ok_no_less (P := P) (w := w) (base := base) D B C0
  have G_Square___init__ := ok_Square___init__ (P := P) (w := w) (base := base) D B C0
  have G_Square_repeated := ok_Square_repeated (P := P) (w := w) (base := base) D B C0
  have G_Square_rows := ok_Square_rows (P := P) (w := w) (base := base) D B C0
  have G_Square_is_stable := ok_Square_is_stable (P := P) (w := w) (base := base) D B C0
  have G_Square___mul__ := ok_Square___mul__ (P := P) (w := w) (base := base) D B C0
  have G_Square___eq__ := ok_Square___eq__ (P := P) (w := w) (base := base) D B C0
  obtain ⟨⟨t_SIGNS, c_SIGNS⟩, ⟨t_LITTLE, c_LITTLE⟩, ⟨t_GROWING, c_GROWING⟩, ⟨t_MAX_SIZE, c_MAX_SIZE⟩⟩ := C0
  refine D.repeats_right.F.ok sc_repeats_right (fun vs H Q E h => ?_) (fun cdv A outer s H vs Q E hr h => ?_)
  · obtain ⟨v, n, A, rfl, _⟩ := h
    rfl
  · obtain ⟨v, n, A, rfl, hv, h1, h4, wf, hst, q⟩ := h
    refine ⟨_, (pss_cons (ps_set (i := 1) sc_repeats_right.nd rfl (Or.inl rfl) (pe_mkS D.Square D.Square___init__ G_Square___init__ (hr.mono (by decide)) (by rfl) (pa_cons (pv 0) pa_nil)))
    (pss_cons (ps_set (i := 2) sc_repeats_right.nd rfl (Or.inl rfl) (pe_mt0 D.Square D.Square_repeated G_Square_repeated (hr.mono (by decide)) (pv 1)))
    (pss_cons (ps_if (PW.pt (pw_or (pt_cmpR (op_neK (K := K) rfl hr.units) (pe_pr D.Square D.Square_rows G_Square_rows (hr.mono (by decide)) (pv 2)) (pe_df D.repeat_ G_repeat_ (hr.mono (by decide)) (by rfl) (pa_cons (pv 0) pa_nil)) (nomark _)) (pw_or (pt_not (pt_val (pe_pr D.Square D.Square_is_stable G_Square_is_stable (hr.mono (by decide)) (pv 2)))) (pw_or1 (pt_cmpR (op_neSK (K := K) rfl D.Square D.Square___eq__ G_Square___eq__ (hr.mono (by decide))) (pe_mt0 D.Square D.Square_repeated G_Square_repeated (hr.mono (by decide)) (pv 2)) (pv 2) (nomark _)))))) (pss_one (ps_ret pe_bl)) pss_nil)
    (pss_cons (ps_if (PW.pt (pw_or (pt_cmpR (op_neSK (K := K) rfl D.Square D.Square___eq__ G_Square___eq__ (hr.mono (by decide))) (pe_op (op_binS (op := .Mult) D.Square D.Square___mul__ G_Square___mul__ (hr.mono (by decide))) (pv 1) (pv 2)) (pv 2) (nomark _)) (pw_or (pt_cmpR (op_neSK (K := K) rfl D.Square D.Square___eq__ G_Square___eq__ (hr.mono (by decide))) (pe_op (op_binS (op := .Mult) D.Square D.Square___mul__ G_Square___mul__ (hr.mono (by decide))) (pv 2) (pv 1)) (pv 2) (nomark _)) (pw_or1 (pt_cmpR (op_neSK (K := K) rfl D.Square D.Square___eq__ G_Square___eq__ (hr.mono (by decide))) (pe_op (op_binS (op := .Mult) D.Square D.Square___mul__ G_Square___mul__ (hr.mono (by decide))) (pv 2) (pv 2)) (pv 2) (nomark _)))))) (pss_one (ps_ret pe_bl)) pss_nil)
    (pss_one (ps_ret (pe_and (pe_df D.no_less G_no_less (hr.mono (by decide)) (by rfl) (pa_cons (pv 2) (pa_cons (pv 1) pa_nil))) (pe_and (pe_cmpR (op_eqK (K := K) rfl hr.units) (pe_pr D.Square D.Square_rows G_Square_rows (hr.mono (by decide)) (pv 1)) (pv 0) (nomark _)) (pe_one (pe_cmpR (op_eqSK (K := K) rfl D.Square D.Square___eq__ G_Square___eq__ (hr.mono (by decide))) (pe_op (op_binS (op := .Mult) D.Square D.Square___mul__ G_Square___mul__ (hr.mono (by decide))) (pv 1) (pv 1)) (pv 1) (nomark _))))))))))), ?_⟩
    obtain ⟨p, rfl, hp⟩ := id hv
    have h24 : n ≤ 24 := Nat.le_trans h4 (by decide)
    have wr := SQ.rep_wf (n := n) A
    have st := stb_st hst wf
    walk_at "rd"
    refine mk_sq hp h1 h24 wf fun x H1 e1 hx => ?_
    walk_at "go"
    obtain ⟨dx, r, hs, hrw, _⟩ := id hx
    refine ⟨dx, _, hs, x, n, A, rfl, hx, hst, fun y H2 e2 hy => ?_⟩
    walk_at "go"
    obtain ⟨dy, r2, hs2, hrw2, _⟩ := id hy
    have srep := st.rep
    have nf := D.Square.nf
    refine ⟨dy, _, hs2, y, dy, r2, rfl, hs2, ?_⟩
    refine ⟨.ref p, n, A, rfl, ⟨p, rfl, (e1.trans e2) _ _ hp⟩, h24, wf, fun p3 H3 e3 h3 => ?_⟩
    refine SQ.ne_rowsT (SqT.of (e3 _ _ hrw2)) (SqT.of h3) wr (SQ.mul_wf _ _) fun b hb => ?_
    obtain rfl : b = false := hb.mpr fun i j hi hj => (gr_rep A hi hj).symm
    clear hb
    walk_at "rd"
    refine ⟨dy, _, Same.slt e3 hs2, y, n, _, rfl, hy.same e3, fun b H4 e4 hb => ?_⟩
    obtain rfl : b = true := hb.mpr srep.idem
    clear hb
    walk_at "rd"
    refine ⟨dy, _, Same.slt (e3.trans e4) hs2, y, n, _, rfl, hy.same (e3.trans e4), srep.idem, fun z H5 e5 hz => ?_⟩
    have e35 := (e3.trans e4).trans e5
    refine rd_ne nf hz (hy.same e35) fun c hc => ?_
    obtain rfl : c = false := hc.mpr fun i j hi hj => st.rep_rep hi hj
    clear hc
    walk_at "rd"
    walk_at "go"
    walk_at "go"
    have hx5 := hx.same (e2.trans e35)
    have hy5 := hy.same e35
    refine rd_mul hx5 hy5 fun z1 H6 e6 hz1 => ?_
    refine rd_ne nf hz1 (hy5.same e6) fun c hc => ?_
    obtain rfl : c = false := hc.mpr fun i j hi hj => st.mul_rep hi hj
    clear hc
    walk_at "rd"
    refine rd_mul (hy5.same e6) (hx5.same e6) fun z2 H7 e7 hz2 => ?_
    refine rd_ne nf hz2 (hy5.same (e6.trans e7)) fun c hc => ?_
    obtain rfl : c = false := hc.mpr fun i j hi hj => st.rep_mul hi hj
    clear hc
    walk_at "rd"
    have e57 := e6.trans e7
    refine rd_mul (hy5.same e57) (hy5.same e57) fun z3 H8 e8 hz3 => ?_
    refine rd_ne nf hz3 (hy5.same (e57.trans e8)) fun c hc => ?_
    obtain rfl : c = false := hc.mpr srep.idem
    clear hc
    walk_at "rd"
    walk_at "go"
    walk_at "go"
    have e58 := e57.trans e8
    refine ⟨y, x, n, _, A, rfl, hy5.same e58, hx5.same e58, h4, fun i j hi hj => ⟨st.rep_ge hi hj, st.rep_zero h4 hi hj, st.rep_three h4 hi hj⟩, fun H9 e9 => ?_⟩
    walk_at "rd"
    have e29 := (e2.trans e35).trans (e58.trans e9)
    have hs9 := Same.slt e29 hs
    refine ⟨dx, _, hs9, x, dx, r, rfl, hs9, ?_⟩
    refine SQ.eq_rowsT (SqT.of (e29 _ _ hrw)) (SqT.of ((e1.trans e29) _ _ hp)) wf wf fun b hb => ?_
    obtain rfl : b = true := hb.mpr fun _ _ _ _ => rfl
    clear hb
    walk_at "rd"
    have hx9 := hx.same e29
    refine rd_mul hx9 hx9 fun z4 H10 e10 hz4 => ?_
    refine rd_eq nf hz4 (hx9.same e10) fun c hc => ?_
    obtain rfl : c = true := hc.mpr hst
    exact q H10 ((e1.trans e29).trans e10)
def spRight (K : PySem.W.Frag) : Sp := fun vs H Q _ => ∃ (d : Addr) (x y z : Int), vs = [.ref d] ∧ H d = some (.lst [.int x, .int y, .int z]) ∧ ∀ H', DK d H H' → Q (.bl true) H'
theorem ok_right (D : Ds K mg Z) (B : Bt mg) (C0 : Cs mg) : FnOk P w K mg base CX0 7 Z.a_right Z.d_right P_right (spRight K) := by
  have G_roll := ok_roll (P := P) (w := w) (base := base) D B
  have G_drawn_square := ok_drawn_square (P := P) (w := w) (base := base) D B C0
  have G_product := ok_product (P := P) (w := w) (base := base) D B C0
  have G_stable_of := ok_stable_of (P := P) (w := w) (base := base) D B C0
  have G_repeats_right := ok_repeats_right (P := P) (w := w) (base := base) D B C0
  have G_Square___init__ := ok_Square___init__ (P := P) (w := w) (base := base) D B C0
  have G_Square_rows := ok_Square_rows (P := P) (w := w) (base := base) D B C0
  have G_Square___mul__ := ok_Square___mul__ (P := P) (w := w) (base := base) D B C0
  have G_Square___eq__ := ok_Square___eq__ (P := P) (w := w) (base := base) D B C0
  obtain ⟨⟨t_SIGNS, c_SIGNS⟩, ⟨t_LITTLE, c_LITTLE⟩, ⟨t_GROWING, c_GROWING⟩, ⟨t_MAX_SIZE, c_MAX_SIZE⟩⟩ := C0
  refine D.right.F.ok sc_right (fun vs H Q E h => ?_) (fun cdv A outer s H vs Q E hr h => ?_)
  · obtain ⟨d, x, y, z, rfl, _⟩ := h
    rfl
  · obtain ⟨d, x, y, z, rfl, hd, q⟩ := h
    refine ⟨_, (pss_cons (ps_set (i := 1) sc_right.nd rfl (Or.inr rfl) (pe_op op_add pe_int (pe_df D.roll G_roll (hr.mono (by decide)) (by rfl) (pa_cons (pv 0) (pa_cons pe_int pa_nil)))))
    (pss_cons (ps_asg (pe_lc (own := [("_law_turn", 5)]) (g := gName 5) rfl sc_right.nd (pi_range1 (by rfl) B.range (pa_cons pe_int pa_nil)) (blkOk_by (N := N_right) (sc := defScope s_right) (by decide +kernel)) (fun _ _ _ _ _ => (pg_name (i := 5) sc_right.nd rfl (Or.inl rfl))) (fun _ _ _ _ _ => pts_nil) (fun _ _ _ _ _ => (pe_df D.drawn_square G_drawn_square (hr.mono (by decide)) (by rfl) (pa_cons (pv 0) (pa_cons (pv 1) pa_nil))))) (pg_lstK (K := K) (n := 3) rfl rfl (pgs_cons (pg_name (i := 2) sc_right.nd rfl (Or.inl rfl)) (pgs_cons (pg_name (i := 3) sc_right.nd rfl (Or.inl rfl)) (pgs_cons (pg_name (i := 4) sc_right.nd rfl (Or.inl rfl)) pgs_nil)))))
    (pss_cons (ps_par (i := 6) (j := 7) (by rfl) sc_right.nd rfl rfl (by decide) rfl rfl (pa_cons (pe_op (op_binS (op := .Mult) D.Square D.Square___mul__ G_Square___mul__ (hr.mono (by decide))) (pe_mkS D.Square D.Square___init__ G_Square___init__ (hr.mono (by decide)) (by rfl) (pa_cons (pv 2) pa_nil)) (pe_mkS D.Square D.Square___init__ G_Square___init__ (hr.mono (by decide)) (by rfl) (pa_cons (pv 3) pa_nil))) (pa_cons (pe_op (op_binS (op := .Mult) D.Square D.Square___mul__ G_Square___mul__ (hr.mono (by decide))) (pe_mkS D.Square D.Square___init__ G_Square___init__ (hr.mono (by decide)) (by rfl) (pa_cons (pv 3) pa_nil)) (pe_mkS D.Square D.Square___init__ G_Square___init__ (hr.mono (by decide)) (by rfl) (pa_cons (pv 4) pa_nil))) pa_nil)) (by rfl))
    (pss_cons (ps_if (PW.pt (pw_or (pt_cmpR (op_neK (K := K) rfl hr.units) (pe_pr D.Square D.Square_rows G_Square_rows (hr.mono (by decide)) (pv 6)) (pe_df D.product G_product (hr.mono (by decide)) (by rfl) (pa_cons (pv 2) (pa_cons (pv 3) pa_nil))) (nomark _)) (pw_or1 (pt_cmpR (op_neSK (K := K) rfl D.Square D.Square___eq__ G_Square___eq__ (hr.mono (by decide))) (pe_op (op_binS (op := .Mult) D.Square D.Square___mul__ G_Square___mul__ (hr.mono (by decide))) (pv 6) (pe_mkS D.Square D.Square___init__ G_Square___init__ (hr.mono (by decide)) (by rfl) (pa_cons (pv 4) pa_nil))) (pe_op (op_binS (op := .Mult) D.Square D.Square___mul__ G_Square___mul__ (hr.mono (by decide))) (pe_mkS D.Square D.Square___init__ G_Square___init__ (hr.mono (by decide)) (by rfl) (pa_cons (pv 2) pa_nil)) (pv 7)) (nomark _))))) (pss_one (ps_ret pe_bl)) pss_nil)
    (pss_one (ps_ret (pe_and (pe_df D.repeats_right G_repeats_right (hr.mono (by decide)) (by rfl) (pa_cons (pe_df D.stable_of G_stable_of (hr.mono (by decide)) (by rfl) (pa_cons (pv 2) pa_nil)) pa_nil)) (pe_one (pe_df D.repeats_right G_repeats_right (hr.mono (by decide)) (by rfl) (pa_cons (pe_df D.stable_of G_stable_of (hr.mono (by decide)) (by rfl) (pa_cons (pe_df D.product G_product (hr.mono (by decide)) (by rfl) (pa_cons (pv 3) (pa_cons (pv 4) pa_nil))) pa_nil)) pa_nil)))))))))), ?_⟩
    walk_at "rd"
    refine ⟨d, x, y, z, 4, rfl, hd, by decide, by decide, fun r x1 y1 z1 r0 r1 => ?_⟩
    have k1 : DK d H (upd H d (HO.lst [.int x1, .int y1, .int z1])) := DK.roll x1 y1 z1
    generalize upd H d (HO.lst [.int x1, .int y1, .int z1]) = H1 at k1 ⊢
    obtain ⟨n, hn, h1, h4⟩ : ∃ n : Nat, 1 + r = (n : Int) ∧ 1 ≤ n ∧ n ≤ 4 := ⟨(1 + r).toNat, by omega, by omega, by omega⟩
    walk_at "rd"
    obtain ⟨kk1, x2, y2, z2, hd1⟩ := id k1
    walk_at "go"
    refine ⟨by decide, by decide, ?_⟩
    intro g hg
    have ngd : g ≠ d := (ne_of_none hd1 hg).symm
    obtain ⟨P2, hP2⟩ := inv_bi2 (fun (j : Nat) H' => ∃ qs : List (Addr × SQ.Sq), qs.length = j ∧ (∀ e, e ∈ qs → SQ.Wf n e.2 ∧ H' e.1 = some (.tup (SQ.rowsL n e.2))) ∧ DK d H1 H' ∧ H' g = some (.lst (qs.map fun e => .ref e.1)))
    refine lc_it walk_range P2 ((hP2 _ _).mpr ⟨[], rfl, (fun e he => by cases he), DK.of hd1 (Same.new hg), upd_same⟩) (fun _ _ _ _ => trivial) ?_ ?_
    · rintro j v H4 _ hj p4 ⟨rfl, rfl⟩
      obtain ⟨qs, hql, hq, k4, hg4⟩ := (hP2 _ _).mp p4
      obtain ⟨kk4, x4, y4, z4, hd4⟩ := id k4
      walk_at "rd"
      refine ⟨d, x4, y4, z4, n, rfl, hd4, h4, fun p A H5 k5 wa hp5 => ?_⟩
      have hg5 := k5.1 _ _ ngd hg4
      refine ⟨_, hg5, by rw [List.length_map, hql]; exact Nat.lt_of_lt_of_le hj (by decide), (hP2 _ _).mpr ⟨qs ++ [(p, A)], by rw [List.length_append, hql]; rfl, fun e he => ?_, ⟨fun b o hb e => ?_, ?_⟩, ?_⟩⟩
      · rcases List.mem_append.mp he with h | h
        · obtain ⟨h5, h6⟩ := hq e h
          refine ⟨h5, ?_⟩
          rw [upd_ne (fun z => by rw [z, hg4] at h6; cases h6)]
          exact k5.1 _ _ (fun z => by rw [z, hd4] at h6; cases h6) h6
        · rw [List.mem_singleton.mp h]
          refine ⟨wa, ?_⟩
          have npg : p ≠ g := fun z => by rw [z, hg5] at hp5; cases hp5
          show upd H5 g _ p = _
          rw [upd_ne npg]
          exact hp5
      · rw [upd_ne (ne_of_none e hg)]
        exact (k4.trans k5).1 b o hb e
      · obtain ⟨x6, y6, z6, h6⟩ := k5.2
        exact ⟨x6, y6, z6, by rw [upd_ne ngd.symm]; exact h6⟩
      · rw [upd_same, List.map_append]
        rfl
    · intro H4 p4
      obtain ⟨qs, hql, hq, k4, hg4⟩ := (hP2 _ _).mp p4
      obtain ⟨⟨p1, A⟩, ⟨p2, B'⟩, ⟨p3, C'⟩, rfl⟩ : ∃ a b c, qs = [a, b, c] := by
        match qs, hql with
        | [a, b, c], _ => exact ⟨a, b, c, rfl⟩
      obtain ⟨wa, hp1⟩ := hq (p1, A) (by simp)
      obtain ⟨wb, hp2⟩ := hq (p2, B') (by simp)
      obtain ⟨wc, hp3⟩ := hq (p3, C') (by simp)
      clear hq p4
      have h24 : n ≤ 24 := Nat.le_trans h4 (by decide)
      have nf := D.Square.nf
      dsimp only at wa wb wc hp1 hp2 hp3
      have kH : DK d H H4 := k1.trans k4
      walk_at "rd"
      refine ⟨_, SqL.of hg4, rfl, ?_⟩
      walk_at "rd"
      walk_at "go"
      refine mk_sq hp1 h1 h24 wa fun x1 H5 e5 hx1 => ?_
      walk_at "rd"
      refine mk_sq (e5 _ _ hp2) h1 h24 wb fun x2 H6 e6 hx2 => ?_
      refine rd_mul (hx1.same e6) hx2 fun l H7 e7 hl => ?_
      have e47 := (e5.trans e6).trans e7
      refine mk_sq (e47 _ _ hp2) h1 h24 wb fun x3 H8 e8 hx3 => ?_
      refine mk_sq ((e47.trans e8) _ _ hp3) h1 h24 wc fun x4 H9 e9 hx4 => ?_
      refine rd_mul (hx3.same e9) hx4 fun m H10 e10 hm => ?_
      have e410 := (e47.trans e8).trans (e9.trans e10)
      have e710 := e8.trans (e9.trans e10)
      have hl10 := hl.same e710
      walk_at "go"
      obtain ⟨dl, rl, hsl, hrl, _⟩ := id hl10
      refine ⟨dl, _, hsl, l, dl, rl, rfl, hsl, ?_⟩
      refine ⟨.ref p1, .ref p2, n, A, B', rfl, ⟨p1, rfl, e410 _ _ hp1⟩, ⟨p2, rfl, e410 _ _ hp2⟩, h24, wa, wb, fun p5 H11 e11 h5 => ?_⟩
      refine SQ.ne_rowsT (SqT.of (e11 _ _ hrl)) (SqT.of h5) (SQ.mul_wf _ _) (SQ.mul_wf _ _) fun b hb => ?_
      obtain rfl : b = false := hb.mpr fun _ _ _ _ => rfl
      clear hb
      walk_at "rd"
      have e411 := e410.trans e11
      refine mk_sq (e411 _ _ hp3) h1 h24 wc fun x6 H12 e12 hx6 => ?_
      refine rd_mul (hl10.same (e11.trans e12)) hx6 fun u H13 e13 hu => ?_
      have e413 := (e411.trans e12).trans e13
      refine mk_sq (e413 _ _ hp1) h1 h24 wa fun x7 H14 e14 hx7 => ?_
      refine rd_mul hx7 (hm.same ((e11.trans (e12.trans e13)).trans e14)) fun t H15 e15 ht => ?_
      refine rd_ne nf (hu.same (e14.trans e15)) ht fun c hc => ?_
      obtain rfl : c = false := hc.mpr fun i j _ _ => by rw [SQ.mul_assoc]
      clear hc
      have e415 := e413.trans (e14.trans e15)
      walk_at "rd"
      walk_at "go"
      walk_at "go"
      refine ⟨.ref p1, n, A, rfl, ⟨p1, rfl, e415 _ _ hp1⟩, h4, wa, fun v E' H16 e16 hv wE hE => ?_⟩
      refine ⟨v, n, E', rfl, hv, h1, h4, wE, hE, fun H17 e17 => ?_⟩
      walk_at "rd"
      have e417 := e415.trans (e16.trans e17)
      refine ⟨.ref p2, .ref p3, n, B', C', rfl, ⟨p2, rfl, e417 _ _ hp2⟩, ⟨p3, rfl, e417 _ _ hp3⟩, h24, wb, wc, fun p6 H18 e18 h6 => ?_⟩
      refine ⟨.ref p6, n, _, rfl, ⟨p6, rfl, h6⟩, h4, SQ.mul_wf _ _, fun v2 E2 H19 e19 hv2 wE2 hE2 => ?_⟩
      exact ⟨v2, n, E2, rfl, hv2, h1, h4, wE2, hE2, fun H20 e20 => q H20 (kH.same (e417.trans (e18.trans (e19.trans e20))))⟩
/-! ### the law -/
def spLaw (K : PySem.W.Frag) : Sp := fun vs H Q _ => ∃ (a : Addr) (ns : List Int), vs = [.ref a] ∧ SqL K H a (ns.map V.int) ∧ ns.length ≤ 63 ∧ ∀ H', Q (.bl true) H'
end
section
variable {P : Program} {w : World} {K : PySem.W.Frag} {mg : Str → Option Value} {base : Heap} {Z : Ad}
def mat (l : List (List Nat)) : SQ.Sq := fun i j => (l.getD i []).getD j 3
/-- the squares that are written in the law, and the texts of their repeats -/
def tab : List (Nat × List (List Nat) × Str) := [(1, [[1]], "n"), (2, [[1, 0], [3, 0]], "n0/.0"), (2, [[1, 3], [3, 1]], "n./.n"), (2, [[0, 2], [3, 0]], "0n/.0"), (2, [[0, 1], [3, 1]], "01/.n")]
theorem tab_ok : ∀ e, e ∈ tab → 1 ≤ e.1 ∧ e.1 ≤ 4 ∧ SQ.Wf e.1 (mat e.2.1) ∧ Stb e.1 (mat e.2.1) ∧ Txt.join "/" ((List.range e.1).map fun i => SQ.rowStr e.1 (SQ.rep e.1 (mat e.2.1)) i) = e.2.2 := by
  have h : tab.all (fun e => decide (1 ≤ e.1) && decide (e.1 ≤ 4) && (List.range e.1).all (fun i => (List.range e.1).all fun j => decide (mat e.2.1 i j ≤ 3) && decide (SQ.mul e.1 (mat e.2.1) (mat e.2.1) i j = mat e.2.1 i j)) && decide (Txt.join "/" ((List.range e.1).map fun i => SQ.rowStr e.1 (SQ.rep e.1 (mat e.2.1)) i) = e.2.2)) = true := by decide +kernel
  intro e he
  have z := List.all_eq_true.mp h e he
  simp only [Bool.and_eq_true, decide_eq_true_eq, List.all_eq_true, List.mem_range] at z
  obtain ⟨⟨⟨h1, h2⟩, h3⟩, h4⟩ := z
  exact ⟨h1, h2, fun i j hi hj => (h3 i hi j hj).1, fun i j hi hj => (h3 i hi j hj).2, h4⟩
theorem ok_law (D : Ds K mg Z) (B : Bt mg) (C0 : Cs mg) : FnG P w K mg base CX0 8 Z.a_law Z.d_law P_law (spLaw K) := by
  have G_dice := ok_dice (P := P) (w := w) (base := base) D B
  have G_right := ok_right (P := P) (w := w) (base := base) D B C0
  have G_Square___init__ := ok_Square___init__ (P := P) (w := w) (base := base) D B C0
  have G_Square_repeated := ok_Square_repeated (P := P) (w := w) (base := base) D B C0
  have G_Square___str__ := ok_Square___str__ (P := P) (w := w) (base := base) D B C0
  obtain ⟨⟨t_SIGNS, c_SIGNS⟩, ⟨t_LITTLE, c_LITTLE⟩, ⟨t_GROWING, c_GROWING⟩, ⟨t_MAX_SIZE, c_MAX_SIZE⟩⟩ := C0
  refine okG D.law.F sc_law (fun vs H Q E h => ?_) (fun cdv A outer s H vs Q E gd hr h => ?_)
  · obtain ⟨a, ns, rfl, _⟩ := h
    rfl
  · obtain ⟨a, ns, rfl, hS, hlen, q⟩ := h
    refine ⟨_, (pss_cons (ps_for PassesOwn.never rfl (pi_range1 (by rfl) B.range (pa_cons (pe_callB (call_max2 rfl) (by rfl) B.max (by decide +kernel) (pa_cons pe_int (pa_cons (pe_callB (call_min2 rfl) (by rfl) B.min (by decide +kernel) (pa_cons pe_int (pa_cons (pe_callB (call_lenK (K := K) rfl) (by rfl) B.len (by decide +kernel) (pa_cons (pv 0) pa_nil)) pa_nil))) pa_nil))) pa_nil)) (pg_name (i := 1) sc_law.nd rfl (Or.inl rfl))
      (pss_cons (ps_set (i := 2) sc_law.nd rfl (Or.inl rfl) (pe_df D.dice G_dice (hr.mono (by decide)) (by rfl) (pa_cons (pv 0) (pa_cons (pv 1) pa_nil))))
    (pss_one (ps_for PassesOwn.never rfl (pi_range1 (by rfl) B.range (pa_cons pe_int pa_nil)) (pg_name (i := 3) sc_law.nd rfl (Or.inl rfl))
      (pss_one (ps_if (pt_not (pt_val (pe_df D.right G_right (hr.mono (by decide)) (by rfl) (pa_cons (pv 2) pa_nil)))) (pss_one (ps_ret pe_bl)) pss_nil))))))
    (pss_cons (ps_setLc (i := 4) (own := [("_law_rows", 5)]) (g := gName 5) rfl sc_law.nd rfl rfl (sw_true rfl rfl rfl (by decide +kernel)) (pi_listK (K := K) rfl (pe_lst (pa_cons (pe_tup (pa_cons pe_str pa_nil)) (pa_cons (pe_tup (pa_cons pe_str (pa_cons pe_str pa_nil))) (pa_cons (pe_tup (pa_cons pe_str (pa_cons pe_str pa_nil))) (pa_cons (pe_tup (pa_cons pe_str (pa_cons pe_str pa_nil))) (pa_cons (pe_tup (pa_cons pe_str (pa_cons pe_str pa_nil))) pa_nil))))))) (blkOk_by (N := N_law) (sc := defScope s_law) (by decide +kernel)) (fun _ _ _ _ _ => (pg_name (i := 5) sc_law.nd rfl (Or.inl rfl))) (fun _ _ _ _ _ => pts_nil) (fun _ _ _ _ _ => (pe_callTy (call_strS D.Square___str__ G_Square___str__ (hr.mono (by decide))) (by rfl) B.str (by decide +kernel) (pa_cons (pe_mt0 D.Square D.Square_repeated G_Square_repeated (hr.mono (by decide)) (pe_mkS D.Square D.Square___init__ G_Square___init__ (hr.mono (by decide)) (by rfl) (pa_cons (pv 5) pa_nil))) pa_nil))))
    (pss_one (ps_ret (pe_cmpR (op_eqK (K := K) rfl hr.units) (pv 4) (pe_lst (pa_cons pe_str (pa_cons pe_str (pa_cons pe_str (pa_cons pe_str (pa_cons pe_str pa_nil)))))) (nomark _)))))), ?_⟩
    walk_at "rd"
    refine ⟨_, .inl hS, ?_⟩
    have hm : ∀ k : Nat, (1 : Int) ≤ (if (if (k : Int) < 5 then (k : Int) else 5) > 1 then if (k : Int) < 5 then (k : Int) else 5 else 1) ∧ (if (if (k : Int) < 5 then (k : Int) else 5) > 1 then if (k : Int) < 5 then (k : Int) else 5 else 1) ≤ 5 := by
      intro k
      split <;> split <;> omega
    obtain ⟨m0, m1⟩ := hm (ns.map V.int).length
    generalize (if (if ((ns.map V.int).length : Int) < 5 then ((ns.map V.int).length : Int) else 5) > 1 then if ((ns.map V.int).length : Int) < 5 then ((ns.map V.int).length : Int) else 5 else 1) = m at m0 m1 ⊢
    refine ⟨by omega, by omega, ?_⟩
    obtain ⟨Pv, hP⟩ := inv_bi (fun (i : Nat) (σ : St) (H' : Hp) => ∃ (o1 o2 o3 o4 o5 : Option V), σ = [some (.ref a), o1, o2, o3, o4, o5] ∧ Same H H')
    refine loop_range Pv ((hP _ _ _).mpr ⟨_, _, _, _, _, rfl, Same.refl H⟩) ?_ ?_
    · intro i σ H1 hi hp
      obtain ⟨o1, o2, o3, o4, o5, rfl, e1⟩ := (hP _ _ _).mp hp
      clear hp
      walk_at "rd"
      walk_at "go"
      refine ⟨a, ns, i, rfl, e1.seq hS, fun d x y hd => ?_⟩
      have hd0 : H d = none := e1.free hd
      have e2 := e1.trans (Same.new (o := HO.lst [.int x, .int y, .int 0]) hd)
      have hd2 : upd H1 d (HO.lst [.int x, .int y, .int 0]) d = some (.lst [.int x, .int y, .int 0]) := upd_same
      generalize upd H1 d (HO.lst [.int x, .int y, .int 0]) = H2 at e2 hd2 ⊢
      walk_at "rd"
      walk_at "go"
      refine ⟨by decide, by decide, ?_⟩
      obtain ⟨P2, hP2⟩ := inv_bi (fun (j : Nat) (σ : St) (H' : Hp) => ∃ (o3 o4 o5 : Option V), σ = [some (.ref a), some (.int (i : Int)), some (.ref d), o3, o4, o5] ∧ Same H H' ∧ ∃ x y z : Int, H' d = some (.lst [.int x, .int y, .int z]))
      refine loop_range P2 ((hP2 _ _ _).mpr ⟨_, _, _, rfl, e2, x, y, 0, hd2⟩) ?_ ?_
      · intro j σ H3 hj hp3
        obtain ⟨o3, o4, o5, rfl, e3, x3, y3, z3, hd3⟩ := (hP2 _ _ _).mp hp3
        clear hp3
        walk_at "rd"
        walk_at "go"
        refine ⟨d, x3, y3, z3, rfl, hd3, fun H4 k4 => ?_⟩
        walk_at "rd"
        walk_at "go"
        exact (hP2 _ _ _).mpr ⟨_, _, _, rfl, fun b o e => k4.1 b o (ne_of_none e hd0) (e3 _ _ e), k4.2⟩
      · intro σ H3 hp3
        obtain ⟨o3, o4, o5, rfl, e3, _⟩ := (hP2 _ _ _).mp hp3
        exact (hP _ _ _).mpr ⟨_, _, _, _, _, rfl, e3⟩
    · intro σ H1 hp
      obtain ⟨o1, o2, o3, o4, o5, rfl, e1⟩ := (hP _ _ _).mp hp
      walk_at "go"
      walk_at "go"
      refine ⟨by decide, fun t0 n0 => ?_⟩
      have f0 := Same.new (o := HO.tup [V.str (Str.ofString "1")]) n0
      have g0 : upd H1 t0 (HO.tup [V.str (Str.ofString "1")]) t0 = some (HO.tup [V.str (Str.ofString "1")]) := upd_same
      generalize upd H1 t0 (HO.tup [V.str (Str.ofString "1")]) = J0 at f0 g0 ⊢
      refine ⟨by decide, fun t1 n1 => ?_⟩
      have f1 := Same.new (o := HO.tup [V.str (Str.ofString "10"), V.str (Str.ofString ".0")]) n1
      have g1 : upd J0 t1 (HO.tup [V.str (Str.ofString "10"), V.str (Str.ofString ".0")]) t1 = some (HO.tup [V.str (Str.ofString "10"), V.str (Str.ofString ".0")]) := upd_same
      replace g0 := f1 _ _ g0
      generalize upd J0 t1 (HO.tup [V.str (Str.ofString "10"), V.str (Str.ofString ".0")]) = J1 at f1 g0 g1 ⊢
      refine ⟨by decide, fun t2 n2 => ?_⟩
      have f2 := Same.new (o := HO.tup [V.str (Str.ofString "1."), V.str (Str.ofString ".1")]) n2
      have g2 : upd J1 t2 (HO.tup [V.str (Str.ofString "1."), V.str (Str.ofString ".1")]) t2 = some (HO.tup [V.str (Str.ofString "1."), V.str (Str.ofString ".1")]) := upd_same
      replace g0 := f2 _ _ g0
      replace g1 := f2 _ _ g1
      generalize upd J1 t2 (HO.tup [V.str (Str.ofString "1."), V.str (Str.ofString ".1")]) = J2 at f2 g0 g1 g2 ⊢
      refine ⟨by decide, fun t3 n3 => ?_⟩
      have f3 := Same.new (o := HO.tup [V.str (Str.ofString "0n"), V.str (Str.ofString ".0")]) n3
      have g3 : upd J2 t3 (HO.tup [V.str (Str.ofString "0n"), V.str (Str.ofString ".0")]) t3 = some (HO.tup [V.str (Str.ofString "0n"), V.str (Str.ofString ".0")]) := upd_same
      replace g0 := f3 _ _ g0
      replace g1 := f3 _ _ g1
      replace g2 := f3 _ _ g2
      generalize upd J2 t3 (HO.tup [V.str (Str.ofString "0n"), V.str (Str.ofString ".0")]) = J3 at f3 g0 g1 g2 g3 ⊢
      refine ⟨by decide, fun t4 n4 => ?_⟩
      have f4 := Same.new (o := HO.tup [V.str (Str.ofString "01"), V.str (Str.ofString ".1")]) n4
      have g4 : upd J3 t4 (HO.tup [V.str (Str.ofString "01"), V.str (Str.ofString ".1")]) t4 = some (HO.tup [V.str (Str.ofString "01"), V.str (Str.ofString ".1")]) := upd_same
      replace g0 := f4 _ _ g0
      replace g1 := f4 _ _ g1
      replace g2 := f4 _ _ g2
      replace g3 := f4 _ _ g3
      generalize upd J3 t4 (HO.tup [V.str (Str.ofString "01"), V.str (Str.ofString ".1")]) = J4 at f4 g0 g1 g2 g3 g4 ⊢
      refine ⟨by decide, fun L nL => ?_⟩
      have fL := Same.new (o := HO.lst [V.ref t0, V.ref t1, V.ref t2, V.ref t3, V.ref t4]) nL
      have gL : upd J4 L (HO.lst [V.ref t0, V.ref t1, V.ref t2, V.ref t3, V.ref t4]) L = some (HO.lst [V.ref t0, V.ref t1, V.ref t2, V.ref t3, V.ref t4]) := upd_same
      replace g0 := fL _ _ g0
      replace g1 := fL _ _ g1
      replace g2 := fL _ _ g2
      replace g3 := fL _ _ g3
      replace g4 := fL _ _ g4
      generalize upd J4 L (HO.lst [V.ref t0, V.ref t1, V.ref t2, V.ref t3, V.ref t4]) = J5 at fL gL g0 g1 g2 g3 g4 ⊢
      refine ⟨⟨_, SqL.of gL⟩, ?_⟩
      have at5 : ∀ (i : Nat) (v : V), [V.ref t0, V.ref t1, V.ref t2, V.ref t3, V.ref t4][i]? = some v → ∃ e p, tab[i]? = some e ∧ v = .ref p ∧ J5 p = some (.tup (SQ.rowsL e.1 (mat e.2.1))) := fun i v ev => by
        match i, ev with
        | 0, ev => cases ev; exact ⟨_, _, rfl, rfl, g0⟩
        | 1, ev => cases ev; exact ⟨_, _, rfl, rfl, g1⟩
        | 2, ev => cases ev; exact ⟨_, _, rfl, rfl, g2⟩
        | 3, ev => cases ev; exact ⟨_, _, rfl, rfl, g3⟩
        | 4, ev => cases ev; exact ⟨_, _, rfl, rfl, g4⟩
      refine lc_val walk_list (fun i => .str (tab.getD i (0, [], "")).2.2) (fun H2 e2 => SqL.of (e2 _ _ gL)) (by show 5 ≤ 1000000; decide) ?_ ?_
      · rintro i v H2 _ hi e2 ⟨rfl, ev⟩ R hR
        obtain ⟨e, p, he, rfl, hp⟩ := at5 i v ev
        have eg : tab.getD i (0, [], "") = e := by rw [List.getD_eq_getElem?_getD, he]; rfl
        rw [eg] at hR
        obtain ⟨h1, h4, wf, hst, htx⟩ := tab_ok e (List.mem_of_getElem? he)
        have h24 : e.1 ≤ 24 := Nat.le_trans h4 (by decide)
        walk_at "rd"
        refine mk_sq (e2 _ _ hp) h1 h24 wf fun x H3 e3 hx => ?_
        obtain ⟨dx, r, hs, hrw, _⟩ := id hx
        refine ⟨dx, _, hs, x, e.1, _, rfl, hx, hst, fun y H4 e4 hy => ?_⟩
        obtain ⟨dy, r2, hs2, _⟩ := id hy
        refine ⟨y, rfl, dy, _, hs2, y, e.1, _, rfl, hy, _, rfl, ?_⟩
        rw [htx]
        exact hR _ (e3.trans e4)
      · intro p2 H2 hp2 e2 hl2
        walk_at "go"
        refine ⟨by decide, fun L2 n2 => ?_⟩
        have f2 := Same.new (o := HO.lst [V.str (Str.ofString "n"), V.str (Str.ofString "n0/.0"), V.str (Str.ofString "n./.n"), V.str (Str.ofString "0n/.0"), V.str (Str.ofString "01/.n")]) n2
        refine SQ.eq_strL (l := [Str.ofString "n", Str.ofString "n0/.0", Str.ofString "n./.n", Str.ofString "0n/.0", Str.ofString "01/.n"]) (m := [Str.ofString "n", Str.ofString "n0/.0", Str.ofString "n./.n", Str.ofString "0n/.0", Str.ofString "01/.n"]) (SqL.of (f2 _ _ hl2)) (SqL.of upd_same) (by decide +kernel) (by decide +kernel) ?_
        rw [decide_eq_true rfl]
        exact q _
end

/-! ### what the top has written -/
theorem all_mk {l : PySem.W.OpenLaw} {w : World} {K : PySem.W.Frag} {h : Heap} {mg : Str → Option Value} {fa : Addr} (X : K.In h) (G : h.Ns mainGlobals mg) (hfa : mg "law" = some (.ref fa))
    {f1 f2 f3 f4 f5 f6 f7 f8 f9 f10 f11 f12 f13 f14 f15 f16 f17 f18 f19 f20 f21 : Addr} {od1 an1 od2 an2 od3 an3 od4 an4 od5 an5 od6 an6 od7 an7 od8 an8 od9 an9 od10 an10 od11 an11 od12 an12 od13 an13 od14 an14 od15 an15 od16 an16 od17 an17 od18 an18 od19 an19 od20 an20 od21 an21 : Option Addr} {sl1 sl2 sl3 sl4 sl5 sl6 sl7 sl8 sl9 sl10 sl11 sl12 sl13 sl14 sl15 sl16 sl17 sl18 sl19 sl20 sl21 : Array (Option Value)}
    {oc1 kV1 dc1 pm1 cd1 ct1 oc2 kV2 dc2 pm2 cd2 ct2 oc3 kV3 dc3 pm3 cd3 ct3 oc4 kV4 dc4 pm4 cd4 ct4 oc5 kV5 dc5 pm5 cd5 ct5 oc6 kV6 dc6 pm6 cd6 ct6 oc7 kV7 dc7 pm7 cd7 ct7 oc8 kV8 dc8 pm8 cd8 ct8 oc9 kV9 dc9 pm9 cd9 ct9 oc10 kV10 dc10 pm10 cd10 ct10 oc11 kV11 dc11 pm11 cd11 ct11 oc12 kV12 dc12 pm12 cd12 ct12 oc13 kV13 dc13 pm13 cd13 ct13 oc14 kV14 dc14 pm14 cd14 ct14 oc15 kV15 dc15 pm15 cd15 ct15 oc16 kV16 dc16 pm16 cd16 ct16 oc17 kV17 dc17 pm17 cd17 ct17 oc18 kV18 dc18 pm18 cd18 ct18 oc19 kV19 dc19 pm19 cd19 ct19 oc20 kV20 dc20 pm20 cd20 ct20 oc21 kV21 dc21 pm21 cd21 ct21 : Value} {t_SIGNS t_LITTLE t_GROWING t_MAX_SIZE : Tok}
    (a1 : PySem.W.nsIn K mainGlobals "is_sign" = some (some (.ref f1)))
    (l1 : K.lookup f1 = some ⟨oc1, od1, .func (PySem.W.fnOf "is_sign" "is_sign" (defArgs s_is_sign) (defBody s_is_sign) (defScope s_is_sign) .none kV1 dc1 pm1 an1 cd1 ct1), sl1⟩)
    (c1 : PySem.W.codeIn K cd1 "is_sign" = true) (k1 : PySem.W.keepIn K (.ref f1) = true)
    (a2 : PySem.W.nsIn K mainGlobals "require_signs" = some (some (.ref f2)))
    (l2 : K.lookup f2 = some ⟨oc2, od2, .func (PySem.W.fnOf "require_signs" "require_signs" (defArgs s_require_signs) (defBody s_require_signs) (defScope s_require_signs) .none kV2 dc2 pm2 an2 cd2 ct2), sl2⟩)
    (c2 : PySem.W.codeIn K cd2 "require_signs" = true) (k2 : PySem.W.keepIn K (.ref f2) = true)
    (a3 : PySem.W.nsIn K mainGlobals "least_sign" = some (some (.ref f3)))
    (l3 : K.lookup f3 = some ⟨oc3, od3, .func (PySem.W.fnOf "least_sign" "least_sign" (defArgs s_least_sign) (defBody s_least_sign) (defScope s_least_sign) .none kV3 dc3 pm3 an3 cd3 ct3), sl3⟩)
    (c3 : PySem.W.codeIn K cd3 "least_sign" = true) (k3 : PySem.W.keepIn K (.ref f3) = true)
    (a4 : PySem.W.nsIn K mainGlobals "are_rows" = some (some (.ref f4)))
    (l4 : K.lookup f4 = some ⟨oc4, od4, .func (PySem.W.fnOf "are_rows" "are_rows" (defArgs s_are_rows) (defBody s_are_rows) (defScope s_are_rows) .none kV4 dc4 pm4 an4 cd4 ct4), sl4⟩)
    (c4 : PySem.W.codeIn K cd4 "are_rows" = true) (k4 : PySem.W.keepIn K (.ref f4) = true)
    (a5 : PySem.W.nsIn K mainGlobals "ranks_of" = some (some (.ref f5)))
    (l5 : K.lookup f5 = some ⟨oc5, od5, .func (PySem.W.fnOf "ranks_of" "ranks_of" (defArgs s_ranks_of) (defBody s_ranks_of) (defScope s_ranks_of) .none kV5 dc5 pm5 an5 cd5 ct5), sl5⟩)
    (c5 : PySem.W.codeIn K cd5 "ranks_of" = true) (k5 : PySem.W.keepIn K (.ref f5) = true)
    (a6 : PySem.W.nsIn K mainGlobals "rows_of" = some (some (.ref f6)))
    (l6 : K.lookup f6 = some ⟨oc6, od6, .func (PySem.W.fnOf "rows_of" "rows_of" (defArgs s_rows_of) (defBody s_rows_of) (defScope s_rows_of) .none kV6 dc6 pm6 an6 cd6 ct6), sl6⟩)
    (c6 : PySem.W.codeIn K cd6 "rows_of" = true) (k6 : PySem.W.keepIn K (.ref f6) = true)
    (a7 : PySem.W.nsIn K mainGlobals "product_of" = some (some (.ref f7)))
    (l7 : K.lookup f7 = some ⟨oc7, od7, .func (PySem.W.fnOf "product_of" "product_of" (defArgs s_product_of) (defBody s_product_of) (defScope s_product_of) .none kV7 dc7 pm7 an7 cd7 ct7), sl7⟩)
    (c7 : PySem.W.codeIn K cd7 "product_of" = true) (k7 : PySem.W.keepIn K (.ref f7) = true)
    (a8 : PySem.W.nsIn K mainGlobals "repeat_of" = some (some (.ref f8)))
    (l8 : K.lookup f8 = some ⟨oc8, od8, .func (PySem.W.fnOf "repeat_of" "repeat_of" (defArgs s_repeat_of) (defBody s_repeat_of) (defScope s_repeat_of) .none kV8 dc8 pm8 an8 cd8 ct8), sl8⟩)
    (c8 : PySem.W.codeIn K cd8 "repeat_of" = true) (k8 : PySem.W.keepIn K (.ref f8) = true)
    (a9 : PySem.W.nsIn K mainGlobals "_law_dice" = some (some (.ref f9)))
    (l9 : K.lookup f9 = some ⟨oc9, od9, .func (PySem.W.fnOf "_law_dice" "_law_dice" (defArgs s_dice) (defBody s_dice) (defScope s_dice) .none kV9 dc9 pm9 an9 cd9 ct9), sl9⟩)
    (c9 : PySem.W.codeIn K cd9 "_law_dice" = true) (k9 : PySem.W.keepIn K (.ref f9) = true)
    (a10 : PySem.W.nsIn K mainGlobals "_law_roll" = some (some (.ref f10)))
    (l10 : K.lookup f10 = some ⟨oc10, od10, .func (PySem.W.fnOf "_law_roll" "_law_roll" (defArgs s_roll) (defBody s_roll) (defScope s_roll) .none kV10 dc10 pm10 an10 cd10 ct10), sl10⟩)
    (c10 : PySem.W.codeIn K cd10 "_law_roll" = true) (k10 : PySem.W.keepIn K (.ref f10) = true)
    (a11 : PySem.W.nsIn K mainGlobals "_law_pick" = some (some (.ref f11)))
    (l11 : K.lookup f11 = some ⟨oc11, od11, .func (PySem.W.fnOf "_law_pick" "_law_pick" (defArgs s_pick) (defBody s_pick) (defScope s_pick) .none kV11 dc11 pm11 an11 cd11 ct11), sl11⟩)
    (c11 : PySem.W.codeIn K cd11 "_law_pick" = true) (k11 : PySem.W.keepIn K (.ref f11) = true)
    (a12 : PySem.W.nsIn K mainGlobals "_law_lesser" = some (some (.ref f12)))
    (l12 : K.lookup f12 = some ⟨oc12, od12, .func (PySem.W.fnOf "_law_lesser" "_law_lesser" (defArgs s_lesser) (defBody s_lesser) (defScope s_lesser) .none kV12 dc12 pm12 an12 cd12 ct12), sl12⟩)
    (c12 : PySem.W.codeIn K cd12 "_law_lesser" = true) (k12 : PySem.W.keepIn K (.ref f12) = true)
    (a13 : PySem.W.nsIn K mainGlobals "_law_greater" = some (some (.ref f13)))
    (l13 : K.lookup f13 = some ⟨oc13, od13, .func (PySem.W.fnOf "_law_greater" "_law_greater" (defArgs s_greater) (defBody s_greater) (defScope s_greater) .none kV13 dc13 pm13 an13 cd13 ct13), sl13⟩)
    (c13 : PySem.W.codeIn K cd13 "_law_greater" = true) (k13 : PySem.W.keepIn K (.ref f13) = true)
    (a14 : PySem.W.nsIn K mainGlobals "_law_product" = some (some (.ref f14)))
    (l14 : K.lookup f14 = some ⟨oc14, od14, .func (PySem.W.fnOf "_law_product" "_law_product" (defArgs s_product) (defBody s_product) (defScope s_product) .none kV14 dc14 pm14 an14 cd14 ct14), sl14⟩)
    (c14 : PySem.W.codeIn K cd14 "_law_product" = true) (k14 : PySem.W.keepIn K (.ref f14) = true)
    (a15 : PySem.W.nsIn K mainGlobals "_law_repeat" = some (some (.ref f15)))
    (l15 : K.lookup f15 = some ⟨oc15, od15, .func (PySem.W.fnOf "_law_repeat" "_law_repeat" (defArgs s_repeat_) (defBody s_repeat_) (defScope s_repeat_) .none kV15 dc15 pm15 an15 cd15 ct15), sl15⟩)
    (c15 : PySem.W.codeIn K cd15 "_law_repeat" = true) (k15 : PySem.W.keepIn K (.ref f15) = true)
    (a16 : PySem.W.nsIn K mainGlobals "_law_drawn_square" = some (some (.ref f16)))
    (l16 : K.lookup f16 = some ⟨oc16, od16, .func (PySem.W.fnOf "_law_drawn_square" "_law_drawn_square" (defArgs s_drawn_square) (defBody s_drawn_square) (defScope s_drawn_square) .none kV16 dc16 pm16 an16 cd16 ct16), sl16⟩)
    (c16 : PySem.W.codeIn K cd16 "_law_drawn_square" = true) (k16 : PySem.W.keepIn K (.ref f16) = true)
    (a17 : PySem.W.nsIn K mainGlobals "_law_stable_of" = some (some (.ref f17)))
    (l17 : K.lookup f17 = some ⟨oc17, od17, .func (PySem.W.fnOf "_law_stable_of" "_law_stable_of" (defArgs s_stable_of) (defBody s_stable_of) (defScope s_stable_of) .none kV17 dc17 pm17 an17 cd17 ct17), sl17⟩)
    (c17 : PySem.W.codeIn K cd17 "_law_stable_of" = true) (k17 : PySem.W.keepIn K (.ref f17) = true)
    (a18 : PySem.W.nsIn K mainGlobals "_law_no_less" = some (some (.ref f18)))
    (l18 : K.lookup f18 = some ⟨oc18, od18, .func (PySem.W.fnOf "_law_no_less" "_law_no_less" (defArgs s_no_less) (defBody s_no_less) (defScope s_no_less) .none kV18 dc18 pm18 an18 cd18 ct18), sl18⟩)
    (c18 : PySem.W.codeIn K cd18 "_law_no_less" = true) (k18 : PySem.W.keepIn K (.ref f18) = true)
    (a19 : PySem.W.nsIn K mainGlobals "_law_repeats_right" = some (some (.ref f19)))
    (l19 : K.lookup f19 = some ⟨oc19, od19, .func (PySem.W.fnOf "_law_repeats_right" "_law_repeats_right" (defArgs s_repeats_right) (defBody s_repeats_right) (defScope s_repeats_right) .none kV19 dc19 pm19 an19 cd19 ct19), sl19⟩)
    (c19 : PySem.W.codeIn K cd19 "_law_repeats_right" = true) (k19 : PySem.W.keepIn K (.ref f19) = true)
    (a20 : PySem.W.nsIn K mainGlobals "_law_right" = some (some (.ref f20)))
    (l20 : K.lookup f20 = some ⟨oc20, od20, .func (PySem.W.fnOf "_law_right" "_law_right" (defArgs s_right) (defBody s_right) (defScope s_right) .none kV20 dc20 pm20 an20 cd20 ct20), sl20⟩)
    (c20 : PySem.W.codeIn K cd20 "_law_right" = true) (k20 : PySem.W.keepIn K (.ref f20) = true)
    (a21 : PySem.W.nsIn K mainGlobals "law" = some (some (.ref f21)))
    (l21 : K.lookup f21 = some ⟨oc21, od21, .func (PySem.W.fnOf "law" "law" (defArgs s_law) (defBody s_law) (defScope s_law) .none kV21 dc21 pm21 an21 cd21 ct21), sl21⟩)
    (c21 : PySem.W.codeIn K cd21 "law" = true) (k21 : PySem.W.keepIn K (.ref f21) = true)
    {cc_Square : Addr} (ca_Square : PySem.W.nsIn K mainGlobals "Square" = some (some (.ref cc_Square))) (cx_Square : obB K cc_Square = true)
    {mf_Square___init__ : Addr} {mod_Square___init__ man_Square___init__ : Option Addr} {msl_Square___init__ : Array (Option Value)} {moc_Square___init__ mkV_Square___init__ mdc_Square___init__ mpm_Square___init__ mcd_Square___init__ mct_Square___init__ : Value}
    (ma_Square___init__ : PySem.W.findIn K (.ref cc_Square) "__init__" = some (some (.ref mf_Square___init__))) (mi_Square___init__ : PySem.W.isFn K (.ref mf_Square___init__) = true)
    (ml_Square___init__ : K.lookup mf_Square___init__ = some ⟨moc_Square___init__, mod_Square___init__, .func (PySem.W.fnOf "__init__" "Square.__init__" (defArgs s_Square___init__) (defBody s_Square___init__) (defScope s_Square___init__) .none mkV_Square___init__ mdc_Square___init__ mpm_Square___init__ man_Square___init__ mcd_Square___init__ mct_Square___init__), msl_Square___init__⟩)
    (md_Square___init__ : PySem.W.codeIn K mcd_Square___init__ "Square.__init__" = true) (mk_Square___init__ : PySem.W.keepIn K (.ref mf_Square___init__) = true)
    {mf_Square_repeated : Addr} {mod_Square_repeated man_Square_repeated : Option Addr} {msl_Square_repeated : Array (Option Value)} {moc_Square_repeated mkV_Square_repeated mdc_Square_repeated mpm_Square_repeated mcd_Square_repeated mct_Square_repeated : Value}
    (ma_Square_repeated : PySem.W.findIn K (.ref cc_Square) "repeated" = some (some (.ref mf_Square_repeated))) (mi_Square_repeated : PySem.W.isFn K (.ref mf_Square_repeated) = true)
    (ml_Square_repeated : K.lookup mf_Square_repeated = some ⟨moc_Square_repeated, mod_Square_repeated, .func (PySem.W.fnOf "repeated" "Square.repeated" (defArgs s_Square_repeated) (defBody s_Square_repeated) (defScope s_Square_repeated) .none mkV_Square_repeated mdc_Square_repeated mpm_Square_repeated man_Square_repeated mcd_Square_repeated mct_Square_repeated), msl_Square_repeated⟩)
    (md_Square_repeated : PySem.W.codeIn K mcd_Square_repeated "Square.repeated" = true) (mk_Square_repeated : PySem.W.keepIn K (.ref mf_Square_repeated) = true)
    {mf_Square___mul__ : Addr} {mod_Square___mul__ man_Square___mul__ : Option Addr} {msl_Square___mul__ : Array (Option Value)} {moc_Square___mul__ mkV_Square___mul__ mdc_Square___mul__ mpm_Square___mul__ mcd_Square___mul__ mct_Square___mul__ : Value}
    (ma_Square___mul__ : PySem.W.findIn K (.ref cc_Square) "__mul__" = some (some (.ref mf_Square___mul__))) (mi_Square___mul__ : PySem.W.isFn K (.ref mf_Square___mul__) = true)
    (ml_Square___mul__ : K.lookup mf_Square___mul__ = some ⟨moc_Square___mul__, mod_Square___mul__, .func (PySem.W.fnOf "__mul__" "Square.__mul__" (defArgs s_Square___mul__) (defBody s_Square___mul__) (defScope s_Square___mul__) .none mkV_Square___mul__ mdc_Square___mul__ mpm_Square___mul__ man_Square___mul__ mcd_Square___mul__ mct_Square___mul__), msl_Square___mul__⟩)
    (md_Square___mul__ : PySem.W.codeIn K mcd_Square___mul__ "Square.__mul__" = true) (mk_Square___mul__ : PySem.W.keepIn K (.ref mf_Square___mul__) = true)
    {mf_Square___eq__ : Addr} {mod_Square___eq__ man_Square___eq__ : Option Addr} {msl_Square___eq__ : Array (Option Value)} {moc_Square___eq__ mkV_Square___eq__ mdc_Square___eq__ mpm_Square___eq__ mcd_Square___eq__ mct_Square___eq__ : Value}
    (ma_Square___eq__ : PySem.W.findIn K (.ref cc_Square) "__eq__" = some (some (.ref mf_Square___eq__))) (mi_Square___eq__ : PySem.W.isFn K (.ref mf_Square___eq__) = true)
    (ml_Square___eq__ : K.lookup mf_Square___eq__ = some ⟨moc_Square___eq__, mod_Square___eq__, .func (PySem.W.fnOf "__eq__" "Square.__eq__" (defArgs s_Square___eq__) (defBody s_Square___eq__) (defScope s_Square___eq__) .none mkV_Square___eq__ mdc_Square___eq__ mpm_Square___eq__ man_Square___eq__ mcd_Square___eq__ mct_Square___eq__), msl_Square___eq__⟩)
    (md_Square___eq__ : PySem.W.codeIn K mcd_Square___eq__ "Square.__eq__" = true) (mk_Square___eq__ : PySem.W.keepIn K (.ref mf_Square___eq__) = true)
    {mf_Square___str__ : Addr} {mod_Square___str__ man_Square___str__ : Option Addr} {msl_Square___str__ : Array (Option Value)} {moc_Square___str__ mkV_Square___str__ mdc_Square___str__ mpm_Square___str__ mcd_Square___str__ mct_Square___str__ : Value}
    (ma_Square___str__ : PySem.W.findIn K (.ref cc_Square) "__str__" = some (some (.ref mf_Square___str__))) (mi_Square___str__ : PySem.W.isFn K (.ref mf_Square___str__) = true)
    (ml_Square___str__ : K.lookup mf_Square___str__ = some ⟨moc_Square___str__, mod_Square___str__, .func (PySem.W.fnOf "__str__" "Square.__str__" (defArgs s_Square___str__) (defBody s_Square___str__) (defScope s_Square___str__) .none mkV_Square___str__ mdc_Square___str__ mpm_Square___str__ man_Square___str__ mcd_Square___str__ mct_Square___str__), msl_Square___str__⟩)
    (md_Square___str__ : PySem.W.codeIn K mcd_Square___str__ "Square.__str__" = true) (mk_Square___str__ : PySem.W.keepIn K (.ref mf_Square___str__) = true)
    {mf_Square_rows : Addr} {mod_Square_rows man_Square_rows : Option Addr} {msl_Square_rows : Array (Option Value)} {moc_Square_rows mkV_Square_rows mdc_Square_rows mpm_Square_rows mcd_Square_rows mct_Square_rows : Value}
    {mp_Square_rows : Addr} {mr_Square_rows : List Value} (ma_Square_rows : PySem.W.findIn K (.ref cc_Square) "rows" = some (some (.ref mp_Square_rows))) (mg_Square_rows : PySem.W.specialIn K (.ref mp_Square_rows) "__get__" = some (some (.builtin "property.__get__")))
    (mt_Square_rows : PySem.W.takesIn K (.ref mp_Square_rows) = some true) (mc_Square_rows : PySem.W.recIn K mp_Square_rows "property" = some (.ref mf_Square_rows :: mr_Square_rows))
    (ml_Square_rows : K.lookup mf_Square_rows = some ⟨moc_Square_rows, mod_Square_rows, .func (PySem.W.fnOf "rows" "Square.rows" (defArgs s_Square_rows) (defBody s_Square_rows) (defScope s_Square_rows) .none mkV_Square_rows mdc_Square_rows mpm_Square_rows man_Square_rows mcd_Square_rows mct_Square_rows), msl_Square_rows⟩)
    (md_Square_rows : PySem.W.codeIn K mcd_Square_rows "Square.rows" = true) (mk_Square_rows : PySem.W.keepIn K (.ref mf_Square_rows) = true)
    {mf_Square_is_stable : Addr} {mod_Square_is_stable man_Square_is_stable : Option Addr} {msl_Square_is_stable : Array (Option Value)} {moc_Square_is_stable mkV_Square_is_stable mdc_Square_is_stable mpm_Square_is_stable mcd_Square_is_stable mct_Square_is_stable : Value}
    {mp_Square_is_stable : Addr} {mr_Square_is_stable : List Value} (ma_Square_is_stable : PySem.W.findIn K (.ref cc_Square) "is_stable" = some (some (.ref mp_Square_is_stable))) (mg_Square_is_stable : PySem.W.specialIn K (.ref mp_Square_is_stable) "__get__" = some (some (.builtin "property.__get__")))
    (mt_Square_is_stable : PySem.W.takesIn K (.ref mp_Square_is_stable) = some true) (mc_Square_is_stable : PySem.W.recIn K mp_Square_is_stable "property" = some (.ref mf_Square_is_stable :: mr_Square_is_stable))
    (ml_Square_is_stable : K.lookup mf_Square_is_stable = some ⟨moc_Square_is_stable, mod_Square_is_stable, .func (PySem.W.fnOf "is_stable" "Square.is_stable" (defArgs s_Square_is_stable) (defBody s_Square_is_stable) (defScope s_Square_is_stable) .none mkV_Square_is_stable mdc_Square_is_stable mpm_Square_is_stable man_Square_is_stable mcd_Square_is_stable mct_Square_is_stable), msl_Square_is_stable⟩)
    (md_Square_is_stable : PySem.W.codeIn K mcd_Square_is_stable "Square.is_stable" = true) (mk_Square_is_stable : PySem.W.keepIn K (.ref mf_Square_is_stable) = true)
    {mq_Square_own_rows : Addr} (mb_Square_own_rows : PySem.W.findIn K (.ref cc_Square) "own_rows" = some (some (.ref mq_Square_own_rows))) (ce_Square_own_rows : slB K cc_Square mq_Square_own_rows "own_rows" 0 = true)
    (n_SIGNS : PySem.W.nsIn K mainGlobals "SIGNS" = some (some (.str "01n." t_SIGNS)))
    (n_LITTLE : PySem.W.nsIn K mainGlobals "LITTLE" = some (some (.int 1 t_LITTLE)))
    (n_GROWING : PySem.W.nsIn K mainGlobals "GROWING" = some (some (.int 2 t_GROWING)))
    (n_MAX_SIZE : PySem.W.nsIn K mainGlobals "MAX_SIZE" = some (some (.int 24 t_MAX_SIZE)))
    (z_abs : PySem.W.nsIn K mainGlobals "abs" = some none)
    (z_all : PySem.W.nsIn K mainGlobals "all" = some none)
    (z_enumerate : PySem.W.nsIn K mainGlobals "enumerate" = some none)
    (z_int : PySem.W.nsIn K mainGlobals "int" = some none)
    (z_isinstance : PySem.W.nsIn K mainGlobals "isinstance" = some none)
    (z_len : PySem.W.nsIn K mainGlobals "len" = some none)
    (z_max : PySem.W.nsIn K mainGlobals "max" = some none)
    (z_min : PySem.W.nsIn K mainGlobals "min" = some none)
    (z_range : PySem.W.nsIn K mainGlobals "range" = some none)
    (z_str : PySem.W.nsIn K mainGlobals "str" = some none)
    (z_tuple : PySem.W.nsIn K mainGlobals "tuple" = some none)
    (z_zip : PySem.W.nsIn K mainGlobals "zip" = some none) :
    ∃ fd : FuncData, (∀ (s : Shared) (v : Value), BindsTo s fd ⟨[v], []⟩ [("_law_script", v)]) ∧ ∀ base : Heap, K.In base → base.Ns mainGlobals mg →
      FnG l.prog w K mg base CX0 8 fa fd ["_law_script"] (spLaw K) := by
  have e := hfa.symm.trans (PySem.W.mg_of X G a21)
  cases e
  have F1 := fun_mk (st := s_is_sign) l1 c1 k1
  have b1 := F1.binds (ps := P_is_sign) fun _ _ _ _ _ _ us hl => match us, hl with | [_], _ => rfl
  have F2 := fun_mk (st := s_require_signs) l2 c2 k2
  have b2 := F2.binds (ps := P_require_signs) fun _ _ _ _ _ _ us hl => match us, hl with | [_], _ => rfl
  have F3 := fun_mk (st := s_least_sign) l3 c3 k3
  have F4 := fun_mk (st := s_are_rows) l4 c4 k4
  have b4 := F4.binds (ps := P_are_rows) fun _ _ _ _ _ _ us hl => match us, hl with | [_], _ => rfl
  have F5 := fun_mk (st := s_ranks_of) l5 c5 k5
  have b5 := F5.binds (ps := P_ranks_of) fun _ _ _ _ _ _ us hl => match us, hl with | [_], _ => rfl
  have F6 := fun_mk (st := s_rows_of) l6 c6 k6
  have b6 := F6.binds (ps := P_rows_of) fun _ _ _ _ _ _ us hl => match us, hl with | [_], _ => rfl
  have F7 := fun_mk (st := s_product_of) l7 c7 k7
  have b7 := F7.binds (ps := P_product_of) fun _ _ _ _ _ _ us hl => match us, hl with | [_, _], _ => rfl
  have F8 := fun_mk (st := s_repeat_of) l8 c8 k8
  have b8 := F8.binds (ps := P_repeat_of) fun _ _ _ _ _ _ us hl => match us, hl with | [_], _ => rfl
  have F9 := fun_mk (st := s_dice) l9 c9 k9
  have b9 := F9.binds (ps := P_dice) fun _ _ _ _ _ _ us hl => match us, hl with | [_, _], _ => rfl
  have F10 := fun_mk (st := s_roll) l10 c10 k10
  have b10 := F10.binds (ps := P_roll) fun _ _ _ _ _ _ us hl => match us, hl with | [_, _], _ => rfl
  have F11 := fun_mk (st := s_pick) l11 c11 k11
  have b11 := F11.binds (ps := P_pick) fun _ _ _ _ _ _ us hl => match us, hl with | [_, _], _ => rfl
  have F12 := fun_mk (st := s_lesser) l12 c12 k12
  have b12 := F12.binds (ps := P_lesser) fun _ _ _ _ _ _ us hl => match us, hl with | [_, _], _ => rfl
  have F13 := fun_mk (st := s_greater) l13 c13 k13
  have b13 := F13.binds (ps := P_greater) fun _ _ _ _ _ _ us hl => match us, hl with | [_, _], _ => rfl
  have F14 := fun_mk (st := s_product) l14 c14 k14
  have b14 := F14.binds (ps := P_product) fun _ _ _ _ _ _ us hl => match us, hl with | [_, _], _ => rfl
  have F15 := fun_mk (st := s_repeat_) l15 c15 k15
  have b15 := F15.binds (ps := P_repeat_) fun _ _ _ _ _ _ us hl => match us, hl with | [_], _ => rfl
  have F16 := fun_mk (st := s_drawn_square) l16 c16 k16
  have b16 := F16.binds (ps := P_drawn_square) fun _ _ _ _ _ _ us hl => match us, hl with | [_, _], _ => rfl
  have F17 := fun_mk (st := s_stable_of) l17 c17 k17
  have b17 := F17.binds (ps := P_stable_of) fun _ _ _ _ _ _ us hl => match us, hl with | [_], _ => rfl
  have F18 := fun_mk (st := s_no_less) l18 c18 k18
  have b18 := F18.binds (ps := P_no_less) fun _ _ _ _ _ _ us hl => match us, hl with | [_, _], _ => rfl
  have F19 := fun_mk (st := s_repeats_right) l19 c19 k19
  have b19 := F19.binds (ps := P_repeats_right) fun _ _ _ _ _ _ us hl => match us, hl with | [_], _ => rfl
  have F20 := fun_mk (st := s_right) l20 c20 k20
  have b20 := F20.binds (ps := P_right) fun _ _ _ _ _ _ us hl => match us, hl with | [_], _ => rfl
  have F21 := fun_mk (st := s_law) l21 c21 k21
  have b21 := F21.binds (ps := P_law) fun _ _ _ _ _ _ us hl => match us, hl with | [_], _ => rfl
  have F_Square___init__ := fun_mk (st := s_Square___init__) ml_Square___init__ md_Square___init__ mk_Square___init__
  have b_Square___init__ := F_Square___init__.binds (ps := P_Square___init__) fun _ _ _ _ _ _ us hl => match us, hl with | [_, _], _ => rfl
  have F_Square_repeated := fun_mk (st := s_Square_repeated) ml_Square_repeated md_Square_repeated mk_Square_repeated
  have b_Square_repeated := F_Square_repeated.binds (ps := P_Square_repeated) fun _ _ _ _ _ _ us hl => match us, hl with | [_], _ => rfl
  have F_Square___mul__ := fun_mk (st := s_Square___mul__) ml_Square___mul__ md_Square___mul__ mk_Square___mul__
  have b_Square___mul__ := F_Square___mul__.binds (ps := P_Square___mul__) fun _ _ _ _ _ _ us hl => match us, hl with | [_, _], _ => rfl
  have F_Square___eq__ := fun_mk (st := s_Square___eq__) ml_Square___eq__ md_Square___eq__ mk_Square___eq__
  have b_Square___eq__ := F_Square___eq__.binds (ps := P_Square___eq__) fun _ _ _ _ _ _ us hl => match us, hl with | [_, _], _ => rfl
  have F_Square___str__ := fun_mk (st := s_Square___str__) ml_Square___str__ md_Square___str__ mk_Square___str__
  have b_Square___str__ := F_Square___str__.binds (ps := P_Square___str__) fun _ _ _ _ _ _ us hl => match us, hl with | [_], _ => rfl
  have F_Square_rows := fun_mk (st := s_Square_rows) ml_Square_rows md_Square_rows mk_Square_rows
  have b_Square_rows := F_Square_rows.binds (ps := P_Square_rows) fun _ _ _ _ _ _ us hl => match us, hl with | [_], _ => rfl
  have F_Square_is_stable := fun_mk (st := s_Square_is_stable) ml_Square_is_stable md_Square_is_stable mk_Square_is_stable
  have b_Square_is_stable := F_Square_is_stable.binds (ps := P_Square_is_stable) fun _ _ _ _ _ _ us hl => match us, hl with | [_], _ => rfl
  let Z : Ad := ⟨f1, PySem.W.fnOf "is_sign" "is_sign" (defArgs s_is_sign) (defBody s_is_sign) (defScope s_is_sign) .none kV1 dc1 pm1 an1 cd1 ct1,
    f2, PySem.W.fnOf "require_signs" "require_signs" (defArgs s_require_signs) (defBody s_require_signs) (defScope s_require_signs) .none kV2 dc2 pm2 an2 cd2 ct2,
    f3, PySem.W.fnOf "least_sign" "least_sign" (defArgs s_least_sign) (defBody s_least_sign) (defScope s_least_sign) .none kV3 dc3 pm3 an3 cd3 ct3,
    f4, PySem.W.fnOf "are_rows" "are_rows" (defArgs s_are_rows) (defBody s_are_rows) (defScope s_are_rows) .none kV4 dc4 pm4 an4 cd4 ct4,
    f5, PySem.W.fnOf "ranks_of" "ranks_of" (defArgs s_ranks_of) (defBody s_ranks_of) (defScope s_ranks_of) .none kV5 dc5 pm5 an5 cd5 ct5,
    f6, PySem.W.fnOf "rows_of" "rows_of" (defArgs s_rows_of) (defBody s_rows_of) (defScope s_rows_of) .none kV6 dc6 pm6 an6 cd6 ct6,
    f7, PySem.W.fnOf "product_of" "product_of" (defArgs s_product_of) (defBody s_product_of) (defScope s_product_of) .none kV7 dc7 pm7 an7 cd7 ct7,
    f8, PySem.W.fnOf "repeat_of" "repeat_of" (defArgs s_repeat_of) (defBody s_repeat_of) (defScope s_repeat_of) .none kV8 dc8 pm8 an8 cd8 ct8,
    f9, PySem.W.fnOf "_law_dice" "_law_dice" (defArgs s_dice) (defBody s_dice) (defScope s_dice) .none kV9 dc9 pm9 an9 cd9 ct9,
    f10, PySem.W.fnOf "_law_roll" "_law_roll" (defArgs s_roll) (defBody s_roll) (defScope s_roll) .none kV10 dc10 pm10 an10 cd10 ct10,
    f11, PySem.W.fnOf "_law_pick" "_law_pick" (defArgs s_pick) (defBody s_pick) (defScope s_pick) .none kV11 dc11 pm11 an11 cd11 ct11,
    f12, PySem.W.fnOf "_law_lesser" "_law_lesser" (defArgs s_lesser) (defBody s_lesser) (defScope s_lesser) .none kV12 dc12 pm12 an12 cd12 ct12,
    f13, PySem.W.fnOf "_law_greater" "_law_greater" (defArgs s_greater) (defBody s_greater) (defScope s_greater) .none kV13 dc13 pm13 an13 cd13 ct13,
    f14, PySem.W.fnOf "_law_product" "_law_product" (defArgs s_product) (defBody s_product) (defScope s_product) .none kV14 dc14 pm14 an14 cd14 ct14,
    f15, PySem.W.fnOf "_law_repeat" "_law_repeat" (defArgs s_repeat_) (defBody s_repeat_) (defScope s_repeat_) .none kV15 dc15 pm15 an15 cd15 ct15,
    f16, PySem.W.fnOf "_law_drawn_square" "_law_drawn_square" (defArgs s_drawn_square) (defBody s_drawn_square) (defScope s_drawn_square) .none kV16 dc16 pm16 an16 cd16 ct16,
    f17, PySem.W.fnOf "_law_stable_of" "_law_stable_of" (defArgs s_stable_of) (defBody s_stable_of) (defScope s_stable_of) .none kV17 dc17 pm17 an17 cd17 ct17,
    f18, PySem.W.fnOf "_law_no_less" "_law_no_less" (defArgs s_no_less) (defBody s_no_less) (defScope s_no_less) .none kV18 dc18 pm18 an18 cd18 ct18,
    f19, PySem.W.fnOf "_law_repeats_right" "_law_repeats_right" (defArgs s_repeats_right) (defBody s_repeats_right) (defScope s_repeats_right) .none kV19 dc19 pm19 an19 cd19 ct19,
    f20, PySem.W.fnOf "_law_right" "_law_right" (defArgs s_right) (defBody s_right) (defScope s_right) .none kV20 dc20 pm20 an20 cd20 ct20,
    fa, PySem.W.fnOf "law" "law" (defArgs s_law) (defBody s_law) (defScope s_law) .none kV21 dc21 pm21 an21 cd21 ct21,
    mf_Square___init__, PySem.W.fnOf "__init__" "Square.__init__" (defArgs s_Square___init__) (defBody s_Square___init__) (defScope s_Square___init__) .none mkV_Square___init__ mdc_Square___init__ mpm_Square___init__ man_Square___init__ mcd_Square___init__ mct_Square___init__,
    mf_Square_repeated, PySem.W.fnOf "repeated" "Square.repeated" (defArgs s_Square_repeated) (defBody s_Square_repeated) (defScope s_Square_repeated) .none mkV_Square_repeated mdc_Square_repeated mpm_Square_repeated man_Square_repeated mcd_Square_repeated mct_Square_repeated,
    mf_Square___mul__, PySem.W.fnOf "__mul__" "Square.__mul__" (defArgs s_Square___mul__) (defBody s_Square___mul__) (defScope s_Square___mul__) .none mkV_Square___mul__ mdc_Square___mul__ mpm_Square___mul__ man_Square___mul__ mcd_Square___mul__ mct_Square___mul__,
    mf_Square___eq__, PySem.W.fnOf "__eq__" "Square.__eq__" (defArgs s_Square___eq__) (defBody s_Square___eq__) (defScope s_Square___eq__) .none mkV_Square___eq__ mdc_Square___eq__ mpm_Square___eq__ man_Square___eq__ mcd_Square___eq__ mct_Square___eq__,
    mf_Square___str__, PySem.W.fnOf "__str__" "Square.__str__" (defArgs s_Square___str__) (defBody s_Square___str__) (defScope s_Square___str__) .none mkV_Square___str__ mdc_Square___str__ mpm_Square___str__ man_Square___str__ mcd_Square___str__ mct_Square___str__,
    mf_Square_rows, PySem.W.fnOf "rows" "Square.rows" (defArgs s_Square_rows) (defBody s_Square_rows) (defScope s_Square_rows) .none mkV_Square_rows mdc_Square_rows mpm_Square_rows man_Square_rows mcd_Square_rows mct_Square_rows,
    mf_Square_is_stable, PySem.W.fnOf "is_stable" "Square.is_stable" (defArgs s_Square_is_stable) (defBody s_Square_is_stable) (defScope s_Square_is_stable) .none mkV_Square_is_stable mdc_Square_is_stable mpm_Square_is_stable man_Square_is_stable mcd_Square_is_stable mct_Square_is_stable,
    cc_Square,
    mp_Square_rows,
    mp_Square_is_stable,
    mq_Square_own_rows⟩
  have B : Bt mg := ⟨PySem.W.mg_none_of X G z_abs, PySem.W.mg_none_of X G z_all, PySem.W.mg_none_of X G z_enumerate, PySem.W.mg_none_of X G z_int, PySem.W.mg_none_of X G z_isinstance, PySem.W.mg_none_of X G z_len, PySem.W.mg_none_of X G z_max, PySem.W.mg_none_of X G z_min, PySem.W.mg_none_of X G z_range, PySem.W.mg_none_of X G z_str, PySem.W.mg_none_of X G z_tuple, PySem.W.mg_none_of X G z_zip⟩
  have C0 : Cs mg := ⟨⟨_, PySem.W.mg_of X G n_SIGNS⟩, ⟨_, PySem.W.mg_of X G n_LITTLE⟩, ⟨_, PySem.W.mg_of X G n_GROWING⟩, ⟨_, PySem.W.mg_of X G n_MAX_SIZE⟩⟩
  have D : Ds K mg Z := ⟨⟨F1, PySem.W.mg_of X G a1, b1⟩, ⟨F2, PySem.W.mg_of X G a2, b2⟩, ⟨F3, PySem.W.mg_of X G a3, fun rest => match rest with | [] => rfl | _ :: _ => rfl⟩, ⟨F4, PySem.W.mg_of X G a4, b4⟩, ⟨F5, PySem.W.mg_of X G a5, b5⟩, ⟨F6, PySem.W.mg_of X G a6, b6⟩, ⟨F7, PySem.W.mg_of X G a7, b7⟩, ⟨F8, PySem.W.mg_of X G a8, b8⟩, ⟨F9, PySem.W.mg_of X G a9, b9⟩, ⟨F10, PySem.W.mg_of X G a10, b10⟩, ⟨F11, PySem.W.mg_of X G a11, b11⟩, ⟨F12, PySem.W.mg_of X G a12, b12⟩, ⟨F13, PySem.W.mg_of X G a13, b13⟩, ⟨F14, PySem.W.mg_of X G a14, b14⟩, ⟨F15, PySem.W.mg_of X G a15, b15⟩, ⟨F16, PySem.W.mg_of X G a16, b16⟩, ⟨F17, PySem.W.mg_of X G a17, b17⟩, ⟨F18, PySem.W.mg_of X G a18, b18⟩, ⟨F19, PySem.W.mg_of X G a19, b19⟩, ⟨F20, PySem.W.mg_of X G a20, b20⟩, ⟨F21, PySem.W.mg_of X G a21, b21⟩, ⟨F_Square___init__, ma_Square___init__, mi_Square___init__, b_Square___init__⟩, ⟨F_Square_repeated, ma_Square_repeated, mi_Square_repeated, b_Square_repeated⟩, ⟨F_Square___mul__, ma_Square___mul__, mi_Square___mul__, b_Square___mul__⟩, ⟨F_Square___eq__, ma_Square___eq__, mi_Square___eq__, b_Square___eq__⟩, ⟨F_Square___str__, ma_Square___str__, mi_Square___str__, b_Square___str__⟩, ⟨F_Square_rows, ma_Square_rows, mg_Square_rows, mt_Square_rows, ⟨_, mc_Square_rows⟩, b_Square_rows⟩, ⟨F_Square_is_stable, ma_Square_is_stable, mg_Square_is_stable, mt_Square_is_stable, ⟨_, mc_Square_is_stable⟩, b_Square_is_stable⟩, ob_of (PySem.W.mg_of X G ca_Square) cx_Square, sl_of ce_Square_own_rows⟩
  exact ⟨_, fun s v => .of_eq rfl, fun base _ _ => ok_law (Z := Z) D B C0⟩
end K26
open PySem PySem.W PyProof.Rows in
set_option maxRecDepth 100000 in
set_option maxHeartbeats 0 in
theorem PySem.Challenge.cw_lastprices_k26_whole_repeats_holds : PySem.Challenge.rw_lastprices_k26_whole_repeats.Holds := by
  w_on; o_law; k_head; (case hw => w_witness2)
  k_fill
  refine LP.walk_ofG (l := PySem.Challenge.rw_lastprices_k26_whole_repeats) (n := 63) (k := 8) (x := "_law_script") (sp := K26.spLaw) rfl (by decide) rfl ⟨rfl, by decide, by decide⟩ (fun w h Y => PySem.W.kIn_of Y) ?F (fun _ _ a ns hl _ hS => ⟨a, ns, rfl, hS, hl, fun _ => rfl⟩)
  case F =>
    intro w mg fa h KX G hmg
    refine' K26.all_mk KX G hmg ?a1 ?l1 ?c1 ?k1 ?a2 ?l2 ?c2 ?k2 ?a3 ?l3 ?c3 ?k3 ?a4 ?l4 ?c4 ?k4 ?a5 ?l5 ?c5 ?k5 ?a6 ?l6 ?c6 ?k6 ?a7 ?l7 ?c7 ?k7 ?a8 ?l8 ?c8 ?k8 ?a9 ?l9 ?c9 ?k9 ?a10 ?l10 ?c10 ?k10 ?a11 ?l11 ?c11 ?k11 ?a12 ?l12 ?c12 ?k12 ?a13 ?l13 ?c13 ?k13 ?a14 ?l14 ?c14 ?k14 ?a15 ?l15 ?c15 ?k15 ?a16 ?l16 ?c16 ?k16 ?a17 ?l17 ?c17 ?k17 ?a18 ?l18 ?c18 ?k18 ?a19 ?l19 ?c19 ?k19 ?a20 ?l20 ?c20 ?k20 ?a21 ?l21 ?c21 ?k21 ?ca_Square ?cx_Square ?ma_Square___init__ ?mi_Square___init__ ?ml_Square___init__ ?md_Square___init__ ?mk_Square___init__ ?ma_Square_repeated ?mi_Square_repeated ?ml_Square_repeated ?md_Square_repeated ?mk_Square_repeated ?ma_Square___mul__ ?mi_Square___mul__ ?ml_Square___mul__ ?md_Square___mul__ ?mk_Square___mul__ ?ma_Square___eq__ ?mi_Square___eq__ ?ml_Square___eq__ ?md_Square___eq__ ?mk_Square___eq__ ?ma_Square___str__ ?mi_Square___str__ ?ml_Square___str__ ?md_Square___str__ ?mk_Square___str__ ?ma_Square_rows ?mg_Square_rows ?mt_Square_rows ?mc_Square_rows ?ml_Square_rows ?md_Square_rows ?mk_Square_rows ?ma_Square_is_stable ?mg_Square_is_stable ?mt_Square_is_stable ?mc_Square_is_stable ?ml_Square_is_stable ?md_Square_is_stable ?mk_Square_is_stable ?mb_Square_own_rows ?ce_Square_own_rows ?n_SIGNS ?n_LITTLE ?n_GROWING ?n_MAX_SIZE ?z_abs ?z_all ?z_enumerate ?z_int ?z_isinstance ?z_len ?z_max ?z_min ?z_range ?z_str ?z_tuple ?z_zip
    (case a1 => k_is)
    (case l1 => k_is)
    (case c1 => k_is)
    (case k1 => k_is)
    (case a2 => k_is)
    (case l2 => k_is)
    (case c2 => k_is)
    (case k2 => k_is)
    (case a3 => k_is)
    (case l3 => k_is)
    (case c3 => k_is)
    (case k3 => k_is)
    (case a4 => k_is)
    (case l4 => k_is)
    (case c4 => k_is)
    (case k4 => k_is)
    (case a5 => k_is)
    (case l5 => k_is)
    (case c5 => k_is)
    (case k5 => k_is)
    (case a6 => k_is)
    (case l6 => k_is)
    (case c6 => k_is)
    (case k6 => k_is)
    (case a7 => k_is)
    (case l7 => k_is)
    (case c7 => k_is)
    (case k7 => k_is)
    (case a8 => k_is)
    (case l8 => k_is)
    (case c8 => k_is)
    (case k8 => k_is)
    (case a9 => k_is)
    (case l9 => k_is)
    (case c9 => k_is)
    (case k9 => k_is)
    (case a10 => k_is)
    (case l10 => k_is)
    (case c10 => k_is)
    (case k10 => k_is)
    (case a11 => k_is)
    (case l11 => k_is)
    (case c11 => k_is)
    (case k11 => k_is)
    (case a12 => k_is)
    (case l12 => k_is)
    (case c12 => k_is)
    (case k12 => k_is)
    (case a13 => k_is)
    (case l13 => k_is)
    (case c13 => k_is)
    (case k13 => k_is)
    (case a14 => k_is)
    (case l14 => k_is)
    (case c14 => k_is)
    (case k14 => k_is)
    (case a15 => k_is)
    (case l15 => k_is)
    (case c15 => k_is)
    (case k15 => k_is)
    (case a16 => k_is)
    (case l16 => k_is)
    (case c16 => k_is)
    (case k16 => k_is)
    (case a17 => k_is)
    (case l17 => k_is)
    (case c17 => k_is)
    (case k17 => k_is)
    (case a18 => k_is)
    (case l18 => k_is)
    (case c18 => k_is)
    (case k18 => k_is)
    (case a19 => k_is)
    (case l19 => k_is)
    (case c19 => k_is)
    (case k19 => k_is)
    (case a20 => k_is)
    (case l20 => k_is)
    (case c20 => k_is)
    (case k20 => k_is)
    (case a21 => k_is)
    (case l21 => k_is)
    (case c21 => k_is)
    (case k21 => k_is)
    (case ca_Square => k_is)
    (case cx_Square => kernel_rfl)
    (case ma_Square___init__ => k_is)
    (case mi_Square___init__ => k_is)
    (case ml_Square___init__ => k_is)
    (case md_Square___init__ => k_is)
    (case mk_Square___init__ => k_is)
    (case ma_Square_repeated => k_is)
    (case mi_Square_repeated => k_is)
    (case ml_Square_repeated => k_is)
    (case md_Square_repeated => k_is)
    (case mk_Square_repeated => k_is)
    (case ma_Square___mul__ => k_is)
    (case mi_Square___mul__ => k_is)
    (case ml_Square___mul__ => k_is)
    (case md_Square___mul__ => k_is)
    (case mk_Square___mul__ => k_is)
    (case ma_Square___eq__ => k_is)
    (case mi_Square___eq__ => k_is)
    (case ml_Square___eq__ => k_is)
    (case md_Square___eq__ => k_is)
    (case mk_Square___eq__ => k_is)
    (case ma_Square___str__ => k_is)
    (case mi_Square___str__ => k_is)
    (case ml_Square___str__ => k_is)
    (case md_Square___str__ => k_is)
    (case mk_Square___str__ => k_is)
    (case ma_Square_rows => k_is)
    (case mg_Square_rows => k_is)
    (case mt_Square_rows => k_is)
    (case mc_Square_rows => k_is)
    (case ml_Square_rows => k_is)
    (case md_Square_rows => k_is)
    (case mk_Square_rows => k_is)
    (case ma_Square_is_stable => k_is)
    (case mg_Square_is_stable => k_is)
    (case mt_Square_is_stable => k_is)
    (case mc_Square_is_stable => k_is)
    (case ml_Square_is_stable => k_is)
    (case md_Square_is_stable => k_is)
    (case mk_Square_is_stable => k_is)
    (case mb_Square_own_rows => k_is)
    (case ce_Square_own_rows => kernel_rfl)
    (case n_SIGNS => k_is)
    (case n_LITTLE => k_is)
    (case n_GROWING => k_is)
    (case n_MAX_SIZE => k_is)
    (case z_abs => k_is)
    (case z_all => k_is)
    (case z_enumerate => k_is)
    (case z_int => k_is)
    (case z_isinstance => k_is)
    (case z_len => k_is)
    (case z_max => k_is)
    (case z_min => k_is)
    (case z_range => k_is)
    (case z_str => k_is)
    (case z_tuple => k_is)
    (case z_zip => k_is)
#print axioms PySem.Challenge.cw_lastprices_k26_whole_repeats_holds
