import PyProof.Rows.All
import Wide.All
import OpenK.AllK
import Wide.FinOn
import HandS.ForMost
import HandS.TupAny
import HandS.Flow
import HandS.Style
import KE.SortData
import HandS.Walk
import KE.GoesEnum
import HandS.Conv
import KE.KDictZip
import KE.KDictList
import HandS.TupMul
import HandS.ExcOwn
import HandS.Wide
import HandS.Deep
import KE.DataCmp
import KE.KTupSum
import KE.DataMinMax
import HandS.IsInst
import HandS.NoneIn
import HandS.List
import HandS.ExcInit
import HandS.ExcField
import HandS.TryOnly
import HandS.TryMany
import HandS.ClsMeth
import HandS.WordsExc
import KE.KExcIs
import PySem.Challenge.RW_hatchwaits_k26_ways_changed
set_option Elab.async false
set_option linter.all false
set_option maxRecDepth 100000
set_option maxHeartbeats 8000000
/-! Calls made where nothing is being shown (no repr under way): the promise of a def that may show what it holds. -/
namespace Hw
open PySem PySem.Spec PyProof.Rows L2

/-- a def's promise where no repr is under way -/
structure FnG (P : Program) (w : World) (K : PySem.W.Frag) (mg : Str → Option Value) (base : Heap) (CX : CXT) (k : Nat) (f : Addr) (fd : FuncData) (ps : List Str) (sp : Sp) : Prop where
  sized : ∀ vs H Q E, sp vs H Q E → vs.length = ps.length
  goes : ∀ (A : Around) (out : List Env) (s : Shared) (H : Hp) (ar : Args) (us : List Value) (vs : List V) (Q : VK) (E : XK),
    A.guards = some [] → Room k A → Env0 P w K mg base A out s H → BindsTo s fd ar (ps.zip us) → Vals vs us → sp vs H Q E →
    codeAny (model P w) A (.call (.ref f) ar) (CR CX out P w H s Q E) s

section
variable {P : Program} {w : World} {K : PySem.W.Frag} {mg : Str → Option Value} {base : Heap} {CX : CXT} {k j : Nat}
  {f : Addr} {fd : FuncData} {ps : List Str} {sp : Sp}
theorem FnG.of (F : FnOk P w K mg base CX k f fd ps sp) : FnG P w K mg base CX k f fd ps sp :=
  ⟨F.len, fun A out s H ar us vs Q E _ hr e b r q => F.run A out s H ar us vs Q E hr e b r q⟩
theorem FnG.mono (F : FnG P w K mg base CX j f fd ps sp) (h : j ≤ k) : FnG P w K mg base CX k f fd ps sp :=
  ⟨F.sized, fun A out s H ar us vs Q E hg hr => F.goes A out s H ar us vs Q E hg (hr.mono h)⟩

/-- a def of the text by its body, where no repr is under way -/
theorem okG {x qual : Str} {st : Stmt} {N : List Str} (F : Fun K x qual st f fd) (S : FnScope N ps (defScope st))
    (sized : ∀ vs H Q E, sp vs H Q E → vs.length = ps.length)
    (body : ∀ (cdv : Value) (A : Around) (out : List Env) (s : Shared) (H : Hp) (vs : List V) (Q : VK) (E : XK),
      A.guards = some [] → Room k (A.deeper (envOfC qual (defScope st) s.heap.objs.size f cdv)) → sp vs H Q E →
      ∃ t, PSs (cxOf CX P w K mg base N qual (defScope st) f cdv A out s H E) (defBody st) t ∧
        t { nx := fun _ H' => Q .non H', rt := Q } (start N vs) H) : FnG P w K mg base CX (k + 1) f fd ps sp := by
  obtain ⟨oc, od, kV, doc, pm, an, cdv, ct, osl, rfl, lk, hcd⟩ := F.ex
  refine ⟨sized, ?_⟩
  intro A out s H ar us vs Q E hgd hr e0 hb hv hs
  have sz := sized _ _ _ _ hs
  have inK : K.In s.heap := e0.mod.kin.keeps (fun b o e => (e0.bs b o e).1)
  have nol : s.heap.NoLimit := e0.mod.nolimit.keeps (fun b o e => (e0.bs b o e).1)
  apply codeAny_call_function hr.depth (inK _ _ lk) rfl S.co S.gen rfl (PySem.W.codeRec_of inK hcd)
  apply hb
  apply wpAny_newFunctionEnv_cells S.kind
  · rintro ⟨n, v⟩ hy
    cases S.par n (List.of_mem_zip hy).1 with
    | inl q => exact Or.inl q
    | inr q => exact Or.inr ⟨q, PySem.W.cellsFrom_some _ _ _ (Or.inl q)⟩
  · intro env he s1 ic
    subst he
    refine And.intro (nol.keeps ic.toInCall.keep) (codeAny_func ?_)
    obtain ⟨t, ht, hq⟩ := body cdv A out s H vs Q E hgd (hr.deeper _) hs
    have I := inv_start (CX := CX) (E := E) S hr.hd e0 sz hv ic
    have done : ∀ {σ' : L2.St} {H' : Hp} {v : V} {u : Value}, Inv (cxOf CX P w K mg base N qual (defScope st) f cdv A out s H E) [] σ' H' s1 → True := fun _ => trivial
    refine wpAny_mono (ht.run [] s1 (start N vs) H _ I hq) ?_ (fun e s' z => z)
    intro fl s' z
    cases fl with
    | ret u =>
      obtain ⟨v, σ', H', J, rv, q⟩ := z
      exact ⟨v, H', J.os, J.bare, J.base, J.hok, rv, q⟩
    | next =>
      obtain ⟨σ', H', J, q⟩ := z
      exact ⟨V.non, H', J.os, J.bare, J.base, J.hok, rfl, q⟩
    | brk =>
      obtain ⟨_, _, _, q⟩ := z
      exact q.elim
    | cont =>
      obtain ⟨_, _, _, q⟩ := z
      exact q.elim

/-- the same for a def that no error leaves -/
theorem okG0 {x qual : Str} {st : Stmt} {N : List Str} (F : Fun K x qual st f fd) (S : FnScope N ps (defScope st))
    (sized : ∀ vs H Q E, sp vs H Q E → vs.length = ps.length)
    (body : ∀ (cdv : Value) (A : Around) (out : List Env) (s : Shared) (H : Hp) (vs : List V) (Q : VK) (E : XK),
      A.guards = some [] → Room k (A.deeper (envOfC qual (defScope st) s.heap.objs.size f cdv)) → sp vs H Q E →
      ∃ t, PSs (cxOf CX0 P w K mg base N qual (defScope st) f cdv A out s H E).nox (defBody st) t ∧
        t { nx := fun _ H' => Q .non H', rt := Q } (start N vs) H) : FnG P w K mg base CX0 (k + 1) f fd ps sp :=
  okG F S sized fun cdv A out s H vs Q E hgd hr hs => by
    obtain ⟨t, h, q⟩ := body cdv A out s H vs Q E hgd hr hs
    exact ⟨t, h.nox, q⟩

variable {X : Cx} {dvs : List V} {ds : List Value} {E : XK} {x : Str} {p pos : Pos} {e : Expr} {es : List Expr} {t : TA}
theorem runG {pins : List (Addr × Obj)} {σ : L2.St} {H : Hp} {s : Shared} {Q : VK} {us : List Value} {vs : List V}
    (F : FnG X.prog X.w X.K X.mg X.base CX k f fd ps sp) (hgd : X.A.guards = some []) (hr : Room k X.A) (hb : Binds X.K fd ps ds) (hd : Vals dvs ds)
    (hx : Passes CX X E) (I : Inv X pins σ H s) (r : Vals vs us) (h : sp (vs ++ dvs) H Q E) :
    wpAny (model X.prog X.w) X.A (call (.ref f) us) (EP X pins σ Q) X.xe s := by
  have rr := r.append hd
  have sz : (us ++ ds).length = ps.length := rr.length.symm.trans (F.sized _ _ _ _ h)
  have go := F.goes X.A X.stack s H ⟨us, []⟩ (us ++ ds) (vs ++ dvs) Q E hgd hr I.env0 (hb s us I.kIn sz) rr h
  refine wpAny_call (codeAny_mono go ?_)
  intro z s' hz
  match z, hz with
  | .error e, hz => exact hx pins σ H s e s' I hz
  | .ok (.ret u), hz => exact I.after hz
/-- f(e, ..) -/
theorem pe_callG (F : FnG X.prog X.w X.K X.mg X.base CX k f fd ps sp) (hgd : X.A.guards = some []) (hr : Room k X.A) (hg : Gl X x) (hm : X.mg x = some (.ref f))
    (hk : PySem.W.keepIn X.K (.ref f) = true) (hb : Binds X.K fd ps ds) (hd : Vals dvs ds) (hx : Passes CX X E)
    (ha : PA X (e :: es) t) (hdb : (x == ("__debug__" : Str)) = false := by decide)
    (he : starEach (e :: es) X.env = (false, eval e X.env) :: starEach es X.env := by rfl) (hpl : (backTo pos (starEach es X.env)).any (·.1) = false := by rfl) :
    PE X (.Call (.Name x p) (e :: es) [] pos) (tCall sp dvs E t) := by
  constructor
  intro pins s σ H Q I h
  apply wpAny_Call_Name_kw
  refine ld_glob I hg hm ?_ hdb
  apply PySem.W.callWith_K (h₀ := X.base) I.ok.mod.kin hk _ he hpl
  refine thn (ha.run pos pins s σ H _ I h) ?_
  rintro us s1 ⟨vs, H1, I1, r, q⟩
  exact ⟨I1.kIn, runG F hgd hr hb hd hx I1 r q⟩
theorem pe_call0G (F : FnG X.prog X.w X.K X.mg X.base CX k f fd ps sp) (hgd : X.A.guards = some []) (hr : Room k X.A) (hg : Gl X x) (hm : X.mg x = some (.ref f))
    (hk : PySem.W.keepIn X.K (.ref f) = true) (hb : Binds X.K fd ps ds) (hd : Vals dvs ds) (hx : Passes CX X E)
    (hdb : (x == ("__debug__" : Str)) = false := by decide) : PE X (.Call (.Name x p) [] [] pos) (tCall sp dvs E tNil) := by
  constructor
  intro pins s σ H Q I h
  apply wpAny_Call_Name_kw
  refine ld_glob I hg hm ?_ hdb
  exact PySem.W.callWith_K0 I.kIn hk (runG (us := []) F hgd hr hb hd hx I .nil h)

/-- repr(x) of data: what it shows -/
def rRepr (K : PySem.W.Frag) : List V → Hp → VK → Prop := fun xs H Q =>
  ∃ v d, xs = [v] ∧ Dp K H v d ∧ d.showable = true ∧ d.hasDict = false ∧ d.depth ≤ 100 ∧ d.shown.length ≤ sizeLine ∧ Q (.str d.shown) H

theorem call_repr (hgd : X.A.guards = some []) (hu : X.A.units + 160 < cLine) : CallR X (.builtin "repr") (rRepr X.K) := by
  intro pins s σ H xs us Q I r h
  obtain ⟨v, d, rfl, hd, hs, hn, hdp, hz, q⟩ := h
  cases r with
  | cons r1 r2 =>
    cases r2
    have fin : ∀ {h' : Heap} {tk : Tok} (u : Tok), (∀ b o, s.heap.get? b = some o → h'.get? b = some o) →
        EP X pins σ Q (.str d.shown u) { s with heap := h', toks := tk } := fun u hk => ⟨.str d.shown, H, I.kept hk, ⟨u, rfl⟩, q⟩
    cases hd with
    | non =>
      cases r1
      exact PySem.P.repr_of_none (fin _ fun _ _ z => z)
    | bl b =>
      cases r1
      exact PySem.P.repr_of_bool (fin _ fun _ _ z => z)
    | int i =>
      obtain ⟨u, rfl⟩ := r1
      exact PySem.P.repr_of_int (of_decide_eq_true hs) (fin _ fun _ _ z => z)
    | str x =>
      obtain ⟨u, rfl⟩ := r1
      exact PySem.P.repr_of_str (fin _ fun _ _ z => z) hz
    | lst h1 h2 =>
      cases r1
      obtain ⟨as, rd⟩ := Dp.reads I _ _ _ (Dp.lst h1 h2) rfl
      exact repr_of_reads' rd hs (fun z => by rw [hn] at z; cases z) hgd (by omega) (fun _ _ z => z) (fun h' u tk hk => fin u hk) hz
    | tup h1 h2 =>
      cases r1
      obtain ⟨as, rd⟩ := Dp.reads I _ _ _ (Dp.tup h1 h2) rfl
      exact repr_of_reads' rd hs (fun z => by rw [hn] at z; cases z) hgd (by omega) (fun _ _ z => z) (fun h' u tk hk => fin u hk) hz
end

/-! ### the law's call -/
section
variable {P : Program} {w : World} {K : PySem.W.Frag} {mg mb : Str → Option Value} {k : Nat} {fa a : Addr} {fd : FuncData} {x : Str} {sp : Sp}
  {s₁ : Shared} {vs : List Value} {ns : List Int}
/-- what the law's call ends in -/
def LawEnd (s₁ : Shared) : Result → Shared → Prop := fun r s' => r = .ok (.ret (.bool true)) ∧ OldK s₁.heap s'.heap ∧ s'.os = s₁.os ∧ AllBare s'.gens
theorem lawGoes {H : Hp} (inK : K.In s₁.heap) (gl : s₁.heap.Ns mainGlobals mg) (bl : s₁.heap.Ns builtinsNs mb)
    (bb : ∀ y : Str, y ≠ "__name__" → mb y = bootBuiltins y) (nol : s₁.heap.NoLimit) (gn : s₁.gens = #[])
    (ha : s₁.heap.get? a = some { cls := .type "list", data := .seq vs.toArray })
    (ok : HOk P w H s₁.heap)
    (what : ∀ b u, H b = some u → b = a ∧ K.lookup a = none ∧ u = .frz { cls := .type "list", data := .seq vs.toArray } (.lst (ns.map V.int)))
    (hr : Room k callerA) (F : ∀ base : Heap, K.In base → base.Ns mainGlobals mg → FnG P w K mg base CX0 k fa fd [x] sp)
    (hb : ∀ (s : Shared) (u : Value), BindsTo s fd ⟨[u], []⟩ [(x, u)])
    (hsp : sp [.ref a] H (fun v _ => v = .bl true) fun _ _ _ => False) :
    codeAny (model P w) callerA (.call (.ref fa) ⟨[.ref a], []⟩) (LawEnd s₁) s₁ := by
  have off : ∀ {b : Addr} {o : Obj}, s₁.heap.get? b = some o → (b = a → K.lookup a = none → o = { cls := .type "list", data := .seq vs.toArray } → False) → H b = none := by
    intro b o e no
    cases q : H b with
    | none => rfl
    | some u =>
      obtain ⟨e1, e2, e3⟩ := what b u q
      rw [e1, ha] at e
      exact (no e1 e2 (Option.some.inj e).symm).elim
  have nsB : ∀ {b : Addr} {m : Str → Option Value}, s₁.heap.Ns b m → (hidT s₁.heap H).Ns b m := by
    rintro b m ⟨o, es, ep, e, d, r⟩
    exact ⟨o, es, ep, hidT_get e (off e fun _ _ z => by rw [z] at d; cases d), d, r⟩
  have inB : K.In (hidT s₁.heap H) := by
    intro b o e
    exact hidT_get (inK b o e) (off (inK b o e) fun z n _ => by rw [← z, e] at n; cases n)
  have lim : (hidT s₁.heap H).NoLimit := by
    obtain ⟨mc, h1, h2⟩ := nol
    exact ⟨mc, nsB h1, h2⟩
  have M : Mod K mg (hidT s₁.heap H) := ⟨inB, nsB gl, ⟨mb, nsB bl, bb⟩, lim⟩
  have e0 : Env0 P w K mg (hidT s₁.heap H) callerA [] s₁ H :=
    ⟨rfl, M, fun b o e => of_hidT e, Nat.le_of_eq (hidT_size s₁.heap H), trivial, fun b z => (by cases z), ok, .of_eq gn⟩
  have go := (F _ inB (nsB gl)).goes callerA [] s₁ H ⟨[.ref a], []⟩ [.ref a] [.ref a] _ _ rfl hr e0 (hb s₁ (.ref a)) (.cons rfl .nil) hsp
  refine codeAny_mono go ?_
  intro r s' z
  match r, z with
  | .error e, z => exact z.elim
  | .ok (.ret u), z =>
    obtain ⟨v, H', os, bare, un, ok', rv, q⟩ := z
    have q : v = .bl true := q
    subst q
    have ru : u = Value.bool true := rv
    subst ru
    refine And.intro rfl (And.intro (OldK.of_keep ?_) (And.intro os bare))
    intro b o e
    cases q : H b with
    | none => exact un.keep b o e q (fun z => by cases z) (fun z => by cases z)
    | some u =>
      obtain ⟨e1, e2, e3⟩ := what b u q
      subst e3
      have g1 := (ok b _ q).1
      have g2 := (ok' b _ (un.frzs b _ _ q)).1
      rw [e] at g1
      rw [g2, g1]
theorem law_callG (inK : K.In s₁.heap) (gl : s₁.heap.Ns mainGlobals mg) (bl : s₁.heap.Ns builtinsNs mb)
    (bb : ∀ y : Str, y ≠ "__name__" → mb y = bootBuiltins y) (nol : s₁.heap.NoLimit) (gn : s₁.gens = #[])
    (ha : s₁.heap.get? a = some { cls := .type "list", data := .seq vs.toArray }) (hi : IntsAre vs ns) (hl : ns.length ≤ sizeLine)
    (hr : Room k callerA) (F : ∀ base : Heap, K.In base → base.Ns mainGlobals mg → FnG P w K mg base CX0 k fa fd [x] sp)
    (hb : ∀ (s : Shared) (u : Value), BindsTo s fd ⟨[u], []⟩ [(x, u)])
    (hsp : ∀ H : Hp, SqL K H a (ns.map V.int) → (∀ b o, H b = some o → b = a) → sp [.ref a] H (fun v _ => v = .bl true) fun _ _ _ => False) :
    codeAny (model P w) callerA (.call (.ref fa) ⟨[.ref a], []⟩) (LawEnd s₁) s₁ := by
  have rv := vals_ints hi
  have len : (ns.map V.int).length ≤ sizeLine := by rw [List.length_map]; exact hl
  cases hk : K.lookup a with
  | some o =>
    have e := inK a o hk
    rw [ha] at e
    obtain rfl := Option.some.inj e
    refine lawGoes (H := fun _ => none) (ns := ns) inK gl bl bb nol gn ha (fun b u z => by cases z) (fun b u z => by cases z) hr F hb (hsp _ ?_ (fun b o z => by cases z))
    exact Or.inr ⟨_, vs.toArray, _, hk, rfl, rfl, rfl, by rw [List.size_toArray, hi.length]; exact hl, by simpa using rv⟩
  | none =>
    have fz : ∀ b u, upd (fun _ => none) a (.frz { cls := .type "list", data := .seq vs.toArray } (.lst (ns.map V.int))) b = some u →
        b = a ∧ u = .frz { cls := .type "list", data := .seq vs.toArray } (.lst (ns.map V.int)) := by
      intro b u z
      by_cases e : b = a
      · subst e
        rw [upd_same] at z
        exact ⟨rfl, (Option.some.inj z).symm⟩
      · rw [upd_ne e] at z
        cases z
    refine lawGoes (H := upd (fun _ => none) a (.frz _ (.lst (ns.map V.int)))) inK gl bl bb nol gn ha ?_ (fun b u z => ⟨(fz b u z).1, hk, (fz b u z).2⟩) hr F hb
      (hsp _ (Or.inl (Or.inr ⟨_, upd_same⟩)) fun b o z => (fz b o z).1)
    intro b u z
    obtain ⟨e1, e2⟩ := fz b u z
    subst e1 e2
    exact ⟨ha, len, vs, _, rv, ha⟩
theorem walkG {l : PySem.W.OpenLaw} {n k : Nat} {q : Program} {loose : List Str} {XP : (Str → Option Value) → Heap → Prop} {YP : World → Heap → Prop} {d : DefRec}
    {K : Params → PySem.W.Frag} {sp : World → Sp} {x : Str} (hn : l.most = some n) (hn2 : n ≤ sizeLine) (hdf : d.params.defaults = []) (hr : Room k callerA)
    (hY : ∀ (w : World) (h : Heap), YP w h → (K w.params).In h)
    (F : ∀ (w : World) (mg : Str → Option Value) (fa : Addr) (h : Heap), (K w.params).In h → h.Ns mainGlobals mg → mg d.name = some (.ref fa) →
      ∃ fd : FuncData, (∀ (s : Shared) (u : Value), BindsTo s fd ⟨[u], []⟩ [(x, u)]) ∧
        ∀ base : Heap, (K w.params).In base → base.Ns mainGlobals mg → FnG l.prog w (K w.params) mg base CX0 k fa fd [x] (sp w))
    (hsp : ∀ (w : World) (H : Hp) (a : Addr) (ns : List Int), ns.length ≤ n → (∀ b o, H b = some o → b = a) → SqL (K w.params) H a (ns.map V.int) →
      sp w [.ref a] H (fun v _ => v = .bl true) fun _ _ _ => False) :
    PySem.W.WalkO q loose XP YP l.row.toRowW d [] (fun f vs => PySem.call f vs) := by
  apply Att.attach_call hn hdf
  intro w s₀ s₁ mg mb fa o pm cd doc a vs ns G Y ho hd hcd hmg hobj hints hlen hg
  obtain ⟨fd, hb, hF⟩ := F w mg fa _ (hY w _ Y) G.T.g hmg
  exact law_callG (hY w _ Y) G.T.g G.T.b G.T.builtins G.T.nolimit hg hobj hints (Nat.le_trans hlen hn2) hr hF hb (fun H hS hO => hsp w H a ns hlen hO hS)
end
end Hw
/-! Data of tuples; what stays; the feed of the laws. -/
namespace Hw
open PySem PySem.Spec PyProof.Rows L2

/-- all but the objects of S stay as they were; tuples and locked things stay in any case -/
structure Kp (S : Addr → Prop) (H H' : Hp) : Prop where
  same : ∀ a o, ¬ S a → H a = some o → H' a = some o
  tups : ∀ a xs, H a = some (.tup xs) → H' a = some (.tup xs)
  frzs : ∀ a o u, H a = some (.frz o u) → H' a = some (.frz o u)
  live : ∀ a, H' a = none → H a = none
abbrev Non : Addr → Prop := fun _ => False
abbrev At (d : Addr) : Addr → Prop := fun b => b = d
section
variable {S T : Addr → Prop} {H H1 H2 : Hp} {p d a : Addr} {o u : HO} {K : PySem.W.Frag} {xs : List V}
theorem Kp.refl : Kp S H H := ⟨fun _ _ _ h => h, fun _ _ h => h, fun _ _ _ h => h, fun _ h => h⟩
theorem Kp.trans (a : Kp S H H1) (b : Kp S H1 H2) : Kp S H H2 :=
  ⟨fun c o n h => b.same c o n (a.same c o n h), fun c xs h => b.tups c xs (a.tups c xs h), fun c o u h => b.frzs c o u (a.frzs c o u h), fun c h => a.live c (b.live c h)⟩
theorem Kp.wide (a : Kp S H H1) (h : ∀ b, S b → T b) : Kp T H H1 := ⟨fun c o n e => a.same c o (fun z => n (h c z)) e, a.tups, a.frzs, a.live⟩
theorem Kp.of (h : Same H H1) : Kp S H H1 := ⟨fun a o _ e => h a o e, fun a xs e => h a _ e, fun a o u e => h a _ e, fun a e => h.free e⟩
theorem Kp.non (h : Kp Non H H1) : Kp S H H1 := h.wide fun _ z => z.elim
theorem Kp.toSame (h : Kp Non H H1) : Same H H1 := fun a o e => h.same a o (fun z => z) e
theorem Kp.new (h : H p = none) : Kp S H (upd H p o) := Kp.of fun b x e => by
  rw [upd_ne (ne_of_none e h)]
  exact e
/-- a changed object that is neither a tuple nor locked -/
theorem Kp.put (h : H p = some u) (n1 : ∀ xs, u ≠ .tup xs) (n2 : ∀ o v, u ≠ .frz o v) : Kp (At p) H (upd H p o) := by
  refine ⟨fun a x n e => ?_, fun a xs e => ?_, fun a x y e => ?_, fun a e => ?_⟩
  · rw [upd_ne n]; exact e
  · rw [upd_ne (ne_of e h (n1 xs).symm)]; exact e
  · rw [upd_ne (ne_of e h (n2 x y).symm)]; exact e
  · by_cases z : a = p
    · rw [z, upd_same] at e; cases e
    · rw [upd_ne z] at e; exact e
theorem Kp.putL (h : H p = some (.lst xs)) : Kp (At p) H (upd H p o) := Kp.put h (fun _ z => by cases z) (fun _ _ z => by cases z)
/-- what is new to H may be forgotten -/
theorem Kp.drop (h : Kp (fun b => b = p ∨ S b) H H1) (n : H p = none) : Kp S H H1 :=
  ⟨fun a o z e => h.same a o (fun q => q.elim (fun q => by rw [q, n] at e; cases e) z) e, h.tups, h.frzs, h.live⟩
theorem Kp.rdT (h : Kp S H H1) (e : Rd H a (.tup xs)) : Rd H1 a (.tup xs) := by
  rcases e with e | ⟨o, e⟩
  · exact .inl (h.tups _ _ e)
  · exact .inr ⟨o, h.frzs _ _ _ e⟩
theorem Kp.sqT (h : Kp S H H1) (e : SqT K H a xs) : SqT K H1 a xs := by
  rcases e with e | e
  · exact .inl (h.rdT e)
  · exact .inr e
theorem Kp.lst (h : Kp S H H1) (n : ¬ S a) (e : H a = some (.lst xs)) : H1 a = some (.lst xs) := h.same _ _ n e
theorem Kp.sqL (h : Kp S H H1) (n : ¬ S a) (e : SqL K H a xs) : SqL K H1 a xs := by
  rcases e with (e | ⟨o, e⟩) | e
  · exact .inl (.inl (h.same _ _ n e))
  · exact .inl (.inr ⟨o, h.frzs _ _ _ e⟩)
  · exact .inr e
end

/-! ### data of tuples: whatever is done, it stays -/
mutual
/-- v reads as d, all tuples -/
inductive TD (K : PySem.W.Frag) (H : Hp) : V → PyData → Prop
  | non : TD K H .non .none
  | bl (b : Bool) : TD K H (.bl b) (.bool b)
  | int (i : Int) : TD K H (.int i) (.int i)
  | str (x : Str) : TD K H (.str x) (.str x)
  | tup {a : Addr} {xs : List V} {ds : List PyData} : SqT K H a xs → TDs K H xs ds → TD K H (.ref a) (.tuple ds)
inductive TDs (K : PySem.W.Frag) (H : Hp) : List V → List PyData → Prop
  | nil : TDs K H [] []
  | cons {v : V} {vs : List V} {d : PyData} {ds : List PyData} : TD K H v d → TDs K H vs ds → TDs K H (v :: vs) (d :: ds)
end
section
variable {K : PySem.W.Frag} {H H' : Hp} {S : Addr → Prop}
mutual
theorem TD.kp (k : Kp S H H') : ∀ {v : V} {d : PyData}, TD K H v d → TD K H' v d
  | _, _, .non => .non
  | _, _, .bl b => .bl b
  | _, _, .int i => .int i
  | _, _, .str x => .str x
  | _, _, .tup h r => .tup (k.sqT h) (TDs.kp k r)
theorem TDs.kp (k : Kp S H H') : ∀ {vs : List V} {ds : List PyData}, TDs K H vs ds → TDs K H' vs ds
  | _, _, .nil => .nil
  | _, _, .cons h r => .cons (TD.kp k h) (TDs.kp k r)
end
mutual
theorem TD.dp : ∀ {v : V} {d : PyData}, TD K H v d → Dp K H v d
  | _, _, .non => .non
  | _, _, .bl b => .bl b
  | _, _, .int i => .int i
  | _, _, .str x => .str x
  | _, _, .tup h r => .tup h (TDs.dp r)
theorem TDs.dp : ∀ {vs : List V} {ds : List PyData}, TDs K H vs ds → DpAll K H vs ds
  | _, _, .nil => .nil
  | _, _, .cons h r => .cons (TD.dp h) (TDs.dp r)
end
theorem TDs.length : ∀ {vs : List V} {ds : List PyData}, TDs K H vs ds → vs.length = ds.length
  | _, _, .nil => rfl
  | _, _, .cons _ r => congrArg (· + 1) (TDs.length r)
theorem TDs.get : ∀ {vs : List V} {ds : List PyData} {i : Nat} {v : V}, TDs K H vs ds → vs[i]? = some v → ∃ d, ds[i]? = some d ∧ TD K H v d
  | _, _, _, _, .nil, e => by simp at e
  | _, _, 0, _, .cons h _, e => by simp at e; subst e; exact ⟨_, rfl, h⟩
  | _, _, i + 1, v, .cons _ r, e => by
    obtain ⟨d, h1, h2⟩ := TDs.get (i := i) r (by simpa using e)
    exact ⟨d, by simpa using h1, h2⟩
theorem TDs.at : ∀ {vs : List V} {ds : List PyData} {i : Nat} {d : PyData}, TDs K H vs ds → ds[i]? = some d → ∃ v, vs[i]? = some v ∧ TD K H v d
  | _, _, _, _, .nil, e => by simp at e
  | _, _, 0, _, .cons h _, e => by simp at e; subst e; exact ⟨_, rfl, h⟩
  | _, _, i + 1, d, .cons _ r, e => by
    obtain ⟨v, h1, h2⟩ := TDs.at (i := i) r (by simpa using e)
    exact ⟨v, by simpa using h1, h2⟩
theorem TDs.append : ∀ {vs ws : List V} {ds es : List PyData}, TDs K H vs ds → TDs K H ws es → TDs K H (vs ++ ws) (ds ++ es)
  | _, _, _, _, .nil, r => r
  | _, _, _, _, .cons h q, r => .cons h (TDs.append q r)
theorem TDs.drop : ∀ {vs : List V} {ds : List PyData} (n : Nat), TDs K H vs ds → TDs K H (vs.drop n) (ds.drop n)
  | _, _, 0, r => r
  | _, _, _ + 1, .nil => .nil
  | _, _, n + 1, .cons _ r => TDs.drop n r
theorem TDs.take : ∀ {vs : List V} {ds : List PyData} (n : Nat), TDs K H vs ds → TDs K H (vs.take n) (ds.take n)
  | _, _, 0, _ => .nil
  | _, _, _ + 1, .nil => .nil
  | _, _, n + 1, .cons h r => .cons h (TDs.take n r)
theorem TDs.reverse : ∀ {vs : List V} {ds : List PyData}, TDs K H vs ds → TDs K H vs.reverse ds.reverse
  | _, _, .nil => .nil
  | _, _, .cons h r => by
    rw [List.reverse_cons, List.reverse_cons]
    exact TDs.append (TDs.reverse r) (.cons h .nil)
theorem TD.ref {v : V} {ds : List PyData} (h : TD K H v (.tuple ds)) : ∃ a xs, v = .ref a ∧ SqT K H a xs ∧ TDs K H xs ds := by
  cases h with
  | tup h r => exact ⟨_, _, rfl, h, r⟩
theorem TD.toInt {v : V} {i : Int} (h : TD K H v (.int i)) : v = .int i := by cases h; rfl
theorem TD.toStr {v : V} {i : Str} (h : TD K H v (.str i)) : v = .str i := by cases h; rfl
theorem TD.toBl {v : V} {i : Bool} (h : TD K H v (.bool i)) : v = .bl i := by cases h; rfl
theorem TD.toNon {v : V} (h : TD K H v .none) : v = .non := by cases h; rfl
end

/-! ### the feed -/
def kCells : Key := Sum.inr "cells"
def kAt : Key := Sum.inr "at"
def kLeft : Key := Sum.inr "left"
def kTurn : Key := Sum.inr "turn"
def feedKvs (c : Addr) (p l t : Int) : List (Key × V) := [(kCells, .ref c), (kAt, .int p), (kLeft, .int l), (kTurn, .int t)]
theorem valV_ne {κ : Type} [DecidableEq κ] {p : κ × V} {r : List (κ × V)} {k : κ} (e : p.1 ≠ k) : valV (p :: r) k = valV r k := by simp [valV, List.find?_cons, e]
theorem k1 : kCells ≠ kAt := by decide +kernel
theorem k2 : kCells ≠ kLeft := by decide +kernel
theorem k3 : kCells ≠ kTurn := by decide +kernel
theorem k4 : kAt ≠ kLeft := by decide +kernel
theorem k5 : kAt ≠ kTurn := by decide +kernel
theorem k6 : kLeft ≠ kTurn := by decide +kernel
section
variable {c : Addr} {p l t z : Int}
theorem fk_cells : valV (feedKvs c p l t) kCells = some (.ref c) := valV_pos rfl
theorem fk_at : valV (feedKvs c p l t) kAt = some (.int p) := (valV_ne k1).trans (valV_pos rfl)
theorem fk_left : valV (feedKvs c p l t) kLeft = some (.int l) := (valV_ne k2).trans ((valV_ne k4).trans (valV_pos rfl))
theorem fk_turn : valV (feedKvs c p l t) kTurn = some (.int t) := (valV_ne k3).trans ((valV_ne k5).trans ((valV_ne k6).trans (valV_pos rfl)))
theorem fp_at : putK (feedKvs c p l t) kAt (.int z) = feedKvs c z l t := by
  simp [putK, feedKvs, k1, k1.symm, k2, k3, k4, k4.symm, k5, k5.symm, k6]
theorem fp_left : putK (feedKvs c p l t) kLeft (.int z) = feedKvs c p z t := by
  simp [putK, feedKvs, k2, k2.symm, k4, k4.symm, k6, k6.symm]
theorem fp_turn : putK (feedKvs c p l t) kTurn (.int z) = feedKvs c p l z := by
  simp [putK, feedKvs, k3, k3.symm, k5, k5.symm, k6, k6.symm]
end
end Hw

/-! ### steps of a reading -/
namespace Hw
open PySem PySem.Spec PyProof.Rows L2
section
variable {σ : L2.St} {H : Hp} {D : Ends} {Q : VK} {QB : Bool → Hp → Prop} {QA : List V → Hp → Prop} {t u : TS} {te ta tb tc : TE} {tt tu : TT} {tr : TA} {g : TG}
theorem sSeq (h : t { D with nx := u D } σ H) : tSeq t u D σ H := h
theorem sNext (h : D.nx σ H) : tNext D σ H := h
theorem sAsg (h : te σ H fun x H1 => g x σ H1 D.nx) : tAsg te g D σ H := h
theorem sRet (h : te σ H D.rt) : tRet te D σ H := h
theorem sRetN (h : D.rt .non H) : tRetN D σ H := h
theorem sDrop (h : te σ H fun _ H1 => D.nx σ H1) : tDrop te D σ H := h
theorem sIfS (h : tt σ H fun b H1 => if b = true then t D σ H1 else u D σ H1) : tIfS tt t u D σ H := h
theorem sBreak (h : D.bk σ H) : tBreak D σ H := h
theorem sCont (h : D.ct σ H) : tCont D σ H := h
theorem sVar {i : Nat} {v : V} (e : σ[i]? = some (some v)) (h : Q v H) : tVar i σ H Q := ⟨v, e, h⟩
theorem sC {v : V} (h : Q v H) : tC v σ H Q := h
theorem sOp {r : R2} (h : ta σ H fun x H1 => tb σ H1 fun y H2 => r x y H2 Q) : tOp r ta tb σ H Q := h
theorem sUn {r : V → Hp → VK → Prop} (h : ta σ H fun x H1 => r x H1 Q) : tUn r ta σ H Q := h
theorem sU {g : Int → V} {i : Int} (h : Q (g i) H) : rU g (.int i) H Q := ⟨i, rfl, h⟩
theorem sI0 {g : Int → Int → V} {i j : Int} (h : Q (g i j) H) : rI0 g (.int i) (.int j) H Q := ⟨i, j, rfl, rfl, h⟩
theorem sI {C : Int → Int → Prop} {g : Int → Int → V} {i j : Int} (c : C i j) (h : Q (g i j) H) : rI C g (.int i) (.int j) H Q := ⟨i, j, rfl, rfl, c, h⟩
theorem sEqI {i j : Int} (h : Q (.bl (decide (i = j))) H) : rEq (.int i) (.int j) H Q := ⟨rfl, by rwa [show decide (V.int i = V.int j) = decide (i = j) from by simp]⟩
theorem sNeI {i j : Int} (h : Q (.bl (!decide (i = j))) H) : rNe (.int i) (.int j) H Q := ⟨rfl, by rwa [show decide (V.int i = V.int j) = decide (i = j) from by simp]⟩
theorem sEqS {i j : Str} (h : Q (.bl (decide (i = j))) H) : rEq (.str i) (.str j) H Q := ⟨rfl, by rwa [show decide (V.str i = V.str j) = decide (i = j) from by simp]⟩
theorem sNeS {i j : Str} (h : Q (.bl (!decide (i = j))) H) : rNe (.str i) (.str j) H Q := ⟨rfl, by rwa [show decide (V.str i = V.str j) = decide (i = j) from by simp]⟩
theorem sCB {r : List V → Hp → VK → Prop} (h : tr σ H fun vs H1 => r vs H1 Q) : tCB r tr σ H Q := h
theorem sCons (h : ta σ H fun x H1 => tr σ H1 fun xs H2 => QA (x :: xs) H2) : tCons ta tr σ H QA := h
theorem sNil (h : QA [] H) : tNil σ H QA := h
theorem sTest (h : te σ H fun x H1 => ∃ k, x = .bl k ∧ QB k H1) : tTest te σ H QB := h
theorem sB (h : te σ H fun x H1 => ∃ k, x = .bl k ∧ QB k H1) : tB te σ H QB := h
theorem sBl {b : Bool} {P : Bool → Prop} (h : P b) : ∃ k, V.bl b = V.bl k ∧ P k := ⟨b, rfl, h⟩
theorem sAnd (h : tt σ H fun c H1 => if c = true then tu σ H1 QB else QB false H1) : tAnd tt tu σ H QB := h
theorem sOr (h : tt σ H fun c H1 => if c = true then QB true H1 else tu σ H1 QB) : tOr tt tu σ H QB := h
theorem sNot (h : tt σ H fun c H1 => QB (!c) H1) : tNot tt σ H QB := h
theorem sAndV (h : ta σ H fun x H1 => ∃ c, x = .bl c ∧ if c = true then tb σ H1 Q else Q (.bl false) H1) : tAndV ta tb σ H Q := h
theorem sOrV (h : ta σ H fun x H1 => ∃ c, x = .bl c ∧ if c = true then Q (.bl true) H1 else tb σ H1 Q) : tOrV ta tb σ H Q := h
theorem sNotV (h : ta σ H fun x H1 => ∃ c, x = .bl c ∧ Q (.bl (!c)) H1) : tNotV ta σ H Q := h
theorem sIf (h : tt σ H fun c H1 => if c = true then ta σ H1 Q else tb σ H1 Q) : tIf tt ta tb σ H Q := h
theorem sName {i : Nat} {v : V} {Q : L2.St → Hp → Prop} (h : Q (σ.set i (some v)) H) : gName i v σ H Q := h
theorem sTup (h : tr σ H fun xs H1 => xs.length ≤ sizeLine ∧ ∀ p, H1 p = none → Q (.ref p) (upd H1 p (.tup xs))) : tTup tr σ H Q := h
theorem sLst (h : tr σ H fun xs H1 => xs.length ≤ sizeLine ∧ ∀ p, H1 p = none → Q (.ref p) (upd H1 p (.lst xs))) : tLst tr σ H Q := h
theorem sCall {sp : Sp} {dvs : List V} {E : XK} (h : tr σ H fun vs H1 => sp (vs ++ dvs) H1 Q E) : tCall sp dvs E tr σ H Q := h
theorem sLsts {xs : List V} {H1 : Hp} (l : xs.length ≤ sizeLine) (h : ∀ p H', Kp Non H1 H' → H1 p = none → H' p = some (.lst xs) → Q (.ref p) H') :
    xs.length ≤ sizeLine ∧ ∀ p, H1 p = none → Q (.ref p) (upd H1 p (.lst xs)) := ⟨l, fun p n => h p _ (Kp.new n) n upd_same⟩
theorem sNew {H1 : Hp} {o : HO} (h : ∀ p H', Kp Non H1 H' → H1 p = none → H' p = some o → Q (.ref p) H') :
    ∀ p, H1 p = none → Q (.ref p) (upd H1 p o) := fun p n => h p _ (Kp.new n) n upd_same
theorem ifD {p : Prop} [Decidable p] {A B : Prop} (h1 : p → A) (h2 : ¬ p → B) : if decide p = true then A else B := by
  by_cases h : p
  · rw [if_pos (decide_eq_true h)]; exact h1 h
  · rw [if_neg (by simp [h])]; exact h2 h
theorem ifN {p : Prop} [Decidable p] {A B : Prop} (h1 : ¬ p → A) (h2 : p → B) : if (!decide p) = true then A else B := by
  by_cases h : p
  · rw [if_neg (by simp [h])]; exact h2 h
  · rw [if_pos (by simp [h])]; exact h1 h
theorem sTups {xs : List V} {H1 : Hp} (l : xs.length ≤ sizeLine) (h : ∀ p H', Kp Non H1 H' → H1 p = none → H' p = some (.tup xs) → Q (.ref p) H') :
    xs.length ≤ sizeLine ∧ ∀ p, H1 p = none → Q (.ref p) (upd H1 p (.tup xs)) := ⟨l, fun p n => h p _ (Kp.new n) n upd_same⟩
end
section
variable {σ : L2.St} {H : Hp} {D : Ends} {Q : VK} {td ty tv : TE}
theorem sDPut' (h : tv σ H fun v H1 => td σ H1 fun x H2 => ty σ H2 fun y H3 => ∃ a H4, x = .ref a ∧ DPut H3 a y v H4 ∧ D.nx σ H4) : sDPut td ty tv D σ H := h
theorem sDGet (h : td σ H fun x H1 => ty σ H1 fun y H2 => ∃ a v, x = .ref a ∧ DGet H2 a y (some v) ∧ Q v H2) : tDGet td ty σ H Q := h
theorem sPar3 {i j l : Nat} {ta : TA} (h : ta σ H fun vs H1 => ∃ u v w, vs = [u, v, w] ∧ D.nx (((σ.set i (some u)).set j (some v)).set l (some w)) H1) : tPar3 i j l ta D σ H := h
theorem sThree {x y z : V} {P : V → V → V → Prop} (h : P x y z) : ∃ u v w, [x, y, z] = [u, v, w] ∧ P u v w := ⟨x, y, z, rfl, h⟩
theorem sPar {i j : Nat} {ta : TA} (h : ta σ H fun vs H1 => ∃ u v, vs = [u, v] ∧ D.nx ((σ.set i (some u)).set j (some v)) H1) : tPar i j ta D σ H := h
theorem sTwo {x y : V} {P : V → V → Prop} (h : P x y) : ∃ u v, [x, y] = [u, v] ∧ P u v := ⟨x, y, rfl, h⟩
theorem sSl {r : V → Option Int → Option Int → Hp → VK → Prop} {te : TE} {tl th : TO} (h : te σ H fun x H1 => tl σ H1 fun l H2 => th σ H2 fun u H3 => r x l u H3 Q) : tSl r te tl th σ H Q := h
theorem sPart {te : TE} {QO : Option Int → Hp → Prop} (h : te σ H fun x H1 => ∃ i, x = .int i ∧ QO (some i) H1) : tPart te σ H QO := h
theorem sNoPart {QO : Option Int → Hp → Prop} (h : QO none H) : tNoPart σ H QO := h
theorem sInt {i : Int} {P : Int → Prop} (h : P i) : ∃ k, V.int i = V.int k ∧ P k := ⟨i, rfl, h⟩
end
/-- the feed's dict and its cells, item by item -/
structure FR (H : Hp) (d c : Addr) (ns : List Int) (p l t : Int) : Prop where
  dict : H d = some (.dK (feedKvs c p l t))
  cells : H c = some (.lst (ns.map V.int))
section
variable {H : Hp} {d c : Addr} {ns : List Int} {p l t z : Int} {Q : V → Prop} {R : Hp → Prop}
theorem FR.ne (h : FR H d c ns p l t) : c ≠ d := ne_of h.cells h.dict (by intro z; cases z)
theorem FR.kp {H' : Hp} (h : FR H d c ns p l t) (k : Kp Non H H') : FR H' d c ns p l t := ⟨k.same _ _ (fun z => z) h.dict, k.same _ _ (fun z => z) h.cells⟩
theorem FR.gCells (h : FR H d c ns p l t) (q : Q (.ref c)) : ∃ a v, V.ref d = .ref a ∧ DGet H a (.str "cells") (some v) ∧ Q v :=
  ⟨d, _, rfl, by rw [← fk_cells (c := c) (p := p) (l := l) (t := t)]; exact DGet.k (k := kCells) h.dict, q⟩
theorem FR.gAt (h : FR H d c ns p l t) (q : Q (.int p)) : ∃ a v, V.ref d = .ref a ∧ DGet H a (.str "at") (some v) ∧ Q v :=
  ⟨d, _, rfl, by rw [← fk_at (c := c) (p := p) (l := l) (t := t)]; exact DGet.k (k := kAt) h.dict, q⟩
theorem FR.gLeft (h : FR H d c ns p l t) (q : Q (.int l)) : ∃ a v, V.ref d = .ref a ∧ DGet H a (.str "left") (some v) ∧ Q v :=
  ⟨d, _, rfl, by rw [← fk_left (c := c) (p := p) (l := l) (t := t)]; exact DGet.k (k := kLeft) h.dict, q⟩
theorem FR.gTurn (h : FR H d c ns p l t) (q : Q (.int t)) : ∃ a v, V.ref d = .ref a ∧ DGet H a (.str "turn") (some v) ∧ Q v :=
  ⟨d, _, rfl, by rw [← fk_turn (c := c) (p := p) (l := l) (t := t)]; exact DGet.k (k := kTurn) h.dict, q⟩
theorem FR.put (h : FR H d c ns p l t) {p' l' t' : Int} : FR (upd H d (.dK (feedKvs c p' l' t'))) d c ns p' l' t' := ⟨upd_same, by rw [upd_ne h.ne]; exact h.cells⟩
theorem FR.kput (h : FR H d c ns p l t) {o : HO} : Kp (At d) H (upd H d o) := Kp.put h.dict (fun _ z => by cases z) (fun _ _ z => by cases z)
theorem FR.pAt (h : FR H d c ns p l t) (q : ∀ H', Kp (At d) H H' → FR H' d c ns z l t → R H') : ∃ a H4, V.ref d = .ref a ∧ DPut H a (.str "at") (.int z) H4 ∧ R H4 :=
  ⟨d, _, rfl, DPut.k (k := kAt) h.dict (small1000 (Nat.le_of_ble_eq_true rfl)), by rw [fp_at]; exact q _ h.kput h.put⟩
theorem FR.pLeft (h : FR H d c ns p l t) (q : ∀ H', Kp (At d) H H' → FR H' d c ns p z t → R H') : ∃ a H4, V.ref d = .ref a ∧ DPut H a (.str "left") (.int z) H4 ∧ R H4 :=
  ⟨d, _, rfl, DPut.k (k := kLeft) h.dict (small1000 (Nat.le_of_ble_eq_true rfl)), by rw [fp_left]; exact q _ h.kput h.put⟩
theorem FR.pTurn (h : FR H d c ns p l t) (q : ∀ H', Kp (At d) H H' → FR H' d c ns p l z → R H') : ∃ a H4, V.ref d = .ref a ∧ DPut H a (.str "turn") (.int z) H4 ∧ R H4 :=
  ⟨d, _, rfl, DPut.k (k := kTurn) h.dict (small1000 (Nat.le_of_ble_eq_true rfl)), by rw [fp_turn]; exact q _ h.kput h.put⟩
end
/-- the feed at d, its cells at c, good for b draws more -/
def Feed (H : Hp) (d c : Addr) (b : Nat) : Prop := ∃ (ns : List Int) (p l t : Int), FR H d c ns p l t ∧ ns.length ≤ 63 ∧ 0 ≤ p ∧ 0 ≤ l ∧ 0 ≤ t ∧ t + b ≤ 1000000
section
variable {H H' : Hp} {d c : Addr} {b b' : Nat} {S : Addr → Prop}
theorem Feed.kp (h : Feed H d c b) (k : Kp S H H') (n : ¬ S d) (n2 : ¬ S c) : Feed H' d c b := by
  obtain ⟨ns, p, l, t, h, r⟩ := h
  exact ⟨ns, p, l, t, ⟨k.same _ _ n h.dict, k.same _ _ n2 h.cells⟩, r⟩
theorem Feed.non (h : Feed H d c b) (k : Kp Non H H') : Feed H' d c b := h.kp k (fun z => z) (fun z => z)
theorem Feed.less (h : Feed H d c b) (e : b' ≤ b) : Feed H d c b' := by
  obtain ⟨ns, p, l, t, h, r1, r2, r3, r4, r5⟩ := h
  exact ⟨ns, p, l, t, h, r1, r2, r3, r4, by omega⟩
theorem Feed.ne (h : Feed H d c b) : c ≠ d := by
  obtain ⟨ns, p, l, t, h, r⟩ := h
  exact h.ne
theorem Feed.live (h : Feed H d c b) : H d ≠ none ∧ H c ≠ none := by
  obtain ⟨ns, p, l, t, h, r⟩ := h
  exact ⟨by rw [h.dict]; simp, by rw [h.cells]; simp⟩
theorem Feed.off (h : Feed H d c b) {D : Addr} (n : H D = none) : d ≠ D ∧ c ≠ D :=
  ⟨fun e => h.live.1 (e ▸ n), fun e => h.live.2 (e ▸ n)⟩
end
theorem mergeFeed (c : Addr) (p l t : Int) : mergeK [] (feedKvs c p l t) = feedKvs c p l t := by
  simp [mergeK, feedKvs, putK, k1, k2, k3, k4, k5, k6]
theorem fmod_lt {a m : Int} (h : 0 < m) : a.fmod m < m := by rw [Int.fmod_eq_emod_of_nonneg _ (Int.le_of_lt h)]; exact Int.emod_lt_of_pos _ h
theorem fmod_ge {a m : Int} (h : 0 < m) : 0 ≤ a.fmod m := by rw [Int.fmod_eq_emod_of_nonneg _ (Int.le_of_lt h)]; exact Int.emod_nonneg _ (by omega)
theorem fdiv_ge {a m : Int} (ha : 0 ≤ a) (h : 0 < m) : 0 ≤ a.fdiv m := by rw [Int.fdiv_eq_ediv_of_nonneg _ (Int.le_of_lt h)]; exact Int.ediv_nonneg ha (by omega)
theorem dpInts (K : PySem.W.Frag) (H : Hp) : ∀ ns : List Int, DpAll K H (ns.map V.int) (ns.map PyData.int)
  | [] => .nil
  | n :: r => .cons (.int n) (dpInts K H r)
theorem canInts : ∀ ns : List Int, PyData.canLayAll0 (ns.map PyData.int) = true
  | [] => rfl
  | _ :: r => by
    show (true && PyData.canLayAll0 (r.map PyData.int)) = true
    rw [canInts r]; rfl
theorem depthInts : ∀ ns : List Int, PyData.depthAll (ns.map PyData.int) = 0
  | [] => rfl
  | _ :: r => by
    show max 0 (PyData.depthAll (r.map PyData.int)) = 0
    rw [depthInts r]; rfl
theorem shapedInts (ns : List Int) : SeqAt.shaped (.list (ns.map PyData.int)) = true := by
  show (PyData.canLayAll0 (ns.map PyData.int) && decide (PyData.depthAll (ns.map PyData.int) + 1 ≤ 64)) = true
  rw [canInts, depthInts]; rfl
end Hw
/-! Rules whose new objects come with what stays, not with the heap written out. -/
namespace Hw
open PySem PySem.Spec PyProof.Rows L2
section
variable {X : Cx}
theorem peImp {e : Expr} {t u : TE} (h : PE X e t) (i : ∀ σ H Q, u σ H Q → t σ H Q) : PE X e u := ⟨fun pins s σ H Q I q => h.run pins s σ H Q I (i σ H Q q)⟩
/-- what follows may be weakened -/
def wk (t : TA) : TA := fun σ H Q => ∃ Q0 : List V → Hp → Prop, t σ H Q0 ∧ ∀ xs H', Q0 xs H' → Q xs H'
theorem paWk {es : List Expr} {t : TA} (h : PA X es t) : PA X es (wk t) := ⟨fun pos pins s σ H Q I q => by
  obtain ⟨Q0, q0, im⟩ := q
  exact thn (h.run pos pins s σ H Q0 I q0) fun us s1 ⟨vs, H1, I1, r, z⟩ => ⟨vs, H1, I1, r, im vs H1 z⟩⟩
def tTupG (t : TA) : TE := fun σ H Q => t σ H fun xs H1 => xs.length ≤ sizeLine ∧ ∀ p H', Kp Non H1 H' → H1 p = none → H' p = some (.tup xs) → Q (.ref p) H'
def tLstG (t : TA) : TE := fun σ H Q => t σ H fun xs H1 => xs.length ≤ sizeLine ∧ ∀ p H', Kp Non H1 H' → H1 p = none → H' p = some (.lst xs) → Q (.ref p) H'
theorem pe_tupG {es : List Expr} {t : TA} {x1} {pos : Pos} (h : PA X es t) : PE X (.Tuple es x1 pos) (tTupG t) :=
  peImp (pe_tup (paWk h)) fun σ H Q q => ⟨_, q, fun xs H' z => ⟨z.1, fun p n => z.2 p _ (Kp.new n) n upd_same⟩⟩
theorem pe_lstG {es : List Expr} {t : TA} {pos : Pos} (h : PA X es t) : PE X (.List es pos) (tLstG t) :=
  peImp (pe_lst (paWk h)) fun σ H Q q => ⟨_, q, fun xs H' z => ⟨z.1, fun p n => z.2 p _ (Kp.new n) n upd_same⟩⟩
/-! slices -/
def rSlLG (K : PySem.W.Frag) : V → Option Int → Option Int → Hp → VK → Prop := fun x lo hi H Q =>
  ∃ a xs, x = .ref a ∧ SqL K H a xs ∧ ∀ p H', Kp Non H H' → H p = none → H' p = some (.lst (cutV xs lo hi)) → Q (.ref p) H'
theorem sl_listG : SlR X (rSlLG X.K) := by
  intro pins s σ H x v vl vu lo hi sl Q I rx hs pl pu ⟨a, xs, e, h, q⟩
  exact sl_list pins s σ H x v vl vu lo hi sl Q I rx hs pl pu ⟨a, xs, e, h, fun p n => q p _ (Kp.new n) n upd_same⟩
def rSlTG (K : PySem.W.Frag) : V → Option Int → Option Int → Hp → VK → Prop := fun x lo hi H Q =>
  ∃ a xs, x = .ref a ∧ SqT K H a xs ∧ ∀ p H', Kp Non H H' → SqT K H' p (cutV xs lo hi) → Q (.ref p) H'
theorem sl_tupG : SlR X (rSlTG X.K) := by
  intro pins s σ H x v vl vu lo hi sl Q I rx hs pl pu ⟨a, xs, e, h, q⟩
  refine sl_tupA pins s σ H x v vl vu lo hi sl Q I rx hs pl pu ⟨a, xs, e, h, fun w => ?_, fun w p n => q p _ (Kp.new n) (.of upd_same)⟩
  refine q a H Kp.refl ?_
  have e2 : cutV xs lo hi = xs := by
    unfold cutV
    rw [w.1, w.2, List.drop_zero, Nat.sub_zero, List.take_length]
  rw [e2]
  exact h
/-! tuple(x), list(x) -/
def rTupG (K : PySem.W.Frag) : List V → Hp → VK → Prop := fun xs H Q => ∃ p ys, xs = [.ref p] ∧ (SqL K H p ys ∨ SqT K H p ys) ∧ ∀ l H', Kp Non H H' → SqT K H' l ys → Q (.ref l) H'
theorem call_tupleG : CallR X (.type "tuple") (rTupG X.K) := by
  intro pins s σ H xs us Q I r ⟨p, ys, e, h, q⟩
  refine call_tuple_of pins s σ H xs us Q I r ⟨p, ys, e, ?_⟩
  rcases h with h | h
  · exact .inl ⟨h, fun l n => q l _ (Kp.new n) (.of upd_same)⟩
  · exact .inr ⟨h, q p H Kp.refl h⟩
def rListG (K : PySem.W.Frag) : List V → Hp → VK → Prop := fun xs H Q => ∃ p ys, xs = [.ref p] ∧ (SqL K H p ys ∨ SqT K H p ys) ∧ ∀ l H', Kp Non H H' → H l = none → H' l = some (.lst ys) → Q (.ref l) H'
theorem call_listG : CallR X (.type "list") (rListG X.K) := by
  intro pins s σ H xs us Q I r ⟨p, ys, e, h, q⟩
  exact call_list_of pins s σ H xs us Q I r ⟨p, ys, e, h, fun l n => q l _ (Kp.new n) n upd_same⟩
/-! lists changed -/
def rAppG : V → List V → Hp → VK → Prop := fun x vs H Q => ∃ l xs y, x = .ref l ∧ vs = [y] ∧ H l = some (.lst xs) ∧ xs.length < sizeLine ∧
  ∀ H', Kp (At l) H H' → H' l = some (.lst (xs ++ [y])) → Q .non H'
theorem mt_appendG : MtM X "list.append" rAppG := by
  intro pins s σ H x xs v us Q I rx rv ⟨l, ys, y, e1, e2, h, hl, q⟩
  exact mt_append pins s σ H x xs v us Q I rx rv ⟨l, ys, y, e1, e2, h, hl, q _ (Kp.putL h) upd_same⟩
def rSetLG : V → V → V → Hp → (Hp → Prop) → Prop := fun o i v H Q => ∃ p xs k j, o = .ref p ∧ i = .int k ∧ H p = some (.lst xs) ∧ ixN xs.length k = some j ∧
  ∀ H', Kp (At p) H H' → H' p = some (.lst (xs.set j v)) → Q H'
theorem set_listG : PSet X rSetLG := by
  intro pins s σ H o i v a b c Q I ro ri rv ⟨p, xs, k, j, e1, e2, h, hj, q⟩
  exact set_list pins s σ H o i v a b c Q I ro ri rv ⟨p, xs, k, j, e1, e2, h, hj, q _ (Kp.putL h) upd_same⟩
def rRepG : R2 := fun x y H Q => ∃ l k xs, x = .ref l ∧ y = .int k ∧ H l = some (.lst xs) ∧ -(2 ^ 63) ≤ k ∧ k < 2 ^ 63 ∧ xs.length * k.toNat ≤ sizeLine ∧
  ∀ p H', Kp Non H H' → H p = none → H' p = some (.lst (List.replicate k.toNat xs).flatten) → Q (.ref p) H'
theorem op_repG : OpR X (binaryOp .Mult) rRepG := by
  intro pins s σ H x y v u Q I rx ry ⟨l, k, xs, e1, e2, h, h1, h2, h3, q⟩
  exact op_rep pins s σ H x y v u Q I rx ry ⟨l, k, xs, e1, e2, h, h1, h2, h3, fun p n => q p _ (Kp.new n) n upd_same⟩
end
/-! ### comprehensions -/
section
variable {K : PySem.W.Frag} {a : Addr} {xs : List V} {g : TG} {tt : TT} {te : TE} {vs : List Nat} {σ : L2.St} {H1 : Hp} {Q : VK} {S : Addr → Prop} {P : Nat → List V → Hp → Prop}
/-- one turn: how a kept item, a left out one go on -/
abbrev LcTurn (S : Addr → Prop) (P : Nat → List V → Hp → Prop) (g : TG) (tt : TT) (te : TE) (vs : List Nat) (σ : L2.St) (H1 : Hp) (i : Nat) (x : V) : Prop :=
  ∀ (D : Addr) (ys : List V) (H : Hp) (Z : Hp → Prop), Kp S H1 H → P i ys H →
    (∀ y H4, Kp S H H4 → P (i + 1) (ys ++ [y]) H4 → ∃ acc, H4 D = some (.lst acc) ∧ acc.length < sizeLine ∧ Z (upd H4 D (.lst (acc ++ [y])))) →
    (∀ H3, Kp S H H3 → P (i + 1) ys H3 → Z H3) →
    g x (wipe σ vs) H fun σ2 H2 => wipe σ2 vs = wipe σ vs ∧ tt σ2 H2 fun b H3 =>
      if b = true then te σ2 H3 fun y H4 => ∃ acc, H4 D = some (.lst acc) ∧ acc.length < sizeLine ∧ Z (upd H4 D (.lst (acc ++ [y]))) else Z H3
abbrev LcStab (P : Nat → List V → Hp → Prop) (H1 : Hp) : Prop := ∀ D, H1 D = none → ∀ i ys H H', P i ys H → Kp (At D) H H' → P i ys H'
/-- what stands between two turns -/
def LcAt (S : Addr → Prop) (P : Nat → List V → Hp → Prop) (H1 : Hp) (D : Addr) (i : Nat) (H : Hp) : Prop := ∃ ys, H D = some (.lst ys) ∧ ys.length ≤ i ∧ Kp S H1 H ∧ P i ys H
theorem lcStart {D : Addr} (nD : H1 D = none) (h0 : ∀ H', Kp Non H1 H' → P 0 [] H') : LcAt S P H1 D 0 (upd H1 D (.lst [])) :=
  ⟨[], upd_same, Nat.le_refl _, Kp.new nD, h0 _ (Kp.new nD)⟩
theorem lcGo {D : Addr} {i n : Nat} {x : V} {H : Hp} (nD : H1 D = none) (hS : ∀ b, S b → H1 b ≠ none) (stab : LcStab P H1) (hi : i < n) (hn : n ≤ sizeLine)
    (turn : LcTurn S P g tt te vs σ H1 i x) (h : LcAt S P H1 D i H) :
    g x (wipe σ vs) H fun σ2 H2 => wipe σ2 vs = wipe σ vs ∧ tt σ2 H2 fun b H3 =>
      if b = true then te σ2 H3 fun y H4 => ∃ acc, H4 D = some (.lst acc) ∧ acc.length < sizeLine ∧ LcAt S P H1 D (i + 1) (upd H4 D (.lst (acc ++ [y]))) else LcAt S P H1 D (i + 1) H3 := by
  obtain ⟨ys, e, l, k, p⟩ := h
  have nS : ¬ S D := fun z => hS D z nD
  refine turn D ys H _ k p (fun y H4 k4 p4 => ?_) (fun H3 k3 p3 => ⟨ys, k3.same _ _ nS e, Nat.le_succ_of_le l, k.trans k3, p3⟩)
  have e4 := k4.same _ _ nS e
  refine ⟨ys, e4, by omega, ys ++ [y], upd_same, by rw [List.length_append]; exact Nat.add_le_add_right l 1, ?_, stab D nD _ _ _ _ p4 (Kp.putL e4)⟩
  refine Kp.drop (p := D) (((k.trans k4).wide fun b z => .inr z).trans ((Kp.putL e4).wide fun b z => .inl z)) nD
/-- a comprehension over a tuple, a list, a range: what its reading asks of the thing walked -/
def LcT (K : PySem.W.Frag) (g : TG) (tt : TT) (te : TE) (vs : List Nat) (σ : L2.St) (Q : VK) (x : V) (H1 : Hp) : Prop := iTup K (tC x) σ H1 fun J H1 => ∀ D, H1 D = none → ∃ W : Nat → Nat → Hp → Prop, (∃ m, W 0 m (upd H1 D (.lst []))) ∧ ∀ i m H, W i m H →
  (J.stop i H ∧ Q (.ref D) H) ∨ (J.go i H ∧ ∃ Nx : Hp → Prop, (∀ H', Nx H' → ∃ m', m' < m ∧ W (i + 1) m' H') ∧ ∀ x H', J.yld i H x H' → g x (wipe σ vs) H' fun σ2 H2 => wipe σ2 vs = wipe σ vs ∧ tt σ2 H2 fun b H3 =>
    if b = true then te σ2 H3 fun y H4 => ∃ acc, H4 D = some (.lst acc) ∧ acc.length < sizeLine ∧ Nx (upd H4 D (.lst (acc ++ [y]))) else Nx H3)
def LcL (K : PySem.W.Frag) (g : TG) (tt : TT) (te : TE) (vs : List Nat) (σ : L2.St) (Q : VK) (x : V) (H1 : Hp) : Prop := iList K (tC x) σ H1 fun J H1 => ∀ D, H1 D = none → ∃ W : Nat → Nat → Hp → Prop, (∃ m, W 0 m (upd H1 D (.lst []))) ∧ ∀ i m H, W i m H →
  (J.stop i H ∧ Q (.ref D) H) ∨ (J.go i H ∧ ∃ Nx : Hp → Prop, (∀ H', Nx H' → ∃ m', m' < m ∧ W (i + 1) m' H') ∧ ∀ x H', J.yld i H x H' → g x (wipe σ vs) H' fun σ2 H2 => wipe σ2 vs = wipe σ vs ∧ tt σ2 H2 fun b H3 =>
    if b = true then te σ2 H3 fun y H4 => ∃ acc, H4 D = some (.lst acc) ∧ acc.length < sizeLine ∧ Nx (upd H4 D (.lst (acc ++ [y]))) else Nx H3)
def LcR (g : TG) (tt : TT) (te : TE) (vs : List Nat) (σ : L2.St) (Q : VK) (ta : TA) (H1 : Hp) : Prop := iRng1 ta σ H1 fun J H1 => ∀ D, H1 D = none → ∃ W : Nat → Nat → Hp → Prop, (∃ m, W 0 m (upd H1 D (.lst []))) ∧ ∀ i m H, W i m H →
  (J.stop i H ∧ Q (.ref D) H) ∨ (J.go i H ∧ ∃ Nx : Hp → Prop, (∀ H', Nx H' → ∃ m', m' < m ∧ W (i + 1) m' H') ∧ ∀ x H', J.yld i H x H' → g x (wipe σ vs) H' fun σ2 H2 => wipe σ2 vs = wipe σ vs ∧ tt σ2 H2 fun b H3 =>
    if b = true then te σ2 H3 fun y H4 => ∃ acc, H4 D = some (.lst acc) ∧ acc.length < sizeLine ∧ Nx (upd H4 D (.lst (acc ++ [y]))) else Nx H3)
theorem lcTup (hn : xs.length ≤ sizeLine) (src : SqT K H1 a xs) (hS : ∀ b, S b → H1 b ≠ none) (h0 : ∀ H', Kp Non H1 H' → P 0 [] H') (stab : LcStab P H1)
    (turn : ∀ i x, xs[i]? = some x → LcTurn S P g tt te vs σ H1 i x)
    (hd : ∀ D ys H', P xs.length ys H' → ys.length ≤ xs.length → Kp S H1 H' → H1 D = none → H' D = some (.lst ys) → Q (.ref D) H') :
    LcT K g tt te vs σ Q (.ref a) H1 :=
  ⟨a, rfl, ⟨xs, src⟩, fun D nD => lc_tup (K := K) (a := a) (xs := xs) (LcAt S P H1 D) (lcStart nD h0) (fun i H _ ⟨ys, _, _, k, _⟩ => k.sqT src)
    (fun i x H hx h => lcGo nD hS stab (List.getElem?_eq_some_iff.mp hx).1 hn (turn i x hx) h) (fun H ⟨ys, e, l, k, p⟩ => hd D ys H p l k nD e)⟩
theorem lcList (hn : xs.length ≤ sizeLine) (src : SqL K H1 a xs) (nSa : ¬ S a) (hS : ∀ b, S b → H1 b ≠ none) (h0 : ∀ H', Kp Non H1 H' → P 0 [] H') (stab : LcStab P H1)
    (turn : ∀ i x, xs[i]? = some x → LcTurn S P g tt te vs σ H1 i x)
    (hd : ∀ D ys H', P xs.length ys H' → ys.length ≤ xs.length → Kp S H1 H' → H1 D = none → H' D = some (.lst ys) → Q (.ref D) H') :
    LcL K g tt te vs σ Q (.ref a) H1 :=
  ⟨a, rfl, ⟨xs, src⟩, fun D nD => lc_list (K := K) (a := a) (xs := xs) (LcAt S P H1 D) (lcStart nD h0) (fun i H _ ⟨ys, _, _, k, _⟩ => k.sqL nSa src)
    (fun i x H hx h => lcGo nD hS stab (List.getElem?_eq_some_iff.mp hx).1 hn (turn i x hx) h) (fun H ⟨ys, e, l, k, p⟩ => hd D ys H p l k nD e)⟩
/-- one value, ready -/
def tC1 (v : V) : TA := fun _ H Q => Q [v] H
theorem lcRange {hi : Int} {n : Nat} (h0i : 0 ≤ hi) (en : hi.toNat = n) (hn : n ≤ 1000000) (hS : ∀ b, S b → H1 b ≠ none) (h0 : ∀ H', Kp Non H1 H' → P 0 [] H') (stab : LcStab P H1)
    (turn : ∀ i : Nat, i < n → LcTurn S P g tt te vs σ H1 i (.int (0 + i)))
    (hd : ∀ D ys H', P n ys H' → ys.length ≤ n → Kp S H1 H' → H1 D = none → H' D = some (.lst ys) → Q (.ref D) H') :
    LcR g tt te vs σ Q (tC1 (.int hi)) H1 :=
  ⟨hi, rfl, by omega, by omega, fun D nD => by
    subst en
    exact lc_range (LcAt S P H1 D) (lcStart nD h0) (fun i H hi h => lcGo nD hS stab hi (Nat.le_trans hn (by decide)) (turn i hi) h) (fun H ⟨ys, e, l, k, p⟩ => hd D ys H p l k nD e)⟩
end
section
variable {σ : L2.St} {H : Hp} {Q : VK} {tr : TA}
theorem sTupG (h : tr σ H fun xs H1 => xs.length ≤ sizeLine ∧ ∀ p H', Kp Non H1 H' → H1 p = none → H' p = some (.tup xs) → Q (.ref p) H') : tTupG tr σ H Q := h
theorem sLstG (h : tr σ H fun xs H1 => xs.length ≤ sizeLine ∧ ∀ p H', Kp Non H1 H' → H1 p = none → H' p = some (.lst xs) → Q (.ref p) H') : tLstG tr σ H Q := h
theorem sLen {xs : List V} {C : Prop} (l : xs.length ≤ sizeLine) (h : C) : xs.length ≤ sizeLine ∧ C := ⟨l, h⟩
theorem sLcL {K : PySem.W.Frag} {tl : TE} {g : TG} {tt : TT} {te : TE} {vs : List Nat} (h : tl σ H fun x H1 => LcL K g tt te vs σ Q x H1) : tLc (iList K tl) g tt te vs σ H Q := h
theorem sLcT {K : PySem.W.Frag} {tl : TE} {g : TG} {tt : TT} {te : TE} {vs : List Nat} (h : tl σ H fun x H1 => LcT K g tt te vs σ Q x H1) : tLc (iTup K tl) g tt te vs σ H Q := h
theorem sLcR {tl : TE} {g : TG} {tt : TT} {te : TE} {vs : List Nat} (h : tl σ H fun x H1 => LcR g tt te vs σ Q (tC1 x) H1) : tLc (iRng1 (tCons tl tNil)) g tt te vs σ H Q := h
/-- a for over a tuple, a list, a range -/
def ForL (K : PySem.W.Frag) (g : TG) (tb : TS) (D : Ends) (σ : L2.St) (x : V) (H1 : Hp) : Prop := tFor (iList K (tC x)) g tb D σ H1
def ForT (K : PySem.W.Frag) (g : TG) (tb : TS) (D : Ends) (σ : L2.St) (x : V) (H1 : Hp) : Prop := tFor (iTup K (tC x)) g tb D σ H1
def ForR (g : TG) (tb : TS) (D : Ends) (σ : L2.St) (x : V) (H1 : Hp) : Prop := tFor (iRng1 (tC1 x)) g tb D σ H1
theorem sForL {K : PySem.W.Frag} {tl : TE} {g : TG} {tb : TS} {D : Ends} (h : tl σ H fun x H1 => ForL K g tb D σ x H1) : tFor (iList K tl) g tb D σ H := h
theorem sForT {K : PySem.W.Frag} {tl : TE} {g : TG} {tb : TS} {D : Ends} (h : tl σ H fun x H1 => ForT K g tb D σ x H1) : tFor (iTup K tl) g tb D σ H := h
theorem sForR {tl : TE} {g : TG} {tb : TS} {D : Ends} (h : tl σ H fun x H1 => ForR g tb D σ x H1) : tFor (iRng1 (tCons tl tNil)) g tb D σ H := h
section
variable {K : PySem.W.Frag} {a : Addr} {xs : List V} {g : TG} {tb : TS} {D : Ends} (P : Nat → L2.St → Hp → Prop)
theorem forList (src : ∀ i σ H, P i σ H → SqL K H a xs) (h0 : P 0 σ H)
    (hs : ∀ i x σ H, xs[i]? = some x → P i σ H → g x σ H fun σ2 H2 => tb { D with nx := P (i + 1), ct := P (i + 1), bk := D.nx } σ2 H2) (hd : ∀ σ H, P xs.length σ H → D.nx σ H) : ForL K g tb D σ (.ref a) H :=
  ⟨a, rfl, ⟨xs, src 0 σ H h0⟩, for_list P h0 (fun i σ H _ p => src i σ H p) hs hd⟩
theorem forTup (src : ∀ i σ H, P i σ H → SqT K H a xs) (h0 : P 0 σ H)
    (hs : ∀ i x σ H, xs[i]? = some x → P i σ H → g x σ H fun σ2 H2 => tb { D with nx := P (i + 1), ct := P (i + 1), bk := D.nx } σ2 H2) (hd : ∀ σ H, P xs.length σ H → D.nx σ H) : ForT K g tb D σ (.ref a) H :=
  ⟨a, rfl, ⟨xs, src 0 σ H h0⟩, for_tup P h0 (fun i σ H _ p => src i σ H p) hs hd⟩
theorem forRange {hi : Int} {n : Nat} (en : hi.toNat = n) (l1 : -1000000 ≤ hi) (l2 : hi ≤ 1000000) (h0 : P 0 σ H)
    (hs : ∀ (i : Nat) σ H, i < n → P i σ H → g (.int (0 + i)) σ H fun σ2 H2 => tb { D with nx := P (i + 1), ct := P (i + 1), bk := D.nx } σ2 H2) (hd : ∀ σ H, P n σ H → D.nx σ H) : ForR g tb D σ (.int hi) H := by
  subst en
  exact ⟨hi, rfl, by omega, by omega, for_range P h0 hs hd⟩
end
theorem sYes {QB : Bool → Hp → Prop} (h : QB true H) : tYes σ H QB := h
theorem sGTup {K : PySem.W.Frag} {n : Nat} {t : TGs} {a : Addr} {xs : List V} {Qs : L2.St → Hp → Prop} (h : SqT K H a xs) (l : xs.length = n) (q : t xs σ H Qs) : gTup K n t (.ref a) σ H Qs := ⟨a, xs, rfl, h, l, q⟩
theorem sGCons {t : TG} {u : TGs} {v : V} {r : List V} {Qs : L2.St → Hp → Prop} (h : t v σ H fun σ' H' => u r σ' H' Qs) : gCons t u (v :: r) σ H Qs := ⟨v, r, rfl, h⟩
theorem sGNil {Qs : L2.St → Hp → Prop} (h : Qs σ H) : gNil [] σ H Qs := ⟨rfl, h⟩
theorem sGSub {to ti : TE} {t : TSet} {v : V} {Qs : L2.St → Hp → Prop} (h : to σ H fun o H1 => ti σ H1 fun i H2 => t o i v H2 fun H3 => Qs σ H3) : gSub to ti t v σ H Qs := h
end
/-- both branches of a conditional expression go on alike -/
theorem sIfE {b : Bool} {ta tb : TE} {σ : L2.St} {H : Hp} {F : VK} (P : V → Prop) (k : ∀ F' : VK, (∀ v, P v → F' v H) → if b = true then ta σ H F' else tb σ H F') (h : ∀ v, P v → F v H) :
    if b = true then ta σ H F else tb σ H F := k F h
/-- both branches of an if go on alike -/
theorem sAndJ {b : Bool} {tu : TT} {σ : L2.St} {H : Hp} {QB : Bool → Hp → Prop} (P : Bool → Prop) (k : ∀ F : Bool → Hp → Prop, (∀ c, P c → F c H) → if b = true then tu σ H F else F false H) (h : ∀ c, P c → QB c H) :
    if b = true then tu σ H QB else QB false H := k QB h
theorem sAndK {b : Bool} {tu : TT} {σ : L2.St} {H : Hp} {QB : Bool → Hp → Prop} (P : Bool → Hp → Prop) (k : ∀ F : Bool → Hp → Prop, (∀ c H', P c H' → F c H') → if b = true then tu σ H F else F false H) (h : ∀ c H', P c H' → QB c H') :
    if b = true then tu σ H QB else QB false H := k QB h
theorem sOrK {b : Bool} {tu : TT} {σ : L2.St} {H : Hp} {QB : Bool → Hp → Prop} (P : Bool → Hp → Prop) (k : ∀ F : Bool → Hp → Prop, (∀ c H', P c H' → F c H') → if b = true then F true H else tu σ H F) (h : ∀ c H', P c H' → QB c H') :
    if b = true then QB true H else tu σ H QB := k QB h
theorem sIfJ {b : Bool} {t u : TS} {D : Ends} {σ : L2.St} {H : Hp} (P : L2.St → Hp → Prop) (k : ∀ F' : L2.St → Hp → Prop, (∀ σ H, P σ H → F' σ H) → if b = true then t { D with nx := F' } σ H else u { D with nx := F' } σ H) (h : ∀ σ H, P σ H → D.nx σ H) :
    if b = true then t D σ H else u D σ H := k D.nx h
def rLenG (K : PySem.W.Frag) : List V → Hp → VK → Prop := fun xs H Q => ∃ x n, xs = [x] ∧ LenV K x H n ∧ Q (.int n) H
theorem call_lenG {X : Cx} : CallR X (.builtin "len") (rLenG X.K) := call_len
def rMinG : List V → Hp → VK → Prop := fun xs H Q => ∃ i j, xs = [.int i, .int j] ∧ Q (.int (if j < i then j else i)) H
theorem call_min2G {X : Cx} (hc : X.calm = true) : CallR X (.builtin "min") rMinG := call_min2 hc
def rMaxG : List V → Hp → VK → Prop := fun xs H Q => ∃ i j, xs = [.int i, .int j] ∧ Q (.int (if i < j then j else i)) H
theorem call_max2G {X : Cx} (hc : X.calm = true) : CallR X (.builtin "max") rMaxG := call_max2 hc
section
variable {K : PySem.W.Frag} {H : Hp} {a : Addr} {xs : List V} {Q : VK}
theorem sLenL (h : SqL K H a xs) (q : Q (.int xs.length) H) : rLenG K [V.ref a] H Q := ⟨_, xs.length, rfl, .inl ⟨xs, h, rfl⟩, q⟩
theorem sLenT (h : SqT K H a xs) (q : Q (.int xs.length) H) : rLenG K [V.ref a] H Q := ⟨_, xs.length, rfl, .inr ⟨xs, h, rfl⟩, q⟩
theorem sMin {i j : Int} (q : Q (.int (if j < i then j else i)) H) : rMinG [.int i, .int j] H Q := ⟨i, j, rfl, q⟩
theorem sMax {i j : Int} (q : Q (.int (if i < j then j else i)) H) : rMaxG [.int i, .int j] H Q := ⟨i, j, rfl, q⟩
theorem sIxL {v : V} {n : Int} (h : SqL K H a xs) (e : atI xs n = some v) (q : Q v H) : rIxL K (.ref a) (.int n) H Q := ⟨a, xs, n, v, rfl, rfl, h, e, q⟩
theorem sIxT {v : V} {n : Int} (h : SqT K H a xs) (e : atI xs n = some v) (q : Q v H) : rIxT K (.ref a) (.int n) H Q := ⟨a, xs, n, v, rfl, rfl, h, e, q⟩
theorem sSlL {lo hi : Option Int} (h : SqL K H a xs) (q : ∀ p H', Kp Non H H' → H p = none → H' p = some (.lst (cutV xs lo hi)) → Q (.ref p) H') : rSlLG K (.ref a) lo hi H Q := ⟨a, xs, rfl, h, q⟩
theorem sSlT {lo hi : Option Int} (h : SqT K H a xs) (q : ∀ p H', Kp Non H H' → SqT K H' p (cutV xs lo hi) → Q (.ref p) H') : rSlTG K (.ref a) lo hi H Q := ⟨a, xs, rfl, h, q⟩
theorem sTupL (h : SqL K H a xs) (q : ∀ l H', Kp Non H H' → SqT K H' l xs → Q (.ref l) H') : rTupG K [.ref a] H Q := ⟨a, xs, rfl, .inl h, q⟩
theorem sListL (h : SqL K H a xs) (q : ∀ l H', Kp Non H H' → H l = none → H' l = some (.lst xs) → Q (.ref l) H') : rListG K [.ref a] H Q := ⟨a, xs, rfl, .inl h, q⟩
theorem sListT (h : SqT K H a xs) (q : ∀ l H', Kp Non H H' → H l = none → H' l = some (.lst xs) → Q (.ref l) H') : rListG K [.ref a] H Q := ⟨a, xs, rfl, .inr h, q⟩
theorem sApp {y : V} (h : H a = some (.lst xs)) (hl : xs.length < sizeLine) (q : ∀ H', Kp (At a) H H' → H' a = some (.lst (xs ++ [y])) → Q .non H') : rAppG (.ref a) [y] H Q := ⟨a, xs, y, rfl, rfl, h, hl, q⟩
theorem sSum {ns : List Int} (h : SqL K H a (ns.map V.int)) (q : Q (.int ns.sum) H) : rSum K [.ref a] H Q := ⟨a, ns, rfl, h, q⟩
theorem sAll {bs : List Bool} (h : SqL K H a (bs.map V.bl)) (q : Q (.bl (bs.all id)) H) : rAll K [.ref a] H Q := ⟨a, bs, rfl, h, q⟩
theorem sAny {bs : List Bool} (h : SqL K H a (bs.map V.bl)) (q : Q (.bl (bs.any id)) H) : rAny K [.ref a] H Q := ⟨a, bs, rfl, h, q⟩
theorem sInL {x : V} (h : SqL K H a xs) (f : flatV x = true) (fs : xs.all flatV = true) (q : Q (.bl (inV x xs)) H) : rIn K false x (.ref a) H Q := ⟨a, xs, rfl, .inl h, f, fs, q⟩
theorem sInT {x : V} (h : SqT K H a xs) (f : flatV x = true) (fs : xs.all flatV = true) (q : Q (.bl (inV x xs)) H) : rIn K false x (.ref a) H Q := ⟨a, xs, rfl, .inr h, f, fs, q⟩
theorem sNiL {x : V} (h : SqL K H a xs) (f : flatV x = true) (fs : xs.all flatV = true) (q : Q (.bl (!inV x xs)) H) : rIn K true x (.ref a) H Q := ⟨a, xs, rfl, .inl h, f, fs, q⟩
theorem sNiT {x : V} (h : SqT K H a xs) (f : flatV x = true) (fs : xs.all flatV = true) (q : Q (.bl (!inV x xs)) H) : rIn K true x (.ref a) H Q := ⟨a, xs, rfl, .inr h, f, fs, q⟩
theorem sRepr {v : V} {d : PyData} (h : Dp K H v d) (s : d.showable = true) (n : d.hasDict = false) (dp : d.depth ≤ 100) (z : d.shown.length ≤ sizeLine) (q : Q (.str d.shown) H) : rRepr K [v] H Q := ⟨v, d, rfl, h, s, n, dp, z, q⟩
theorem sNeD {x y : V} {d e : PyData} (h : Dp K H x d) (h2 : Dp K H y e) (s : SeqAt.shaped d = true) (s2 : SeqAt.shaped e = true) (q : Q (.bl (!PyData.eqv d e)) H) : rNeD K x y H Q := ⟨d, e, h, h2, s, s2, q⟩
theorem sEqD {x y : V} {d e : PyData} (h : Dp K H x d) (h2 : Dp K H y e) (s : SeqAt.shaped d = true) (s2 : SeqAt.shaped e = true) (q : Q (.bl (PyData.eqv d e)) H) : rEqD K x y H Q := ⟨d, e, h, h2, s, s2, q⟩
theorem sRep {k : Int} (h : H a = some (.lst xs)) (h1 : 0 ≤ k) (h2 : k ≤ 10000) (h3 : xs.length ≤ 1) (q : ∀ p H', Kp Non H H' → H p = none → H' p = some (.lst (List.replicate k.toNat xs).flatten) → Q (.ref p) H') : rRepG (.ref a) (.int k) H Q :=
  ⟨a, k, xs, rfl, rfl, h, by omega, by omega, Nat.le_of_lt (Nat.lt_of_le_of_lt (Nat.mul_le_mul h3 (by omega : k.toNat ≤ 10000)) (by decide)), q⟩
theorem sSetL {k : Int} {v : V} {j : Nat} {R : Hp → Prop} (h : H a = some (.lst xs)) (e : ixN xs.length k = some j) (q : ∀ H', Kp (At a) H H' → H' a = some (.lst (xs.set j v)) → R H') : rSetLG (.ref a) (.int k) v H R := ⟨a, xs, k, j, rfl, rfl, h, e, q⟩
end
/-! ### is None -/
def rIsNG : R2 := fun x y H Q => y = .non ∧ Q (.bl (decide (x = .non))) H
def rNotNG : R2 := fun x y H Q => y = .non ∧ Q (.bl (!decide (x = .non))) H
theorem op_isNG {X : Cx} : OpR X (compareOp .Is) rIsNG := op_isN
theorem op_notNG {X : Cx} : OpR X (compareOp .IsNot) rNotNG := op_notN
theorem sIsN {x : V} {H : Hp} {Q : VK} (q : Q (.bl (decide (x = .non))) H) : rIsNG x .non H Q := ⟨rfl, q⟩
theorem sNotN {x : V} {H : Hp} {Q : VK} (q : Q (.bl (!decide (x = .non))) H) : rNotNG x .non H Q := ⟨rfl, q⟩
/-- a range's bounds, walked -/
theorem sRng1 {j : Int} {R : It → Hp → Prop} {H : Hp} (h1 : -1000000 ≤ j) (h2 : j ≤ 1000000) (q : R (Itr 0 j.toNat) H) : ∃ k : Int, [V.int j] = [.int k] ∧ -(2 ^ 62) ≤ k ∧ k < 2 ^ 62 ∧ R (Itr 0 k.toNat) H :=
  ⟨j, rfl, by omega, by omega, q⟩
theorem inV_strs (w : Str) (ws : List Str) : inV (.str w) (ws.map V.str) = decide (w ∈ ws) := by
  unfold inV
  induction ws with
  | nil => simp
  | cons x r ih =>
    rw [List.map_cons, List.any_cons, ih]
    by_cases e : x = w
    · subst e; simp [eqV]
    · simp [eqV, e, Ne.symm e]
theorem flat_strs (ws : List Str) : (ws.map V.str).all flatV = true := by
  induction ws with
  | nil => rfl
  | cons x r ih => rw [List.map_cons, List.all_cons, ih]; rfl
theorem inV_ints (w : Int) (ws : List Int) : inV (.int w) (ws.map V.int) = decide (w ∈ ws) := by
  unfold inV
  induction ws with
  | nil => simp
  | cons x r ih =>
    rw [List.map_cons, List.any_cons, ih]
    by_cases e : x = w
    · subst e; simp [eqV]
    · simp [eqV, e, Ne.symm e]
theorem flat_ints (ws : List Int) : (ws.map V.int).all flatV = true := by
  induction ws with
  | nil => rfl
  | cons x r ih => rw [List.map_cons, List.all_cons, ih]; rfl
section
variable {K : PySem.W.Frag} {H : Hp} {a : Addr} {Q : VK}
theorem sInTS {w : Str} {ws : List Str} (h : SqT K H a (ws.map V.str)) (q : Q (.bl (decide (w ∈ ws))) H) : rIn K false (.str w) (.ref a) H Q := sInT h rfl (flat_strs _) (by rw [inV_strs]; exact q)
theorem sInLS {w : Str} {ws : List Str} (h : SqL K H a (ws.map V.str)) (q : Q (.bl (decide (w ∈ ws))) H) : rIn K false (.str w) (.ref a) H Q := sInL h rfl (flat_strs _) (by rw [inV_strs]; exact q)
theorem sInTI {w : Int} {ws : List Int} (h : SqT K H a (ws.map V.int)) (q : Q (.bl (decide (w ∈ ws))) H) : rIn K false (.int w) (.ref a) H Q := sInT h rfl (flat_ints _) (by rw [inV_ints]; exact q)
theorem sInLI {w : Int} {ws : List Int} (h : SqL K H a (ws.map V.int)) (q : Q (.bl (decide (w ∈ ws))) H) : rIn K false (.int w) (.ref a) H Q := sInL h rfl (flat_ints _) (by rw [inV_ints]; exact q)
theorem sNiTI {w : Int} {ws : List Int} (h : SqT K H a (ws.map V.int)) (q : Q (.bl (!decide (w ∈ ws))) H) : rIn K true (.int w) (.ref a) H Q := sNiT h rfl (flat_ints _) (by rw [inV_ints]; exact q)
theorem sNiLI {w : Int} {ws : List Int} (h : SqL K H a (ws.map V.int)) (q : Q (.bl (!decide (w ∈ ws))) H) : rIn K true (.int w) (.ref a) H Q := sNiL h rfl (flat_ints _) (by rw [inV_ints]; exact q)
end
theorem cutTake (xs : List V) (n : Nat) : cutV xs none (some (n : Int)) = xs.take n := by
  unfold cutV
  rw [HT.sIx_none, HT.sIx_nat, List.drop_zero, Nat.sub_zero]
  by_cases h : n ≤ xs.length
  · rw [Nat.min_eq_left h]
  · rw [Nat.min_eq_right (by omega), List.take_of_length_le (Nat.le_refl _), List.take_of_length_le (by omega)]
theorem cutDrop (xs : List V) (n : Nat) : cutV xs (some (n : Int)) none = xs.drop n := by
  unfold cutV
  rw [HT.sIx_none, HT.sIx_nat]
  by_cases h : n ≤ xs.length
  · rw [Nat.min_eq_left h, List.take_of_length_le (by rw [List.length_drop]; exact Nat.le_refl _)]
  · rw [Nat.min_eq_right (by omega), List.drop_of_length_le (Nat.le_refl _), List.drop_of_length_le (by omega), List.take_nil]
theorem sBM {K : PySem.W.Frag} {T : String} {r : V → List V → Hp → VK → Prop} {to : TE} {t : TA} {σ : L2.St} {H : Hp} {Q : VK} (h : to σ H fun x H1 => tyV K T x H1 ∧ t σ H1 fun xs H2 => r x xs H2 Q) : tBM K T r to t σ H Q := h
theorem sBM0 {K : PySem.W.Frag} {T : String} {r : V → List V → Hp → VK → Prop} {to : TE} {σ : L2.St} {H : Hp} {Q : VK} (h : to σ H fun x H1 => tyV K T x H1 ∧ r x [] H1 Q) : tBM0 K T r to σ H Q := h
theorem sTy {K : PySem.W.Frag} {H : Hp} {a : Addr} {xs : List V} {C : Prop} (h : H a = some (.lst xs)) (q : C) : tyV K "list" (.ref a) H ∧ C := ⟨.inl ⟨rfl, _, .of h⟩, q⟩
/-- t + u of tuples -/
def rCatG (K : PySem.W.Frag) : R2 := fun x y H Q => ∃ a b xs ys, x = .ref a ∧ y = .ref b ∧ SqT K H a xs ∧ SqT K H b ys ∧ xs.length + ys.length ≤ sizeLine ∧ ∀ p H', Kp Non H H' → SqT K H' p (xs ++ ys) → Q (.ref p) H'
theorem op_catG {X : Cx} : OpR X (binaryOp .Add) (rCatG X.K) := by
  intro pins s σ H x y v u Q I rx ry ⟨a, b, xs, ys, e1, e2, ha, hb, hz, q⟩
  refine op_catA pins s σ H x y v u Q I rx ry ⟨a, b, xs, ys, e1, e2, ha, hb, hz, fun e => ?_, fun _ e => ?_, fun _ _ p n => q p _ (Kp.new n) (.of upd_same)⟩
  · subst e; exact q b H Kp.refl hb
  · subst e; exact q a H Kp.refl (by rw [List.append_nil]; exact ha)
theorem sCat {K : PySem.W.Frag} {H : Hp} {Q : VK} {a b : Addr} {xs ys : List V} (h : SqT K H a xs) (h2 : SqT K H b ys) (z : xs.length + ys.length ≤ 1000) (q : ∀ p H', Kp Non H H' → SqT K H' p (xs ++ ys) → Q (.ref p) H') : rCatG K (.ref a) (.ref b) H Q :=
  ⟨a, b, xs, ys, rfl, rfl, h, h2, Nat.le_of_lt (small1000 z), q⟩
/-- xs + ys of lists -/
def rCatLG : R2 := fun x y H Q => ∃ a b xs ys, x = .ref a ∧ y = .ref b ∧ H a = some (.lst xs) ∧ H b = some (.lst ys) ∧ xs.length + ys.length ≤ sizeLine ∧ ∀ p H', Kp Non H H' → H p = none → H' p = some (.lst (xs ++ ys)) → Q (.ref p) H'
theorem op_catLG {X : Cx} : OpR X (binaryOp .Add) rCatLG := by
  intro pins s σ H x y v u Q I rx ry ⟨a, b, xs, ys, e1, e2, ha, hb, hz, q⟩
  exact op_cat pins s σ H x y v u Q I rx ry ⟨a, b, xs, ys, e1, e2, ha, hb, by omega, fun p n => q p _ (Kp.new n) n upd_same⟩
theorem sCatL {H : Hp} {Q : VK} {a b : Addr} {xs ys : List V} (h : H a = some (.lst xs)) (h2 : H b = some (.lst ys)) (z : xs.length + ys.length ≤ 1000) (q : ∀ p H', Kp Non H H' → H p = none → H' p = some (.lst (xs ++ ys)) → Q (.ref p) H') : rCatLG (.ref a) (.ref b) H Q :=
  ⟨a, b, xs, ys, rfl, rfl, h, h2, Nat.le_of_lt (small1000 z), q⟩
theorem sIfEK {b : Bool} {ta tb : TE} {σ : L2.St} {H : Hp} {F : VK} (P : V → Hp → Prop) (k : ∀ F' : VK, (∀ v H', P v H' → F' v H') → if b = true then ta σ H F' else tb σ H F') (h : ∀ v H', P v H' → F v H') :
    if b = true then ta σ H F else tb σ H F := k F h
theorem sNeB {a b : Bool} {H : Hp} {Q : VK} (h : Q (.bl (!decide (a = b))) H) : rNe (.bl a) (.bl b) H Q := ⟨by cases a <;> cases b <;> rfl, by rwa [show decide (V.bl a = V.bl b) = decide (a = b) from by simp]⟩
theorem sEqB {a b : Bool} {H : Hp} {Q : VK} (h : Q (.bl (decide (a = b))) H) : rEq (.bl a) (.bl b) H Q := ⟨by cases a <;> cases b <;> rfl, by rwa [show decide (V.bl a = V.bl b) = decide (a = b) from by simp]⟩
/-- xs * k of lists -/
theorem sRepS {k : Int} {H : Hp} {Q : VK} {a : Addr} {xs : List V} (h : H a = some (.lst xs)) (h1 : 0 ≤ k) (h2 : k ≤ 100) (h3 : xs.length ≤ 100) (q : ∀ p H', Kp Non H H' → H p = none → H' p = some (.lst (List.replicate k.toNat xs).flatten) → Q (.ref p) H') : rRepG (.ref a) (.int k) H Q :=
  ⟨a, k, xs, rfl, rfl, h, by omega, by omega, Nat.le_of_lt (Nat.lt_of_le_of_lt (Nat.mul_le_mul h3 (by omega : k.toNat ≤ 100)) (by decide)), q⟩
theorem sIntB {H : Hp} {Q : VK} {k : Bool} (q : Q (.int (if k then 1 else 0)) H) : (∃ i, [V.bl k] = [.int i] ∧ Q (.int i) H) ∨ ∃ k', [V.bl k] = [.bl k'] ∧ Q (.int (if k' then 1 else 0)) H := .inr ⟨k, rfl, q⟩
theorem sw_false {elt : Expr} {gs : List Comprehension} {scope : Scope} {pos py : Pos} {y : Str} {l : Nat} {env : Env} (hy : env.scope.names.lookup y = some .cell) : swapsWith (.ListComp elt gs scope pos) (some (.Name y py)) l env = pure false := by
  have ky : env.kindOf y = some .cell := hy
  have e : (some NameKind.cell == some NameKind.local) = false := by decide
  unfold swapsWith
  simp only [ky, e, Bool.and_false, Bool.false_and]
/-! range(a, b) -/
/-- two values, ready -/
def tC2 (v w : V) : TA := fun _ H Q => Q [v, w] H
def LcR2 (g : TG) (tt : TT) (te : TE) (vs : List Nat) (σ : L2.St) (Q : VK) (v w : V) (H1 : Hp) : Prop := tLc (iRng2 (tC2 v w)) g tt te vs σ H1 Q
def ForR2 (g : TG) (tb : TS) (D : Ends) (σ : L2.St) (v w : V) (H1 : Hp) : Prop := tFor (iRng2 (tC2 v w)) g tb D σ H1
section
variable {g : TG} {tt : TT} {te : TE} {tb : TS} {D : Ends} {vs : List Nat} {σ : L2.St} {H1 : Hp} {Q : VK} {S : Addr → Prop} {P : Nat → List V → Hp → Prop}
theorem sLcR2 {tl th : TE} (h : tl σ H1 fun x H2 => th σ H2 fun y H3 => LcR2 g tt te vs σ Q x y H3) : tLc (iRng2 (tCons tl (tCons th tNil))) g tt te vs σ H1 Q := h
theorem sForR2 {tl th : TE} (h : tl σ H1 fun x H2 => th σ H2 fun y H3 => ForR2 g tb D σ x y H3) : tFor (iRng2 (tCons tl (tCons th tNil))) g tb D σ H1 := h
theorem lcRange2 {lo hi : Int} {n : Nat} (en : (hi - lo).toNat = n) (b1 : 0 ≤ lo) (b2 : lo ≤ 1000000) (b3 : 0 ≤ hi) (b4 : hi ≤ 1000000) (hS : ∀ b, S b → H1 b ≠ none) (h0 : ∀ H', Kp Non H1 H' → P 0 [] H') (stab : LcStab P H1)
    (turn : ∀ i : Nat, i < n → LcTurn S P g tt te vs σ H1 i (.int (lo + i)))
    (hd : ∀ D ys H', P n ys H' → ys.length ≤ n → Kp S H1 H' → H1 D = none → H' D = some (.lst ys) → Q (.ref D) H') :
    LcR2 g tt te vs σ Q (.int lo) (.int hi) H1 :=
  ⟨lo, hi, rfl, ⟨by omega, by omega, by omega, by omega⟩, fun D nD => by
    subst en
    have big : (hi - lo).toNat ≤ 1000000 := by omega
    exact lc_range (LcAt S P H1 D) (lcStart nD h0) (fun i H hi' h => lcGo nD hS stab hi' (Nat.le_trans big (by decide)) (turn i hi') h) (fun H ⟨ys, e, l, k, p⟩ => hd D ys H p l k nD e)⟩
theorem forRange2 {lo hi : Int} {n : Nat} (P : Nat → L2.St → Hp → Prop) (en : (hi - lo).toNat = n) (b1 : -1000000 ≤ lo) (b2 : lo ≤ 1000000) (b3 : -1000000 ≤ hi) (b4 : hi ≤ 1000000) (h0 : P 0 σ H1)
    (hs : ∀ (i : Nat) σ H, i < n → P i σ H → g (.int (lo + i)) σ H fun σ2 H2 => tb { D with nx := P (i + 1), ct := P (i + 1), bk := D.nx } σ2 H2) (hd : ∀ σ H, P n σ H → D.nx σ H) : ForR2 g tb D σ (.int lo) (.int hi) H1 := by
  subst en
  exact ⟨lo, hi, rfl, ⟨by omega, by omega, by omega, by omega⟩, for_range P h0 hs hd⟩
end
theorem atI_last {xs : List V} {v : V} : atI (xs ++ [v]) (-1) = some v := by
  have e : ixN (xs ++ [v]).length (-1) = some xs.length := by
    unfold ixN
    rw [if_neg (by decide), if_pos (by rw [List.length_append, List.length_singleton]; omega)]
    congr 1
    rw [List.length_append, List.length_singleton]
    omega
  unfold atI
  rw [e]
  simp
/-! comprehensions whose items are new lists: what stays when the item is appended is asked with the list known -/
section
variable {K : PySem.W.Frag} {a : Addr} {xs : List V} {g : TG} {tt : TT} {te : TE} {vs : List Nat} {σ : L2.St} {H1 : Hp} {Q : VK} {S : Addr → Prop} {P : Nat → List V → Hp → Prop}
abbrev LcStabM (P : Nat → List V → Hp → Prop) (H1 : Hp) : Prop := ∀ D, H1 D = none → ∀ i ys y H H', H D = some (.lst ys) → P (i + 1) (ys ++ [y]) H → Kp (At D) H H' → P (i + 1) (ys ++ [y]) H'
theorem lcGoM {D : Addr} {i n : Nat} {x : V} {H : Hp} (nD : H1 D = none) (hS : ∀ b, S b → H1 b ≠ none) (stab : LcStabM P H1) (hi : i < n) (hn : n ≤ sizeLine)
    (turn : LcTurn S P g tt te vs σ H1 i x) (h : LcAt S P H1 D i H) :
    g x (wipe σ vs) H fun σ2 H2 => wipe σ2 vs = wipe σ vs ∧ tt σ2 H2 fun b H3 =>
      if b = true then te σ2 H3 fun y H4 => ∃ acc, H4 D = some (.lst acc) ∧ acc.length < sizeLine ∧ LcAt S P H1 D (i + 1) (upd H4 D (.lst (acc ++ [y]))) else LcAt S P H1 D (i + 1) H3 := by
  obtain ⟨ys, e, l, k, p⟩ := h
  have nS : ¬ S D := fun z => hS D z nD
  refine turn D ys H _ k p (fun y H4 k4 p4 => ?_) (fun H3 k3 p3 => ⟨ys, k3.same _ _ nS e, Nat.le_succ_of_le l, k.trans k3, p3⟩)
  have e4 := k4.same _ _ nS e
  refine ⟨ys, e4, by omega, ys ++ [y], upd_same, by rw [List.length_append]; exact Nat.add_le_add_right l 1, ?_, stab D nD _ _ _ _ _ e4 p4 (Kp.putL e4)⟩
  exact Kp.drop (p := D) (((k.trans k4).wide fun b z => .inr z).trans ((Kp.putL e4).wide fun b z => .inl z)) nD
theorem lcTupM (hn : xs.length ≤ sizeLine) (src : SqT K H1 a xs) (hS : ∀ b, S b → H1 b ≠ none) (h0 : ∀ H', Kp Non H1 H' → P 0 [] H') (stab : LcStabM P H1)
    (turn : ∀ i x, xs[i]? = some x → LcTurn S P g tt te vs σ H1 i x)
    (hd : ∀ D ys H', P xs.length ys H' → ys.length ≤ xs.length → Kp S H1 H' → H1 D = none → H' D = some (.lst ys) → Q (.ref D) H') :
    LcT K g tt te vs σ Q (.ref a) H1 :=
  ⟨a, rfl, ⟨xs, src⟩, fun D nD => lc_tup (K := K) (a := a) (xs := xs) (LcAt S P H1 D) (lcStart nD h0) (fun i H _ ⟨ys, _, _, k, _⟩ => k.sqT src)
    (fun i x H hx h => lcGoM nD hS stab (List.getElem?_eq_some_iff.mp hx).1 hn (turn i x hx) h) (fun H ⟨ys, e, l, k, p⟩ => hd D ys H p l k nD e)⟩
theorem lcRangeM {hi : Int} {n : Nat} (h0i : 0 ≤ hi) (en : hi.toNat = n) (hn : n ≤ 1000000) (hS : ∀ b, S b → H1 b ≠ none) (h0 : ∀ H', Kp Non H1 H' → P 0 [] H') (stab : LcStabM P H1)
    (turn : ∀ i : Nat, i < n → LcTurn S P g tt te vs σ H1 i (.int (0 + i)))
    (hd : ∀ D ys H', P n ys H' → ys.length ≤ n → Kp S H1 H' → H1 D = none → H' D = some (.lst ys) → Q (.ref D) H') :
    LcR g tt te vs σ Q (tC1 (.int hi)) H1 :=
  ⟨hi, rfl, by omega, by omega, fun D nD => by
    subst en
    exact lc_range (LcAt S P H1 D) (lcStart nD h0) (fun i H hi h => lcGoM nD hS stab hi (Nat.le_trans hn (by decide)) (turn i hi) h) (fun H ⟨ys, e, l, k, p⟩ => hd D ys H p l k nD e)⟩
end
end Hw
/-! Houses, persons, stands as data. -/
namespace Hw
open PySem PySem.Spec PyProof.Rows L2
def words8 : List Str := ["first", "last", "short", "front", "lastoff", "shortoff", "frontoff", "turns"]
def keep4 : List Str := ["first", "last", "short", "front"]
structure House where
  hands : Nat
  places : Option Nat
  rule : Str
structure Person where
  rank : Nat
  left : Nat
  begun : Bool
deriving DecidableEq
def optD : Option Nat → PyData
  | none => .none
  | some n => .int n
def optV : Option Nat → V
  | none => .non
  | some n => .int n
def House.d (h : House) : PyData := .tuple [.int h.hands, optD h.places, .str h.rule]
def Person.d (p : Person) : PyData := .tuple [.int p.rank, .int p.left, .bool p.begun]
def standD (st : List Person) : PyData := .tuple (st.map Person.d)
def House.keeps (h : House) : Bool := decide (h.rule ∈ keep4)
structure HouseOk (h : House) : Prop where
  h1 : 1 ≤ h.hands
  h3 : h.hands ≤ 3
  pl : ∀ n, h.places = some n → n ≤ 6
  rl : h.rule ∈ words8
def begunIn (st : List Person) : Nat := (st.filter (·.begun)).length
structure PersonOk (p : Person) : Prop where
  rk : p.rank < 2
  l1 : 1 ≤ p.left
  l6 : p.left ≤ 6
structure StandOk (h : House) (most : Nat) (st : List Person) : Prop where
  len : st.length ≤ most
  pl : ∀ n, h.places = some n → st.length ≤ n
  all : ∀ p ∈ st, PersonOk p
  bg : begunIn st ≤ if h.keeps then h.hands else 0
section
variable {K : PySem.W.Frag} {H : Hp} {v : V}
theorem tdOpt (o : Option Nat) : TD K H (optV o) (optD o) := by
  cases o with
  | none => exact .non
  | some n => exact .int n
theorem TD.toOpt {o : Option Nat} (h : TD K H v (optD o)) : v = optV o := by
  cases o with
  | none => exact h.toNon
  | some n => exact h.toInt
theorem TDs.nil' {vs : List V} (h : TDs K H vs []) : vs = [] := by cases h; rfl
theorem TDs.cons' {vs : List V} {d : PyData} {ds : List PyData} (h : TDs K H vs (d :: ds)) : ∃ v r, vs = v :: r ∧ TD K H v d ∧ TDs K H r ds := by
  cases h with
  | cons a b => exact ⟨_, _, rfl, a, b⟩
theorem TD.three {a b c : PyData} (h : TD K H v (.tuple [a, b, c])) : ∃ t x y z, v = .ref t ∧ SqT K H t [x, y, z] ∧ TD K H x a ∧ TD K H y b ∧ TD K H z c := by
  obtain ⟨t, xs, rfl, ht, h⟩ := h.ref
  obtain ⟨x, r, rfl, h1, h⟩ := h.cons'
  obtain ⟨y, r, rfl, h2, h⟩ := h.cons'
  obtain ⟨z, r, rfl, h3, h⟩ := h.cons'
  obtain rfl := h.nil'
  exact ⟨t, x, y, z, rfl, ht, h1, h2, h3⟩
theorem TD.two {a b : PyData} (h : TD K H v (.tuple [a, b])) : ∃ t x y, v = .ref t ∧ SqT K H t [x, y] ∧ TD K H x a ∧ TD K H y b := by
  obtain ⟨t, xs, rfl, ht, h⟩ := h.ref
  obtain ⟨x, r, rfl, h1, h⟩ := h.cons'
  obtain ⟨y, r, rfl, h2, h⟩ := h.cons'
  obtain rfl := h.nil'
  exact ⟨t, x, y, rfl, ht, h1, h2⟩
theorem TD.house {h : House} (e : TD K H v h.d) : ∃ t, v = .ref t ∧ SqT K H t [.int h.hands, optV h.places, .str h.rule] := by
  obtain ⟨t, x, y, z, rfl, ht, h1, h2, h3⟩ := e.three
  rw [h1.toInt, h2.toOpt, h3.toStr] at ht
  exact ⟨t, rfl, ht⟩
theorem TD.mkHouse {h : House} {t : Addr} (e : SqT K H t [.int h.hands, optV h.places, .str h.rule]) : TD K H (.ref t) h.d :=
  .tup e (.cons (.int _) (.cons (tdOpt _) (.cons (.str _) .nil)))
theorem TD.person {p : Person} (e : TD K H v p.d) : ∃ t, v = .ref t ∧ SqT K H t [.int p.rank, .int p.left, .bl p.begun] := by
  obtain ⟨t, x, y, z, rfl, ht, h1, h2, h3⟩ := e.three
  rw [h1.toInt, h2.toInt, h3.toBl] at ht
  exact ⟨t, rfl, ht⟩
theorem TD.mkPerson {p : Person} {t : Addr} (e : SqT K H t [.int p.rank, .int p.left, .bl p.begun]) : TD K H (.ref t) p.d :=
  .tup e (.cons (.int _) (.cons (.int _) (.cons (.bl _) .nil)))
theorem TD.stand {st : List Person} (e : TD K H v (standD st)) : ∃ t xs, v = .ref t ∧ SqT K H t xs ∧ TDs K H xs (st.map Person.d) := e.ref
theorem TDs.person {st : List Person} {xs : List V} {i : Nat} {x : V} (e : TDs K H xs (st.map Person.d)) (h : xs[i]? = some x) : ∃ p, st[i]? = some p ∧ TD K H x p.d := by
  obtain ⟨d, h1, h2⟩ := e.get h
  rw [List.getElem?_map] at h1
  cases q : st[i]? with
  | none => rw [q] at h1; cases h1
  | some p => rw [q] at h1; cases h1; exact ⟨p, rfl, h2⟩
theorem TDs.lenMap {α : Type} {f : α → PyData} {st : List α} {xs : List V} (e : TDs K H xs (st.map f)) : xs.length = st.length := by rw [e.length, List.length_map]
theorem TDs.of {α : Type} {f : α → PyData} {st : List α} {xs : List V} {i : Nat} {x : V} (e : TDs K H xs (st.map f)) (h : xs[i]? = some x) : ∃ p, st[i]? = some p ∧ TD K H x (f p) := by
  obtain ⟨d, h1, h2⟩ := e.get h
  rw [List.getElem?_map] at h1
  cases q : st[i]? with
  | none => rw [q] at h1; cases h1
  | some p => rw [q] at h1; cases h1; exact ⟨p, rfl, h2⟩
end
theorem atI_of {xs : List V} {n : Int} (h0 : 0 ≤ n) (h1 : n < xs.length) : ∃ h : n.toNat < xs.length, atI xs n = some xs[n.toNat] := by
  have h : n.toNat < xs.length := by omega
  refine ⟨h, ?_⟩
  have e := atI_nat (xs := xs) (j := n.toNat) (v := xs[n.toNat]) (List.getElem?_eq_getElem h)
  rwa [Int.toNat_of_nonneg h0] at e
theorem atI_strs {ws : List Str} {n : Int} (h0 : 0 ≤ n) (h1 : n < ws.length) : ∃ w ∈ ws, atI (ws.map V.str) n = some (.str w) := by
  obtain ⟨h, e⟩ := atI_of (xs := ws.map V.str) h0 (by rw [List.length_map]; exact h1)
  rw [List.getElem_map] at e
  exact ⟨_, List.getElem_mem _, e⟩
theorem atI_ints {ws : List Int} {n : Int} (h0 : 0 ≤ n) (h1 : n < ws.length) : ∃ w ∈ ws, atI (ws.map V.int) n = some (.int w) := by
  obtain ⟨h, e⟩ := atI_of (xs := ws.map V.int) h0 (by rw [List.length_map]; exact h1)
  rw [List.getElem_map] at e
  exact ⟨_, List.getElem_mem _, e⟩
theorem filterSet : ∀ (bs : List Bool) (j : Nat), ((bs.set j true).filter id).length ≤ (bs.filter id).length + 1
  | [], j => by simp
  | x :: r, 0 => by
    cases x <;> simp
  | x :: r, j + 1 => by
    have ih := filterSet r j
    cases x <;> simp [List.filter_cons] <;> omega
theorem begunMap (st : List Person) : begunIn st = ((st.map (·.begun)).filter id).length := by
  unfold begunIn
  induction st with
  | nil => rfl
  | cons p r ih =>
    rw [List.map_cons, List.filter_cons, List.filter_cons]
    cases p.begun <;> simp [ih]
def workOf (st : List Person) : Nat := (st.map (·.left)).sum
theorem sumCast {α : Type} (f : α → Nat) (l : List α) : (l.map fun p => ((f p : Nat) : Int)).sum = ((l.map f).sum : Nat) := by
  induction l with
  | nil => rfl
  | cons x r ih => rw [List.map_cons, List.sum_cons, ih, List.map_cons, List.sum_cons, Int.natCast_add]
structure Comer where
  rank : Nat
  work : Nat
deriving DecidableEq
def Comer.d (c : Comer) : PyData := .tuple [.int c.rank, .int c.work]
def beatD (b : List Comer) : PyData := .tuple (b.map Comer.d)
def Comer.p (c : Comer) : Person := ⟨c.rank, c.work, false⟩
structure ComerOk (c : Comer) : Prop where
  rk : c.rank < 2
  w1 : 1 ≤ c.work
  w6 : c.work ≤ 6
/-- of i comers how many are let in, where n persons stand ahead -/
def cap (pl : Option Nat) (n i : Nat) : Nat := match pl with
  | none => i
  | some m => min i (m - n)
theorem cap_le (pl : Option Nat) (n i : Nat) : cap pl n i ≤ i := by
  cases pl with
  | none => exact Nat.le_refl _
  | some m => exact Nat.min_le_left _ _
/-- the stand behind a beat's comers, and how many are lost -/
def letIn (pl : Option Nat) (st : List Person) (bt : List Comer) : List Person × Nat :=
  (st ++ (bt.take (cap pl st.length bt.length)).map Comer.p, bt.length - cap pl st.length bt.length)
section
variable {K : PySem.W.Frag} {H : Hp} {v : V}
theorem TD.comer {p : Comer} (e : TD K H v p.d) : ∃ t, v = .ref t ∧ SqT K H t [.int p.rank, .int p.work] := by
  obtain ⟨t, x, y, rfl, ht, h1, h2⟩ := e.two
  rw [h1.toInt, h2.toInt] at ht
  exact ⟨t, rfl, ht⟩
theorem TD.mkComer {p : Comer} {t : Addr} (e : SqT K H t [.int p.rank, .int p.work]) : TD K H (.ref t) p.d := .tup e (.cons (.int _) (.cons (.int _) .nil))
end
end Hw
/-! sorted and < of data of tuples; who is picked. -/
namespace Hw
open PySem PySem.Spec PyProof.Rows L2
section
variable {K : PySem.W.Frag} {H : Hp}
theorem eachOf {β : Type} {enc : β → PyData} : ∀ {bs : List β} {xs : List V} {us : List Value}, Vals xs us → TDs K H xs (bs.map enc) →
    PySem.W.EachIs (fun u b => ∃ v, RelV v u ∧ TD K H v (enc b)) us bs
  | [], _, _, r, h => by
    have e := h.nil'
    subst e
    cases r
    exact .nil
  | b :: bs, _, _, r, h => by
    obtain ⟨v, q, rfl, h1, h2⟩ := h.cons'
    cases r with
    | cons r1 r2 => exact .cons ⟨v, r1, h1⟩ (eachOf r2 h2)
theorem eachBack {β : Type} {enc : β → PyData} : ∀ {us : List Value} {bs : List β}, PySem.W.EachIs (fun u b => ∃ v, RelV v u ∧ TD K H v (enc b)) us bs → ∃ ys, Vals ys us ∧ TDs K H ys (bs.map enc)
  | _, _, .nil => ⟨[], .nil, .nil⟩
  | _, _, .cons ⟨v, r, h⟩ t => by
    obtain ⟨ys, h1, h2⟩ := eachBack t
    exact ⟨v :: ys, .cons r h1, .cons h h2⟩
/-- sorted(xs) of data of tuples -/
def rSortD (K : PySem.W.Frag) : List V → Hp → VK → Prop := fun vs H Q =>
  ∃ (a : Addr) (xs : List V) (β : Type) (enc : β → PyData) (bs : List β), vs = [.ref a] ∧ SqL K H a xs ∧ TDs K H xs (bs.map enc) ∧ PySem.W.AllAlike (bs.map enc) ∧ PySem.W.Sortable (bs.map enc) ∧ (∀ b ∈ bs, (enc b).depth ≤ 60) ∧
    ∀ p H' ys, Kp Non H H' → H p = none → H' p = some (.lst ys) → TDs K H' ys ((bs.mergeSort (PySem.W.dataLe false enc)).map enc) → Q (.ref p) H'
theorem cr_sortD {X : Cx} (hu : X.A.units + 160 < cLine) : CallR X (.builtin "sorted") (rSortD X.K) := by
  intro pins s σ H vs us Q I r ⟨a, xs, β, enc, bs, e, hs, hd, hal, hk, hdp, q⟩
  subst e
  obtain ⟨its, rv, hl, hz⟩ := I.list hs
  obtain ⟨u, rfl, ru⟩ := vals1 r
  obtain rfl : u = Value.ref a := ru
  have ea := eachOf rv hd
  have len : xs.length = bs.length := by rw [hd.length, List.length_map]
  refine PySem.W.sorted_data hl.isList ea (ea.mono fun u b ⟨v, r, h⟩ => Dp.reads I _ _ _ h.dp r) hal hk (by rw [← len]; exact hz) (fun b hb => by have := hdp b hb; omega) fun out ho eo => ?_
  obtain ⟨ys, h1, h2⟩ := eachBack eo
  have hn : H (s.heap.objs.size + 1) = none := I.hok.fresh (Nat.le_succ _)
  refine ⟨.ref (s.heap.objs.size + 1), upd H (s.heap.objs.size + 1) (.lst ys), I.laid (t' := s.toks) (fun b o e => sortedAll_old e) (Nat.le_succ _) ⟨?_, out, ?_⟩, rfl, q _ _ ys (Kp.new hn) hn upd_same (h2.kp (Kp.new (S := Non) hn))⟩
  · rw [h1.length, ho, ← len]; exact hz
  · obtain ⟨n, hn2⟩ := sortedAll_at s.heap its out.toArray
    exact ⟨n, h1, hn2⟩
theorem sSortD {β : Type} (enc : β → PyData) (bs : List β) {a : Addr} {xs : List V} {Q : VK} (hs : SqL K H a xs) (hd : TDs K H xs (bs.map enc)) (hal : PySem.W.AllAlike (bs.map enc)) (hk : PySem.W.Sortable (bs.map enc)) (hdp : ∀ b ∈ bs, (enc b).depth ≤ 60)
    (q : ∀ p H' ys, Kp Non H H' → H p = none → H' p = some (.lst ys) → TDs K H' ys ((bs.mergeSort (PySem.W.dataLe false enc)).map enc) → Q (.ref p) H') : rSortD K [.ref a] H Q :=
  ⟨a, xs, β, enc, bs, rfl, hs, hd, hal, hk, hdp, q⟩
/-- sorted(xs) of whole numbers -/
theorem sSortN (ns : List Nat) {a : Addr} {xs : List V} {Q : VK} (hs : SqL K H a xs) (hd : TDs K H xs (ns.map fun n : Nat => PyData.int n))
    (q : ∀ p H' ys, Kp Non H H' → H p = none → H' p = some (.lst ys) → TDs K H' ys ((ns.mergeSort fun a b => decide (a ≤ b)).map fun n : Nat => PyData.int n) → Q (.ref p) H') : rSortD K [.ref a] H Q :=
  sSortD (fun n : Nat => PyData.int n) ns hs hd (PySem.W.AllAlike.of fun b b' => by simp [PySem.W.alike]) (PySem.W.Sortable.others fun b => ⟨(fun h => nomatch h), (fun xs h => nomatch h)⟩) (fun b _ => Nat.zero_le _) fun p H' ys k n e h => by
    have q := q p H' ys k n e
    refine q ?_
    rw [PySem.W.dataLe_int (fun n : Nat => (n : Int))] at h
    simpa using h
end
/-! ### the order of a rule -/
def key2 (rule : Str) (p : Person) (i : Nat) : Int × Int :=
  if rule = "front" ∨ rule = "frontoff" then (p.rank, i) else if rule = "short" ∨ rule = "shortoff" then (p.left, i) else if rule = "last" ∨ rule = "lastoff" then (0 - i, 0) else (i, 0)
/-- whether i goes ahead of j -/
def aheadOf (rule : Str) (st : List Person) (i j : Nat) : Bool := match st[i]?, st[j]? with
  | some p, some q => if p.begun ≠ q.begun then p.begun else decide ((key2 rule p i).1 < (key2 rule q j).1 ∨ ((key2 rule p i).1 = (key2 rule q j).1 ∧ (key2 rule p i).2 < (key2 rule q j).2))
  | _, _ => false
/-- who is picked: those ahead of whom there are fewer than hands -/
def picks (hands : Nat) (rule : Str) (st : List Person) : List Nat :=
  (List.range st.length).filter fun i => decide (((List.range st.length).filter fun j => aheadOf rule st j i).length < hands)
def keyD (rule : Str) (p : Person) (i : Nat) : PyData := .tuple [.tuple [.int (if p.begun then 0 else 1), .int (key2 rule p i).1, .int (key2 rule p i).2], .int i]
theorem takeRank {α : Type} [DecidableEq α] (lt : α → α → Bool) (irr : ∀ a, lt a a = false) (asy : ∀ a b, lt a b = true → lt b a = false) : ∀ (M : List α), M.Pairwise (fun a b => lt a b = true) → ∀ (p : α), p ∈ M → ∀ k,
    (p ∈ M.take k ↔ (M.filter fun q => lt q p).length < k)
  | [], _, p, hp, _ => by cases hp
  | x :: r, h, p, hp, k => by
    obtain ⟨h1, h2⟩ := List.pairwise_cons.mp h
    cases k with
    | zero => simp
    | succ k =>
      rw [List.take_succ_cons, List.mem_cons]
      rcases List.mem_cons.mp hp with rfl | hp
      · have e : (p :: r).filter (fun q => lt q p) = [] := by
          rw [List.filter_eq_nil_iff]
          intro q hq
          rcases List.mem_cons.mp hq with rfl | hq
          · rw [irr]; decide
          · rw [asy _ _ (h1 q hq)]; decide
        rw [e]
        simp
      · have hx := h1 p hp
        have ne : p ≠ x := fun z => by rw [z, irr] at hx; cases hx
        rw [List.filter_cons_of_pos (by exact hx), List.length_cons]
        have := takeRank lt irr asy r h2 p hp k
        constructor
        · rintro (z | z)
          · exact absurd z ne
          · have := this.mp z; omega
        · intro z
          exact .inr (this.mpr (by omega))
abbrev LexP (b b' x x' y y' : Int) (i j : Nat) : Prop := b < b' ∨ (b = b' ∧ (x < x' ∨ (x = x' ∧ (y < y' ∨ (y = y' ∧ i < j)))))
theorem beqD (x y : Int) : (x == y) = decide (x = y) := by
  rw [Bool.eq_iff_iff]
  simp
theorem eqv_ints (x y : Int) : PyData.eqv (.int x) (.int y) = decide (x = y) := by
  simp [PyData.eqv, beqD]
theorem dataLt_key (b b' x x' y y' : Int) (i j : Nat) :
    PySem.W.dataLt (.tuple [.tuple [.int b, .int x, .int y], .int i]) (.tuple [.tuple [.int b', .int x', .int y'], .int j]) = decide (LexP b b' x x' y y' i j) := by
  have al : ∀ u v : Int, PySem.W.alike (.int u) (.int v) = true := fun u v => by simp [PySem.W.alike]
  rw [PySem.W.dataLt_pair (by simp [PySem.W.alike, PySem.W.alikeAll]) (al _ _), PySem.W.dataLt_tuple, PySem.W.dataLt_cons (al _ _), PySem.W.dataLt_cons (al _ _), PySem.W.dataLt_cons (al _ _),
    PySem.W.dataLt_int, PySem.W.dataLt_int, PySem.W.dataLt_int, PySem.W.dataLt_int, eqv_ints, eqv_ints, eqv_ints, eqv_ints]
  have e : PyData.eqv (.tuple [.int b, .int x, .int y]) (.tuple [.int b', .int x', .int y']) = decide (b = b' ∧ x = x' ∧ y = y') := by
    simp [PyData.eqv, PyData.eqvAll, beqD]
  have e0 : PyProof.Rows.lexLt itemOrd (PySem.W.keyToksAll []) (PySem.W.keyToksAll []) = false := lex_irrefl _
  rw [e, e0]
  unfold LexP
  by_cases h1 : b = b'
  · by_cases h2 : x = x'
    · by_cases h3 : y = y'
      · subst h1 h2 h3
        by_cases h4 : i = j
        · subst h4; simp
        · have h5 : ¬ ((i : Int) = j) := by omega
          simp [h5]
      · subst h1 h2
        simp [h3]
    · subst h1
      simp [h2]
  · simp [h1]
def bn (p : Person) : Int := if p.begun then 0 else 1
theorem ltKey (rule : Str) (p q : Person) (i j : Nat) : PySem.W.dataLt (keyD rule p i) (keyD rule q j) = decide (LexP (bn p) (bn q) (key2 rule p i).1 (key2 rule q j).1 (key2 rule p i).2 (key2 rule q j).2 i j) := dataLt_key _ _ _ _ _ _ _ _
abbrev p0 : Person := ⟨0, 0, false⟩
def ltN (rule : Str) (st : List Person) (i j : Nat) : Bool := PySem.W.dataLt (keyD rule (st.getD i p0) i) (keyD rule (st.getD j p0) j)
theorem ltN_irr (rule : Str) (st : List Person) (i : Nat) : ltN rule st i i = false := by
  unfold ltN
  rw [ltKey]
  refine decide_eq_false fun h => ?_
  unfold LexP at h
  omega
theorem ltN_asy (rule : Str) (st : List Person) (i j : Nat) (h : ltN rule st i j = true) : ltN rule st j i = false := by
  unfold ltN at h ⊢
  rw [ltKey, decide_eq_true_eq] at h
  rw [ltKey]
  refine decide_eq_false fun z => ?_
  unfold LexP at h z
  omega
theorem ltN_tot (rule : Str) (st : List Person) (i j : Nat) (n : i ≠ j) (h : ltN rule st j i = false) : ltN rule st i j = true := by
  unfold ltN at h ⊢
  rw [ltKey, decide_eq_false_iff_not] at h
  rw [ltKey, decide_eq_true_eq]
  unfold LexP at h ⊢
  omega
theorem key2_inj (rule : Str) (p q : Person) (i j : Nat) (h1 : (key2 rule p i).1 = (key2 rule q j).1) (h2 : (key2 rule p i).2 = (key2 rule q j).2) : i = j := by
  unfold key2 at h1 h2
  split at h1
  · rename_i c
    rw [if_pos c, if_pos c] at h2
    exact Int.ofNat.inj h2
  · rename_i c
    rw [if_neg c, if_neg c] at h2
    split at h1
    · rename_i c2
      rw [if_pos c2, if_pos c2] at h2
      exact Int.ofNat.inj h2
    · split at h1
      · have h1 : (0 : Int) - i = 0 - j := h1
        omega
      · exact Int.ofNat.inj h1
theorem ahead_ltN (rule : Str) (st : List Person) (i j : Nat) (hi : i < st.length) (hj : j < st.length) : aheadOf rule st i j = ltN rule st i j := by
  unfold aheadOf ltN
  rw [ltKey, List.getElem?_eq_getElem hi, List.getElem?_eq_getElem hj, List.getD_eq_getElem?_getD, List.getD_eq_getElem?_getD, List.getElem?_eq_getElem hi, List.getElem?_eq_getElem hj]
  dsimp only [Option.getD_some]
  generalize st[i] = p
  generalize st[j] = q
  have inj := key2_inj rule p q i j
  unfold LexP bn
  rcases Bool.eq_false_or_eq_true p.begun with h1 | h1 <;> rcases Bool.eq_false_or_eq_true q.begun with h2 | h2 <;> simp only [h1, h2, ne_eq, not_true_eq_false, if_false, if_true, Bool.false_eq_true, not_false_eq_true, Bool.true_eq_false]
  · refine decide_eq_decide.mpr ⟨fun z => .inr ⟨trivial, by omega⟩, fun z => ?_⟩
    by_cases e1 : (key2 rule p i).1 = (key2 rule q j).1
    · by_cases e2 : (key2 rule p i).2 = (key2 rule q j).2
      · have := inj e1 e2
        omega
      · omega
    · omega
  · simp
  · simp
  · refine decide_eq_decide.mpr ⟨fun z => .inr ⟨trivial, by omega⟩, fun z => ?_⟩
    by_cases e1 : (key2 rule p i).1 = (key2 rule q j).1
    · by_cases e2 : (key2 rule p i).2 = (key2 rule q j).2
      · have := inj e1 e2
        omega
      · omega
    · omega
theorem filterCongr {α : Type} {f g : α → Bool} : ∀ {l : List α}, (∀ x ∈ l, f x = g x) → l.filter f = l.filter g
  | [], _ => rfl
  | x :: r, h => by
    rw [List.filter_cons, List.filter_cons, h x List.mem_cons_self, filterCongr fun y hy => h y (List.mem_cons_of_mem _ hy)]
/-- the first ones in line, in the order of places, are those who are picked -/
theorem picks_sorted (hands : Nat) (rule : Str) (st : List Person) :
    (((List.range st.length).mergeSort (PySem.W.dataLe false fun i => keyD rule (st.getD i p0) i)).take hands).mergeSort (fun a b => decide (a ≤ b)) = picks hands rule st := by
  have le_eq : ∀ a b, PySem.W.dataLe false (fun i => keyD rule (st.getD i p0) i) a b = !ltN rule st b a := fun a b => rfl
  generalize hM : (List.range st.length).mergeSort (PySem.W.dataLe false fun i => keyD rule (st.getD i p0) i) = M
  have perm : M.Perm (List.range st.length) := by rw [← hM]; exact List.mergeSort_perm _ _
  have nd : M.Nodup := perm.nodup_iff.mpr List.nodup_range
  have pw : M.Pairwise fun a b => ltN rule st a b = true := by
    have h1 : M.Pairwise fun a b => PySem.W.dataLe false (fun i => keyD rule (st.getD i p0) i) a b = true := by
      rw [← hM]
      refine List.pairwise_mergeSort (fun a b c h1 h2 => ?_) (fun a b => ?_) _
      · rw [le_eq] at h1 h2 ⊢
        rw [Bool.not_eq_true'] at h1 h2 ⊢
        unfold ltN at h1 h2 ⊢
        rw [ltKey, decide_eq_false_iff_not] at h1 h2 ⊢
        unfold LexP at h1 h2 ⊢
        omega
      · rw [le_eq, le_eq]
        cases h : ltN rule st b a with
        | false => rfl
        | true => rw [ltN_asy _ _ _ _ h]; rfl
    refine (List.Pairwise.and h1 nd).imp fun {a b} h => ?_
    obtain ⟨h1, h2⟩ := h
    rw [le_eq, Bool.not_eq_true'] at h1
    exact ltN_tot _ _ _ _ h2 h1
  have mem : ∀ p, p ∈ M.take hands ↔ p ∈ picks hands rule st := by
    intro p
    unfold picks
    rw [List.mem_filter, decide_eq_true_eq]
    have cnt : p < st.length → ((List.range st.length).filter fun j => aheadOf rule st j p).length = (M.filter fun q => ltN rule st q p).length := by
      intro hp
      rw [filterCongr (g := fun q => ltN rule st q p) fun x hx => ahead_ltN rule st x p (List.mem_range.mp hx) hp]
      exact ((perm.filter _).length_eq).symm
    constructor
    · intro h
      have hm : p ∈ M := List.mem_of_mem_take h
      have hr := perm.mem_iff.mp hm
      refine ⟨hr, ?_⟩
      rw [cnt (List.mem_range.mp hr)]
      exact (takeRank (ltN rule st) (ltN_irr _ _) (fun a b => ltN_asy _ _ a b) M pw p hm hands).mp h
    · rintro ⟨hr, h⟩
      rw [cnt (List.mem_range.mp hr)] at h
      exact (takeRank (ltN rule st) (ltN_irr _ _) (fun a b => ltN_asy _ _ a b) M pw p (perm.mem_iff.mpr hr) hands).mpr h
  have pr : (M.take hands).Perm (picks hands rule st) :=
    (List.perm_ext_iff_of_nodup (nd.sublist (List.take_sublist _ _)) (List.nodup_range.sublist List.filter_sublist)).mpr mem
  refine List.Perm.eq_of_pairwise (le := (· ≤ ·)) (fun a b _ _ h1 h2 => Nat.le_antisymm h1 h2) ?_ ?_ ((List.mergeSort_perm _ _).trans pr)
  · have := List.pairwise_mergeSort (le := fun a b : Nat => decide (a ≤ b)) (fun a b c h1 h2 => by simp at *; omega) (fun a b => by simp; omega) (M.take hands)
    exact this.imp fun {a b} h => by simpa using h
  · exact (List.pairwise_lt_range (n := st.length)).filter _ |>.imp fun {a b} h => Nat.le_of_lt h
theorem picks_length (hands : Nat) (rule : Str) (st : List Person) : (picks hands rule st).length = min hands st.length := by
  rw [← picks_sorted, List.length_mergeSort, List.length_take, List.length_mergeSort, List.length_range]
theorem picks_lt {hands : Nat} {rule : Str} {st : List Person} {i : Nat} (h : i ∈ picks hands rule st) : i < st.length := List.mem_range.mp (List.mem_filter.mp h).1
end Hw
/-! enumerate of a tuple, and walks over enumerate. -/
namespace Hw
open PySem PySem.Spec PyProof.Rows L2
theorem enumNewT (t : Addr) (its : Array Value) :
    Meets (Builtin.«enumerate.__new__» ⟨[.type "enumerate", .ref t], []⟩) (fun _ R s => s.heap.IsTuple t its ∧
      R (.ok (.ret (.ref (s.heap.objs.size + 1))))
        { s with heap := (s.heap.push { cls := .type "tuple_iterator", data := .fields #[.ref t, .int 0 0] }).push { cls := .type "enumerate", data := .fields #[.none, .bool false, .ref s.heap.objs.size, rawInt 0, .none, .none] } }) :=
  .of_wp fun pg wd Ar Re sh hyp => by
    rcases sh with ⟨hh, ge, di, tk, st⟩
    rcases hyp with ⟨isT, fin⟩
    have sub := sub_enumerate
    have sz : (hh.push { cls := .type "tuple_iterator", data := .fields #[.ref t, .int 0 0] }).objs.size = hh.objs.size + 1 := Heap.size_push ..
    rw [← sz] at fin
    have it1 : ∀ {B : Around} {E : Value → Shared → Prop} {Q : Value → Shared → Prop}, Q (.ref hh.objs.size) ⟨hh.push { cls := .type "tuple_iterator", data := .fields #[.ref t, .int 0 0] }, ge, di, tk, st⟩ →
        wpAny (model pg wd) B (pyIter (.ref t)) Q E ⟨hh, ge, di, tk, st⟩ := fun z => wpAny_pyIter_tuple (s := ⟨hh, ge, di, tk, st⟩) isT z
    wp_walk using it1
    refine wpAny_stack_any fun kk => wpAny_pure ?_
    split
    · rename_i cc _ _ _ _ _
      cases (cc == Value.type "enumerate")
      all_goals
        wp_walk using it1
        exact ⟨_, rfl, fin⟩
    · wp_walk using it1
      exact ⟨_, rfl, fin⟩
section
variable {prog : Program} {w : World} {A : Around} {E : Value → Shared → Prop} {s : Shared}
theorem callEnumT {t : Addr} {its : Array Value} {Q : Value → Shared → Prop} (isT : s.heap.IsTuple t its)
    (fin : ∀ h', IsEnum h' (s.heap.objs.size + 1) s.heap.objs.size 0 .none → h'.IsTupleIter s.heap.objs.size t 0 → (∀ b o, s.heap.get? b = some o → h'.get? b = some o) → Q (.ref (s.heap.objs.size + 1)) { s with heap := h' }) :
    wpAny (model prog w) A (call (.type "enumerate") [.ref t]) Q E s := by
  have sz : (s.heap.push { cls := .type "tuple_iterator", data := .fields #[.ref t, .int 0 0] }).objs.size = s.heap.objs.size + 1 := Heap.size_push ..
  have g1 := Heap.get?_push_size (s.heap.push { cls := .type "tuple_iterator", data := .fields #[.ref t, .int 0 0] }) (o := { cls := .type "enumerate", data := .fields #[.none, .bool false, .ref s.heap.objs.size, rawInt 0, .none, .none] }) rfl
  rw [sz] at g1
  refine callType_new F.called_enumerate (by decide) (F.typeCall_enumerate_1 _) (F.newCall_enumerate_1 _) (fun ob => F.args_object_init_2 ob _) F.entry_enumerate_new (enumNewT t its) ⟨isT, ⟨_, g1, rfl⟩, fin _ g1 ?_ ?_⟩
  · exact ⟨_, Heap.get?_push_of_some _ (Heap.get?_push_size _ rfl), rfl, rfl⟩
  · exact fun b o z => Heap.get?_push_of_some _ (Heap.get?_push_of_some _ z)
end
/-- the tuple at a, each item in a new pair with its number -/
def IteT (K : PySem.W.Frag) (a : Addr) : It :=
  ⟨fun i H => ∃ (xs : List V) (x : V), SqT K H a xs ∧ xs[i]? = some x,
   fun i H v H' => ∃ T x, v = .ref T ∧ H T = none ∧ H' = upd H T (.tup [.int (i : Nat), x]) ∧ ∀ xs, SqT K H a xs → xs[i]? = some x,
   fun i H => ∃ xs : List V, SqT K H a xs ∧ xs.length ≤ i⟩
theorem apartT {h : Heap} {a it : Addr} {its : Array Value} {k : Nat} (p : IsTup h a its) (q : h.IsTupleIter it a k) : a ≠ it := by
  rintro rfl
  obtain ⟨o, g, c, _⟩ := p
  obtain ⟨o', g', c', _⟩ := q
  rw [g] at g'
  cases g'
  rw [c] at c'
  exact absurd (Value.type.inj c') (by decide)
theorem apartE {h : Heap} {a e it : Addr} {its : Array Value} {k : Int} {old : Value} (p : IsTup h a its) (q : IsEnum h e it k old) : e ≠ a := by
  rintro rfl
  obtain ⟨o, g, c, _⟩ := p
  rw [q] at g
  cases g
  exact absurd (Value.type.inj c) (by decide)
theorem drawsEnd {prog : Program} {w : World} {A : Around} (hh : A.handled = none) (it a : Addr) (k : Nat) {its : Array Value} (hx : its[k]? = none) :
    Draws prog w A it [it, a] k (fun _ _ => True) (fun i h => i = k ∧ h.IsTupleIter it a k ∧ h.IsTuple a its) where
  live := by
    rintro _ _ ⟨_, ⟨o, g, _⟩, _⟩
    exact ⟨o, g⟩
  frame := by
    rintro i h h' ⟨e, g, p⟩ hk
    exact ⟨e, g.at fun o z => hk it (by simp) o z, p.at fun o z => hk a (by simp) o z⟩
  item := by
    rintro i s Q E hi ⟨e, _⟩
    exact absurd e (Nat.ne_of_lt hi)
  done := by
    rintro s Q E ⟨_, g, p⟩ hE
    exact wpAny_nextOf_tuple_end hh g p hx hE
theorem turnEnumT {P : Program} {w : World} {K : PySem.W.Frag} {elts : List Expr} {kk : Nat} {tpos : Pos} (a e it : Addr) :
    Turn P w K (.Tuple elts kk tpos) (IteT K a) [e, it] e (fun i h => (∃ old, IsEnum h e it ((i : Nat) : Int) old) ∧ h.IsTupleIter it a i ∧ e ≠ it) where
  mem := by simp
  obj := by
    rintro i h ⟨⟨old, he⟩, ⟨o, ho, _, dt⟩, _⟩ b hb
    rcases (show b = e ∨ b = it by simpa using hb) with rfl | rfl
    · exact ⟨_, he, fun v q => nomatch q⟩
    · exact ⟨o, ho, fun v q => by rw [dt] at q; cases q⟩
  keep := by
    rintro i h h' ⟨⟨old, he⟩, hi, ne⟩ k
    exact ⟨⟨old, k e (by simp) _ he⟩, hi.at fun o q => k it (by simp) o q, ne⟩
  item := by
    intro Y y1 y2 y3 calm i pn sh slots G EE fr Ex stt gg
    subst y1 y2 y3
    obtain ⟨⟨old, he⟩, hit, ne⟩ := stt
    obtain ⟨xs, x, hq, hx⟩ := gg
    obtain ⟨its, rv, p, hz⟩ := fr.tuple hq
    obtain ⟨u, hu, ru⟩ := rv.get hx
    have n1 := apartT p hit
    have n2 := apartE p he
    have le : e < sh.heap.objs.size := Heap.lt_size he
    have li : it < sh.heap.objs.size := by
      obtain ⟨_, q, _⟩ := hit
      exact Heap.lt_size q
    have hi : i < its.toArray.size := by
      have := (List.getElem?_eq_some_iff.mp hu).1
      simpa using this
    have off : ∀ b : Addr, b ∉ [e, it] → b ≠ e ∧ b ≠ it := fun b hb => ⟨fun z => hb (by simp [z]), fun z => hb (by simp [z])⟩
    refine wpAny_pyNext_enum_itemD (Draws.tuple (A := Y.A.in1) (show Y.A.in1.handled = none from fr.ok.hd calm) it a n1 its.toArray) he ⟨hit, p⟩ hi ne (by simp [ne, n2]) fun u' h1 tk e1 ho st1 hT hs hk => ?_
    have eu : u' = u := by
      have e1 : its.toArray[i]? = some u' := e1
      have e2 : its.toArray[i]? = some u := by simpa using hu
      exact Option.some.inj (e1.symm.trans e2)
    subst eu
    refine ⟨_, rfl, wpAny_letOwnedTupleGo_enum (s := { sh with heap := h1, toks := tk + 1 }) ho fun h2 he2 sb => ?_⟩
    have hT2 : h2.get? sh.heap.objs.size = some { cls := .type "tuple", data := .seq #[.int i tk, u'] } := (sb.2 _ (Nat.ne_of_gt le)).trans hT
    have nw : ObjOk Y.prog Y.w (upd G sh.heap.objs.size (.tup [.int (i : Nat), x])) h2 sh.heap.objs.size (.tup [.int (i : Nat), x]) := by
      refine ⟨?_, [.int i tk, u'], .cons ⟨_, rfl⟩ (.cons ru .nil), _, hT2, rfl, _, rfl⟩
      show 2 ≤ sizeLine
      decide
    have J : Inv Y pn slots (upd G sh.heap.objs.size (.tup [.int (i : Nat), x])) { sh with heap := h2, toks := tk + 1 } := by
      refine fr.turnedNew (ch := [e, it]) (fun b o hb q => ?_) Ex (Nat.le_refl _) nw
      exact (sb.2 b (off b hb).1).trans (hk b o (off b hb).1 (off b hb).2 q)
    refine ⟨.ref sh.heap.objs.size, _, J, rfl, ⟨_, x, rfl, fr.hok.fresh (Nat.le_refl _), rfl, fun ys hy => by rw [fr.tuple_inj hy hq]; exact hx⟩, ⟨⟨u', ?_⟩, st1.1.at fun o q => (sb.2 it (Ne.symm ne)).trans q, ne⟩, fun b hb => ?_⟩
    · rw [show ((i + 1 : Nat) : Int) = (i : Int) + 1 by omega]
      exact he2
    · have hlt : b < sh.heap.objs.size := by
        rcases (show b = e ∨ b = it by simpa using hb) with rfl | rfl
        · exact le
        · exact li
      rw [upd_ne (Nat.ne_of_lt hlt)]
      exact (Ex b hb).1
  done := by
    intro Y y1 y2 y3 calm i pn sh slots G EE fr Ex stt gg
    subst y1 y2 y3
    obtain ⟨⟨old, he⟩, hit, ne⟩ := stt
    obtain ⟨xs, hq, hx⟩ := gg
    obtain ⟨its, rv, p, hz⟩ := fr.tuple hq
    have n1 := apartT p hit
    have hl := rv.length
    obtain ⟨f0, f1, f2, f3, f4, f5⟩ := Ex it (by simp)
    have hk : its.toArray[i]? = none := by
      rw [List.getElem?_toArray]
      exact List.getElem?_eq_none (by omega)
    refine wpAny_pyNext_enum_endD (drawsEnd (A := Y.A.in1) (show Y.A.in1.handled = none from fr.ok.hd calm) it a i hk) he ⟨rfl, hit, p⟩ fun h2 ext => ⟨rfl, fr.turned (t' := sh.toks) (fun b o hb q => ext b o hb q) f0 f1 f3 f4 f5⟩
  self := by
    rintro B i sh Q Ex ⟨⟨_, he⟩, _⟩ q
    exact wpAny_pyIter_enum he q
def iEnumT (K : PySem.W.Frag) (ta : TA) : TI := fun σ H R => ta σ H fun vs H1 => ∃ a xs, vs = [.ref a] ∧ SqT K H1 a xs ∧ R (IteT K a) H1
theorem pi_enumT {X : Cx} {e : Expr} {ta : TA} {p pos tpos : Pos} {elts : List Expr} {kk : Nat} (hg : Gl X "enumerate") (hm : X.mg "enumerate" = none) (ha : PA X [e] ta) (st : starEach [e] X.env = [(false, eval e X.env)] := by rfl) :
    PI X (.Tuple elts kk tpos) (.Call (.Name "enumerate" p) [e] [] pos) (iEnumT X.K ta) := by
  refine ⟨fun pn sh slots G R fr h => ?_⟩
  refine Call_ (ld_blt fr hg hm boot_enumerate (PyProof.Rows.callWith_type1 (thn (ha.run pos pn sh slots G _ fr h) fun us s1 ⟨vs, H1, I1, r1, q1⟩ => ?_) st rfl))
  obtain ⟨a, xs, rfl, hq, q⟩ := q1
  obtain ⟨u, rfl, ru⟩ := vals1 r1
  obtain rfl : u = Value.ref a := ru
  obtain ⟨its, rv, p', hz⟩ := I1.tuple hq
  refine callEnumT p' fun h2 he2 hit hk => wpAny_pyIter_enum he2 ?_
  have I2 : Inv X pn slots H1 { s1 with heap := h2 } := I1.kept (t' := s1.toks) hk
  refine ⟨s1.heap.objs.size + 1, [s1.heap.objs.size + 1, s1.heap.objs.size], _, _, H1, rfl, I2, turnEnumT a (s1.heap.objs.size + 1) s1.heap.objs.size, ⟨⟨.none, he2⟩, hit, Nat.succ_ne_self _⟩, fun b hb => ?_, q⟩
  have hle : s1.heap.objs.size ≤ b := by
    rcases (show b = s1.heap.objs.size + 1 ∨ b = s1.heap.objs.size by simpa using hb) with rfl | rfl
    · exact Nat.le_add_right _ _
    · exact Nat.le_refl _
  exact I1.fpOk hle (I1.hok.fresh hle)
theorem walkEnumT {K : PySem.W.Frag} {a : Addr} {xs : List V} : Walk (IteT K a) xs.length (fun H => SqT K H a xs) (YPair (fun i => some (.int (i : Nat))) (fun i => xs[i]?)) := by
  refine ⟨fun i _ hi q => ⟨xs, xs[i], q, by simp [hi]⟩, fun _ q => ⟨xs, q, Nat.le_refl _⟩, ?_⟩
  rintro i H v H' _ q ⟨T, x, h1, h2, h3, h4⟩
  exact ⟨T, .int (i : Nat), x, h1, h2, h3, rfl, h4 xs q⟩
/-- a for over enumerate of a tuple, of a list -/
def ForET (K : PySem.W.Frag) (g : TG) (tb : TS) (D : Ends) (σ : L2.St) (vs : List V) (H1 : Hp) : Prop := tFor (iEnumT K (fun _ H Q => Q vs H)) g tb D σ H1
def ForEL (K : PySem.W.Frag) (g : TG) (tb : TS) (D : Ends) (σ : L2.St) (vs : List V) (H1 : Hp) : Prop := tFor (iEnum K (fun _ H Q => Q vs H)) g tb D σ H1
section
variable {K : PySem.W.Frag} {a : Addr} {xs : List V} {g : TG} {tb : TS} {D : Ends} {σ : L2.St} {H : Hp}
theorem sForET {ta : TA} (h : ta σ H fun vs H1 => ForET K g tb D σ vs H1) : tFor (iEnumT K ta) g tb D σ H := h
theorem sForEL {ta : TA} (h : ta σ H fun vs H1 => ForEL K g tb D σ vs H1) : tFor (iEnum K ta) g tb D σ H := h
theorem forEnumT (P : Nat → L2.St → Hp → Prop) (src : ∀ i σ H, P i σ H → SqT K H a xs) (h0 : P 0 σ H)
    (hs : ∀ i x T σ H H', xs[i]? = some x → P i σ H → Kp Non H H' → H' T = some (.tup [.int (i : Nat), x]) → g (.ref T) σ H' fun σ2 H2 => tb { D with nx := P (i + 1), ct := P (i + 1), bk := D.nx } σ2 H2) (hd : ∀ σ H, P xs.length σ H → D.nx σ H) :
    ForET K g tb D σ [.ref a] H :=
  ⟨a, xs, rfl, src 0 σ H h0, for_it walkEnumT P h0 (fun i σ H _ p => src i σ H p) (by
    rintro i v σ H H' hi p ⟨T, y1, y2, rfl, nT, rfl, e1, e2⟩
    cases e1
    exact hs i y2 T σ H _ e2 p (Kp.new nT) upd_same) hd⟩
theorem forEnumL (P : Nat → L2.St → Hp → Prop) (src : ∀ i σ H, P i σ H → SqL K H a xs) (h0 : P 0 σ H)
    (hs : ∀ i x T σ H H', xs[i]? = some x → P i σ H → Kp Non H H' → H' T = some (.tup [.int (i : Nat), x]) → g (.ref T) σ H' fun σ2 H2 => tb { D with nx := P (i + 1), ct := P (i + 1), bk := D.nx } σ2 H2) (hd : ∀ σ H, P xs.length σ H → D.nx σ H) :
    ForEL K g tb D σ [.ref a] H :=
  ⟨a, xs, rfl, src 0 σ H h0, for_it walk_enum P h0 (fun i σ H _ p => src i σ H p) (by
    rintro i v σ H H' hi p ⟨T, y1, y2, rfl, nT, rfl, e1, e2⟩
    cases e1
    exact hs i y2 T σ H _ e2 p (Kp.new nT) upd_same) hd⟩
end
/-- a comprehension over enumerate -/
def LcEL (K : PySem.W.Frag) (g : TG) (tt : TT) (te : TE) (vs : List Nat) (σ : L2.St) (Q : VK) (ws : List V) (H1 : Hp) : Prop := tLc (iEnum K (fun _ H Q => Q ws H)) g tt te vs σ H1 Q
def LcET (K : PySem.W.Frag) (g : TG) (tt : TT) (te : TE) (vs : List Nat) (σ : L2.St) (Q : VK) (ws : List V) (H1 : Hp) : Prop := tLc (iEnumT K (fun _ H Q => Q ws H)) g tt te vs σ H1 Q
section
variable {K : PySem.W.Frag} {a : Addr} {xs : List V} {g : TG} {tt : TT} {te : TE} {vs : List Nat} {σ : L2.St} {H1 : Hp} {Q : VK} {S : Addr → Prop} {P : Nat → List V → Hp → Prop}
theorem sLcEL {ta : TA} (h : ta σ H1 fun ws H2 => LcEL K g tt te vs σ Q ws H2) : tLc (iEnum K ta) g tt te vs σ H1 Q := h
theorem sLcET {ta : TA} (h : ta σ H1 fun ws H2 => LcET K g tt te vs σ Q ws H2) : tLc (iEnumT K ta) g tt te vs σ H1 Q := h
theorem lcEnumL (hn : xs.length ≤ sizeLine) (src : SqL K H1 a xs) (nSa : ¬ S a) (hS : ∀ b, S b → H1 b ≠ none) (h0 : ∀ H', Kp Non H1 H' → P 0 [] H') (stab : LcStab P H1) (ext : ∀ i ys H H', P i ys H → Kp Non H H' → P i ys H')
    (turn : ∀ i x, xs[i]? = some x → ∀ T (D : Addr) (ys : List V) (H : Hp) (Z : Hp → Prop), Kp S H1 H → H T = some (.tup [.int (i : Nat), x]) → P i ys H →
      (∀ y H4, Kp S H H4 → P (i + 1) (ys ++ [y]) H4 → ∃ acc, H4 D = some (.lst acc) ∧ acc.length < sizeLine ∧ Z (upd H4 D (.lst (acc ++ [y])))) →
      (∀ H3, Kp S H H3 → P (i + 1) ys H3 → Z H3) →
      g (.ref T) (wipe σ vs) H fun σ2 H2 => wipe σ2 vs = wipe σ vs ∧ tt σ2 H2 fun b H3 =>
        if b = true then te σ2 H3 fun y H4 => ∃ acc, H4 D = some (.lst acc) ∧ acc.length < sizeLine ∧ Z (upd H4 D (.lst (acc ++ [y]))) else Z H3)
    (hd : ∀ D ys H', P xs.length ys H' → ys.length ≤ xs.length → Kp S H1 H' → H1 D = none → H' D = some (.lst ys) → Q (.ref D) H') :
    LcEL K g tt te vs σ Q [.ref a] H1 :=
  ⟨a, xs, rfl, src, fun D nD => lc_it walk_enum (LcAt S P H1 D) (lcStart nD h0) (fun i H _ ⟨ys, _, _, k, _⟩ => k.sqL nSa src) (by
    rintro i v H H' hi ⟨ys, e, l, k, p⟩ ⟨T, y1, x, rfl, nT, rfl, e1, e2⟩
    cases e1
    have nS : ¬ S D := fun z => hS D z nD
    have kT : Kp S H (upd H T (.tup [.int (i : Nat), x])) := Kp.new nT
    have eD := kT.same _ _ nS e
    refine turn i x e2 T D ys _ _ (k.trans kT) upd_same (ext _ _ _ _ p (Kp.new nT)) (fun y H4 k4 p4 => ?_) (fun H3 k3 p3 => ⟨ys, k3.same _ _ nS eD, Nat.le_succ_of_le l, (k.trans kT).trans k3, p3⟩)
    have e4 := k4.same _ _ nS eD
    refine ⟨ys, e4, by omega, ys ++ [y], upd_same, by rw [List.length_append]; exact Nat.add_le_add_right l 1, ?_, stab D nD _ _ _ _ p4 (Kp.putL e4)⟩
    exact Kp.drop (p := D) ((((k.trans kT).trans k4).wide fun b z => .inr z).trans ((Kp.putL e4).wide fun b z => .inl z)) nD)
    (fun H ⟨ys, e, l, k, p⟩ => hd D ys H p l k nD e)⟩
end
end Hw
/-! list(enumerate(a tuple)). -/
namespace Hw
open PySem PySem.Spec PyProof.Rows L2
section
variable {prog : Program} {w : World} {A : Around} {E : Value → Shared → Prop} {s : Shared}
/-- one more pair, while the first one told is still there -/
theorem pairHeldT {q r t T : Addr} {n : Nat} {xs : Array Value} {x old : Value} {fl : Bool} {ot : Obj} {Q : Value → Shared → Prop} (hq : IsEnumHeld s.heap q r n old T fl) (hT : s.heap.get? T = some ot) (n1 : T ≠ q) (n2 : T ≠ r) (hr : s.heap.IsTupleIter r t n) (ht : s.heap.IsTuple t xs) (hx : xs[n]? = some x) (qr : q ≠ r)
    (fin : ∀ hh, IsEnumHeld hh q r ((n : Int) + 1) old T true → hh.IsTupleIter r t (n + 1) → hh.get? s.heap.objs.size = some { cls := .type "tuple", data := .seq #[.int n s.toks, x] } → (∀ b o, b ≠ q → b ≠ r → s.heap.get? b = some o → hh.get? b = some o) → Q (.ref s.heap.objs.size) { s with heap := hh, toks := s.toks + 1 }) :
    wpAny (model prog w) A (Builtin.«enumerate.__next__» ⟨[.ref q], []⟩) (fun f s' => ∃ v, f = .done (.ret v) ∧ Q v s') E s := by
  rcases s with ⟨H0, gs, dr, t0, ow⟩
  show wpAny _ _ (field (.ref q) 2 >>= _) _ _ _
  refine wpAny_bind (wpAny_field hq rfl (x := .ref r) rfl (wpAny_bind (wpAny_nextOf_tuple_item hr ht hx fun H1 r1 b1 => ?_)))
  have b1 : Heap.SameBut r H0 H1 := b1
  have q1 : IsEnumHeld H1 q r n old T fl := (b1.2 q qr).trans hq
  show wpAny _ _ (field (.ref q) 3 >>= _) _ _ ⟨H1, gs, dr, t0, ow⟩
  refine wpAny_bind (wpAny_field q1 rfl (x := rawInt n) rfl ?_)
  show wpAny _ _ (field (.ref q) 4 >>= _) _ _ ⟨H1, gs, dr, t0, ow⟩
  refine wpAny_bind (wpAny_field q1 rfl (x := .none) rfl ?_)
  show wpAny _ _ (mkInt n >>= _) _ _ ⟨H1, gs, dr, t0, ow⟩
  refine wpAny_bind (wpAny_mkInt ?_)
  show wpAny _ _ (setField (.ref q) 3 (rawInt ((n : Int) + 1)) >>= _) _ _ ⟨H1, gs, dr, t0 + 1, ow⟩
  refine wpAny_bind (wpAny_setField_rec q1 (by simp) fun H2 q2 b2 => ?_)
  have b2 : Heap.SameBut q H1 H2 := b2
  have q2 : IsEnumHeld H2 q r ((n : Int) + 1) old T fl := q2
  show wpAny _ _ (setField (.ref q) 4 .none >>= _) _ _ ⟨H2, gs, dr, t0 + 1, ow⟩
  refine wpAny_bind (wpAny_setField_rec q2 (by simp) fun H3 q3 b3 => ?_)
  have b3 : Heap.SameBut q H2 H3 := b3
  have q3 : IsEnumHeld H3 q r ((n : Int) + 1) old T fl := q3
  show wpAny _ _ (newTuple [.int n t0, x] >>= _) _ _ ⟨H3, gs, dr, t0 + 1, ow⟩
  refine wpAny_bind (wpAny_newTuple ?_)
  have old3 : ∀ b o, b ≠ q → b ≠ r → H0.get? b = some o → H3.get? b = some o := fun b o hb1 hb2 e => b3.extBut b o hb1 (b2.extBut b o hb1 (b1.extBut b o hb2 e))
  have z3 : H3.objs.size = H0.objs.size := ((b3.1).trans b2.1).trans b1.1
  have q4 : IsEnumHeld (H3.push { cls := .type "tuple", data := .seq #[.int n t0, x] }) q r ((n : Int) + 1) old T fl := Heap.get?_push_of_some _ q3
  have T4 : (H3.push { cls := .type "tuple", data := .seq #[.int n t0, x] }).get? T = some ot := Heap.get?_push_of_some _ (old3 T ot n1 n2 hT)
  have r3 : H3.IsTupleIter r t (n + 1) := (r1.extBut b2.extBut qr.symm).extBut b3.extBut qr.symm
  show wpAny _ _ (Builtin.SmallTypes.ownedTupleIsFree (.ref q) >>= _) _ _ ⟨H3.push { cls := .type "tuple", data := .seq #[.int n t0, x] }, gs, dr, t0 + 1, ow⟩
  refine wpAny_bind (wpAny_tupleHeld_enum (s := ⟨H3.push { cls := .type "tuple", data := .seq #[.int n t0, x] }, gs, dr, t0 + 1, ow⟩) q4 T4 fun H5 q5 b5 => ?_)
  have b5 : Heap.SameBut q (H3.push { cls := .type "tuple", data := .seq #[.int n t0, x] }) H5 := b5
  have nq : H3.objs.size ≠ q := by rw [z3]; exact Nat.ne_of_gt (Heap.lt_size hq)
  have g5 := b5.extBut _ _ nq (Heap.get?_push_size H3 (o := { cls := .type "tuple", data := .seq #[.int n t0, x] }) rfl)
  rw [z3] at g5 ⊢
  simp only [Bool.false_eq_true, if_false]
  refine wpAny_pure ⟨_, rfl, fin H5 q5 ?_ g5 fun b o hb1 hb2 e => b5.extBut b o hb1 (Heap.get?_push_of_some _ (old3 b o hb1 hb2 e))⟩
  refine Heap.IsTupleIter.extBut (h := H3.push { cls := .type "tuple", data := .seq #[.int n t0, x] }) ?_ b5.extBut qr.symm
  exact r3.at fun o e => Heap.get?_push_of_some _ e
theorem nextHeldT {q r t T : Addr} {n : Nat} {xs : Array Value} {x old : Value} {fl : Bool} {ot : Obj} {Q : Option Value → Shared → Prop} (hq : IsEnumHeld s.heap q r n old T fl) (hT : s.heap.get? T = some ot) (n1 : T ≠ q) (n2 : T ≠ r) (hr : s.heap.IsTupleIter r t n) (ht : s.heap.IsTuple t xs) (hx : xs[n]? = some x) (qr : q ≠ r)
    (fin : ∀ hh, IsEnumHeld hh q r ((n : Int) + 1) old T true → hh.IsTupleIter r t (n + 1) → hh.get? s.heap.objs.size = some { cls := .type "tuple", data := .seq #[.int n s.toks, x] } → (∀ b o, b ≠ q → b ≠ r → s.heap.get? b = some o → hh.get? b = some o) → Q (some (.ref s.heap.objs.size)) { s with heap := hh, toks := s.toks + 1 }) :
    wpAny (model prog w) A (pyNext (.ref q)) Q E s := by
  have ty : s.TypeIs (.ref q) "enumerate" := ⟨_, hq, rfl⟩
  unfold pyNext
  refine wpAny_bind (wpAny_attempt (wpAny_callSpecial?_slot (name := Str.ofString "__next__") ty F.slot_enumerate_next ?_))
  refine wpAny_call_entry F.slot_enumerate_next ty F.entry_enumerate_next (pairHeldT hq hT n1 n2 hr ht hx qr fun hh a b c d => ?_) (F.args_enumerate_next_1 _)
  exact wpAny_pure (fin hh a b c d)
theorem endHeldT {q r t T : Addr} {n : Nat} {xs : Array Value} {old : Value} {fl : Bool} {Q : Option Value → Shared → Prop} (hd : A.handled = none) (hq : IsEnumHeld s.heap q r n old T fl) (hr : s.heap.IsTupleIter r t n) (ht : s.heap.IsTuple t xs) (hx : xs[n]? = none)
    (fin : ∀ hh, Heap.ExtBut r s.heap hh → Q none { s with heap := hh }) : wpAny (model prog w) A (pyNext (.ref q)) Q E s := by
  have ty : s.TypeIs (.ref q) "enumerate" := ⟨_, hq, rfl⟩
  unfold pyNext
  refine wpAny_bind (wpAny_attempt (wpAny_callSpecial?_slot (name := Str.ofString "__next__") ty F.slot_enumerate_next ?_))
  refine wpAny_call_entry F.slot_enumerate_next ty F.entry_enumerate_next ?_ (F.args_enumerate_next_1 _)
  show wpAny _ _ (field (.ref q) 2 >>= _) _ _ _
  refine wpAny_bind (wpAny_field hq rfl (x := .ref r) rfl (wpAny_bind (wpAny_nextOf_tuple_end hd hr ht hx fun hh x hb ⟨o, e1, e2⟩ => ?_)))
  exact wpAny_bind (wpAny_isInstance (T := "StopIteration") (b := true) ⟨o, e1, e2⟩ isSubtype_stop (wpAny_pure (fin _ hb)))
/-- the pairs laid so far -/
def PairsIn (lo : Nat) (h : Heap) (xs : Array Value) (acc : Array Value) (n : Nat) : Prop :=
  acc.size = n ∧ ∀ j, j < n → ∃ (T : Addr) (tk : Tok) (x : Value), lo ≤ T ∧ acc[j]? = some (.ref T) ∧ xs[j]? = some x ∧ h.get? T = some { cls := .type "tuple", data := .seq #[.int j tk, x] }
theorem PairsIn.at {lo : Nat} {h h' : Heap} {xs acc : Array Value} {n : Nat} (p : PairsIn lo h xs acc n) (k : ∀ b o, o.cls = .type "tuple" → h.get? b = some o → h'.get? b = some o) : PairsIn lo h' xs acc n :=
  ⟨p.1, fun j hj => let ⟨T, tk, x, e0, e1, e2, e3⟩ := p.2 j hj; ⟨T, tk, x, e0, e1, e2, k _ _ rfl e3⟩⟩
theorem PairsIn.snoc {lo : Nat} {h : Heap} {xs acc : Array Value} {n : Nat} {T : Addr} {tk : Tok} {x : Value} (p : PairsIn lo h xs acc n) (hlo : lo ≤ T) (hx : xs[n]? = some x) (hT : h.get? T = some { cls := .type "tuple", data := .seq #[.int n tk, x] }) : PairsIn lo h xs (acc.push (.ref T)) (n + 1) := by
  refine ⟨by rw [Array.size_push, p.1], fun j hj => ?_⟩
  by_cases c : j < n
  · obtain ⟨T', tk', x', e0, e1, e2, e3⟩ := p.2 j c
    exact ⟨T', tk', x', e0, by rw [Array.getElem?_push_lt (by rw [p.1]; exact c)]; rw [← e1]; exact (Array.getElem?_eq_getElem _).symm, e2, e3⟩
  · obtain rfl : j = n := by omega
    exact ⟨T, tk, x, hlo, by rw [← p.1]; simp, hx, hT⟩
/-- where the walk over the pairs stands -/
def EnSt (q r t : Addr) (n : Nat) (h : Heap) : Prop := (∃ old, IsEnum h q r n old) ∨ ∃ (old : Value) (T : Addr) (fl : Bool) (ot : Obj), IsEnumHeld h q r n old T fl ∧ h.get? T = some ot ∧ T ≠ q ∧ T ≠ r ∧ ot.cls = .type "tuple"
theorem extendEnum {lo : Nat} {prog : Program} {w : World} {A : Around} {S q r t : Addr} {xs : Array Value} {h0 : Heap} (hd : A.handled = none) (qr : q ≠ r) (tq : t ≠ q) (tr : t ≠ r) (tS : t ≠ S) (Sq : S ≠ q) (Sr : S ≠ r) (hn : xs.size ≤ sizeLine) (res : Value) {R : Result → Shared → Prop} :
    ∀ (k n : Nat) (s : Shared) (acc : Array Value) (c : Nat), xs.size - n = k → n ≤ xs.size → EnSt q r t n s.heap → s.heap.IsTupleIter r t n → s.heap.IsTuple t xs → s.heap.get? S = some { cls := .type "list", dict := none, data := .seq acc c, slots := #[] } → PairsIn lo s.heap xs acc n → lo ≤ s.heap.objs.size →
    (∀ (h' : Heap) (tk : Nat) (acc' : Array Value) (c' : Nat), (∀ b o, b ≠ S → b ≠ q → b ≠ r → s.heap.get? b = some o → h'.get? b = some o) → h'.get? S = some { cls := .type "list", dict := none, data := .seq acc' c', slots := #[] } → PairsIn lo h' xs acc' xs.size → R (.ok (.ret res)) { s with heap := h', toks := tk }) →
    codeAny (model prog w) A (.builtin "list.extend.loop" ⟨[.ref S, .ref q, res], []⟩) R s := by
  intro k
  induction k with
  | zero =>
    intro n s acc c hk hle est hr ht hS hp hlo fin
    obtain rfl : n = xs.size := by omega
    refine codeAny_builtin F.entry_extend_loop ?_
    rw [Around.under_plainId F.plain_extend_loop _]
    show wpAny _ A.in1 (pyNext (.ref q) >>= _) _ _ s
    have none : xs[xs.size]? = none := Array.getElem?_eq_none (Nat.le_refl _)
    have last : ∀ h', Heap.ExtBut r s.heap h' → wpAny (model prog w) A.in1 (pure (Fin.done (.ret res))) (fun (fin : Fin) s' => match fin with | .done f => R (.ok f) s' | .again c' => c'.quiet = true ∧ codeAny (model prog w) A c' R s') (fun e s' => R (.error e) s') { s with heap := h' } := fun h' ex =>
      wpAny_pure (fin h' s.toks acc c (fun b o _ _ hb e => ex b o hb e) (ex S _ Sr hS) (hp.at fun b o ho e => ex b o (fun z => by
        subst z
        obtain ⟨o', e', c', _⟩ := hr
        rw [e'] at e
        cases e
        rw [c'] at ho
        exact absurd (Value.type.inj ho) (by decide)) e))
    rcases est with ⟨old, he⟩ | ⟨old, T, fl, ot, he, hT, n1, n2, hc⟩
    · exact wpAny_bind (wpAny_pyNext_enum_endD (drawsEnd (A := A.in1.in1) hd r t xs.size none) he ⟨rfl, hr, ht⟩ fun h' ex => last h' ex)
    · exact wpAny_bind (endHeldT (A := A.in1) hd he hr ht none fun h' ex => last h' ex)
  | succ k ih =>
    intro n s acc c hk hle est hr ht hS hp hlo fin
    have hlt : n < xs.size := by omega
    have hx := Array.getElem?_eq_getElem hlt
    refine codeAny_builtin F.entry_extend_loop ?_
    rw [Around.under_plainId F.plain_extend_loop _]
    show wpAny _ A.in1 (pyNext (.ref q) >>= _) _ _ s
    have rT : ∀ b o, o.cls = .type "tuple" → s.heap.get? b = some o → b ≠ r := fun b o ho e z => by
      subst z
      obtain ⟨o', e', c', _⟩ := hr
      rw [e'] at e
      cases e
      rw [c'] at ho
      exact absurd (Value.type.inj ho) (by decide)
    have qT : ∀ b o, o.cls = .type "tuple" → s.heap.get? b = some o → b ≠ q := fun b o ho e z => by
      subst z
      rcases est with ⟨old, he⟩ | ⟨old, T, fl, ot, he, _⟩
      all_goals
        rw [he] at e
        cases e
        exact absurd (Value.type.inj ho) (by decide)
    have ST : ∀ {h : Heap} {acc : Array Value} {c : Nat}, h.get? S = some { cls := .type "list", dict := none, data := .seq acc c, slots := #[] } → ∀ b o, o.cls = .type "tuple" → h.get? b = some o → b ≠ S := fun hS b o ho e z => by
      subst z
      rw [hS] at e
      cases e
      exact absurd (Value.type.inj ho) (by decide)
    have nr : s.heap.objs.size ≠ r := let ⟨_, e, _⟩ := hr; Nat.ne_of_gt (Heap.lt_size e)
    have nq : s.heap.objs.size ≠ q := by
      rcases est with ⟨old, he⟩ | ⟨old, T, fl, ot, he, _⟩
      · exact Nat.ne_of_gt (Heap.lt_size he)
      · exact Nat.ne_of_gt (Heap.lt_size he)
    -- what one step leaves
    have step : ∀ (h' : Heap) (tk : Nat) (x : Value) (tk' : Tok), xs[n]? = some x → EnSt q r t (n + 1) h' → h'.IsTupleIter r t (n + 1) → h'.get? s.heap.objs.size = some { cls := .type "tuple", data := .seq #[.int n tk', x] } → (∀ b o, b ≠ q → b ≠ r → s.heap.get? b = some o → h'.get? b = some o) →
        wpAny (model prog w) A.in1 (updateSeq S (·.push (.ref s.heap.objs.size)) >>= fun _ => pure (Fin.again (.builtin "list.extend.loop" ⟨[.ref S, .ref q, res], []⟩))) (fun (fin : Fin) s' => match fin with | .done f => R (.ok f) s' | .again c' => c'.quiet = true ∧ codeAny (model prog w) A c' R s') (fun e s' => R (.error e) s') { s with heap := h', toks := tk } := by
      intro h' tk x tk' hx' est' hr' hT' ext
      have hS' := ext S _ Sq Sr hS
      have up : ∀ b o, b ≠ S → h'.get? b = some o → (h'.update S (Obj.mapSeq (·.push (.ref s.heap.objs.size)))).get? b = some o := fun b o hb e => (Heap.get?_update_other _ _ (Ne.symm hb)).trans e
      refine wpAny_bind (wpAny_updateSeq hS' rfl (wpAny_pure ⟨plainId_quiet F.plain_extend_loop _, ?_⟩) (by rw [hp.1]; omega) (by show (acc.push _).size ≤ sizeLine + 1; rw [Array.size_push, hp.1]; omega))
      refine ih (n + 1) _ (acc.push (.ref s.heap.objs.size)) _ (by omega) hlt ?_ (hr'.at fun o e => up r o Sr.symm e) ?_ (Heap.get?_update_self _ hS' rfl) ?_ (Nat.le_of_lt (Nat.lt_of_le_of_lt hlo (Heap.lt_size (up _ _ (ST hS' _ _ rfl hT') hT')))) ?_
      · rcases est' with ⟨old, he⟩ | ⟨old, T, fl, ot, he, hT, n1, n2, hc⟩
        · exact .inl ⟨old, up _ _ Sq.symm he⟩
        · exact .inr ⟨old, T, fl, ot, up _ _ Sq.symm he, up _ _ (ST hS' _ _ hc hT) hT, n1, n2, hc⟩
      · exact (ht.at fun o e => ext t o tq tr e).at fun o e => up t o tS e
      · refine PairsIn.at (h := h') (PairsIn.snoc (hp.at fun b o ho e => ext b o (qT b o ho e) (rT b o ho e) e) hlo hx' hT') fun b o ho e => up b o (ST hS' b o ho e) e
      · intro h2 tk2 acc2 c2 ext2 hS2 hp2
        exact fin h2 tk2 acc2 c2 (fun b o b1 b2 b3 e => ext2 b o b1 b2 b3 (up b o b1 (ext b o b2 b3 e))) hS2 hp2
    have ec : ((n + 1 : Nat) : Int) = (n : Int) + 1 := by omega
    rcases est with ⟨old, he⟩ | ⟨old, T, fl, ot, he, hT, n1, n2, hc⟩
    · refine wpAny_bind (wpAny_pyNext_enum_itemD (Draws.tuple (A := A.in1.in1) hd r t tr xs) he ⟨hr, ht⟩ hlt qr (by simp [qr, tq.symm]) fun x h1 tk e1 ho st1 hT hs hk => ?_)
      exact step h1 (tk + 1) x tk e1 (.inr ⟨x, s.heap.objs.size, false, _, by rw [ec]; exact ho, hT, nq, nr, rfl⟩) st1.1 hT hk
    · refine wpAny_bind (nextHeldT (A := A.in1) he hT n1 n2 hr ht hx qr fun h1 ho st1 hT1 hk => ?_)
      exact step h1 (s.toks + 1) _ s.toks hx (.inr ⟨old, T, true, ot, by rw [ec]; exact ho, hk T ot n1 n2 hT, n1, n2, hc⟩) st1 hT1 hk
end
theorem enumNoLen : typeLookup (.type "enumerate") "__len__" = pure none := am_miss_of_fast (by decide +kernel)
theorem enumNoHint : typeLookup (.type "enumerate") "__length_hint__" = pure none := am_miss_of_fast (by decide +kernel)
section
variable {prog : Program} {w : World} {A : Around} {s : Shared} {S q r t : Addr} {xs : Array Value} {R : Result → Shared → Prop}
def Fins (prog : Program) (w : World) (A : Around) (R : Result → Shared → Prop) : Fin → Shared → Prop := fun f s' => match f with
  | .done f => R (.ok f) s'
  | .again c' => c'.quiet = true ∧ codeAny (model prog w) A c' R s'
theorem fillEnum {lo c0 : Nat} {old : Value} (hd : A.handled = none) (qr : q ≠ r) (tq : t ≠ q) (tr : t ≠ r) (tS : t ≠ S) (Sq : S ≠ q) (Sr : S ≠ r) (hn : xs.size ≤ sizeLine) (res : Value) (he : IsEnum s.heap q r ((0 : Nat) : Int) old) (hr : s.heap.IsTupleIter r t 0) (ht : s.heap.IsTuple t xs)
    (hS : s.heap.get? S = some { cls := .type "list", data := .seq #[] c0 }) (hlo : lo ≤ s.heap.objs.size)
    (fin : ∀ (h' : Heap) (tk : Nat) (acc' : Array Value) (c' : Nat), (∀ b o, b ≠ S → b ≠ q → b ≠ r → s.heap.get? b = some o → h'.get? b = some o) → h'.get? S = some { cls := .type "list", dict := none, data := .seq acc' c', slots := #[] } → PairsIn lo h' xs acc' xs.size → R (.ok (.ret res)) { s with heap := h', toks := tk }) :
    wpAny (model prog w) A.in1 (Builtin.List.listExtendWith (.ref S) (.ref q) res) (Fins prog w A R) (fun e s' => R (.error e) s') s := by
  have ty : s.TypeIs (.ref q) "enumerate" := ⟨_, he, rfl⟩
  unfold Builtin.List.listExtendWith
  refine wpAny_bind (wpAny_typeOf ty ?_)
  have a1 : Builtin.List.listSameRef (.ref S) (.ref q) = false := by simp [Builtin.List.listSameRef, Sq]
  have a2 : (Value.type "enumerate" == Value.type "list") = false ∧ (Value.type "enumerate" == Value.type "tuple") = false := by decide
  simp only [a1, a2.1, a2.2, Bool.or_false, Bool.false_eq_true, if_false]
  refine wpAny_bind (wpAny_pyIter_enum he (wpAny_bind (wpAny_holding ?_)))
  unfold Builtin.List.listLengthHint
  refine wpAny_bind (wpAny_specialOf ty enumNoLen ?_)
  show wpAny _ A.in1 (specialOf (Value.ref q) (Str.ofString "__length_hint__") >>= _) _ _ _
  refine wpAny_bind (wpAny_specialOf ty enumNoHint (wpAny_pure ?_))
  show wpAny _ A.in1 (rule "list.extend.makes-room" >>= fun _ => Builtin.List.listTouch (.ref S) >>= fun _ => again (.builtin "list.extend.loop" ⟨[.ref S, .ref q, res], []⟩)) _ _ _
  refine wpAny_bind (wpAny_rule (wpAny_bind ?_))
  show wpAny _ A.in1 (updateSeq S (·.push .none) >>= fun _ => updateSeq S (·.pop)) _ _ _
  refine wpAny_bind (wpAny_updateSeq hS rfl ?_)
  have g2 := Heap.get?_update_self (Obj.mapSeq (·.push Value.none)) hS rfl
  refine wpAny_updateSeq (hz := by seq_fits) g2 rfl ?_
  have g3 := Heap.get?_update_self (Obj.mapSeq (·.pop)) g2 rfl
  have off : ∀ b o, b ≠ S → s.heap.get? b = some o → ((s.heap.update S (Obj.mapSeq (·.push Value.none))).update S (Obj.mapSeq (·.pop))).get? b = some o := fun b o n e => (Heap.get?_update_other _ _ n.symm).trans ((Heap.get?_update_other _ _ n.symm).trans e)
  refine wpAny_pure ⟨plainId_quiet F.plain_extend_loop _, extendEnum (h0 := s.heap) hd qr tq tr tS Sq Sr hn res _ 0 _ _ _ rfl (Nat.zero_le _) (.inl ⟨old, off q _ Sq.symm he⟩) (hr.at fun o e => off r o Sr.symm e) (ht.at fun o e => off t o tS e) g3 ⟨rfl, fun j hj => absurd hj (Nat.not_lt_zero _)⟩ (by rw [(Heap.SameBut.update ..).1, (Heap.SameBut.update ..).1]; exact hlo) fun h' tk acc' c' ext hS' hp => ?_⟩
  exact fin h' tk acc' c' (fun b o n1 n2 n3 e => ext b o n1 n2 n3 (off b o n1 e)) hS' hp
theorem initEnum {lo : Nat} {old : Value} (hd : A.handled = none) (qr : q ≠ r) (tq : t ≠ q) (tr : t ≠ r) (tS : t ≠ S) (Sq : S ≠ q) (Sr : S ≠ r) (hn : xs.size ≤ sizeLine) (he : IsEnum s.heap q r ((0 : Nat) : Int) old) (hr : s.heap.IsTupleIter r t 0) (ht : s.heap.IsTuple t xs)
    (hS : s.heap.get? S = some { cls := .type "list", data := .seq #[] }) (hlo : lo ≤ s.heap.objs.size)
    (fin : ∀ (h' : Heap) (tk : Nat) (acc' : Array Value) (c' : Nat), (∀ b o, b ≠ S → b ≠ q → b ≠ r → s.heap.get? b = some o → h'.get? b = some o) → h'.get? S = some { cls := .type "list", dict := none, data := .seq acc' c', slots := #[] } → PairsIn lo h' xs acc' xs.size → R (.ok (.ret .none)) { s with heap := h', toks := tk }) :
    wpAny (model prog w) A.in1 (Builtin.«list.__init__» ⟨[.ref S, .ref q], []⟩) (Fins prog w A R) (fun e s' => R (.error e) s') s := by
  show wpAny _ A.in1 (do
    let was ← Builtin.List.listItems (.ref S)
    Builtin.List.listUpdate (.ref S) (fun _ => #[])
    letGo was.toList.reverse
    Builtin.List.listExtendWith (.ref S) (.ref q) .none) _ _ s
  refine wpAny_bind ?_
  unfold Builtin.List.listItems
  refine wpAny_bind (wpAny_seqItems hS rfl (wpAny_pure ?_))
  show wpAny _ A.in1 (updateSeq S (fun _ => #[]) >>= fun _ => letGo (#[] : Array Value).toList.reverse >>= fun _ => Builtin.List.listExtendWith (.ref S) (.ref q) .none) _ _ s
  refine wpAny_bind (wpAny_updateSeq hS rfl (wpAny_bind (wpAny_letGo ?_)))
  have g2 := Heap.get?_update_self (Obj.mapSeq (fun _ => (#[] : Array Value))) hS rfl
  have off : ∀ b o, b ≠ S → s.heap.get? b = some o → (s.heap.update S (Obj.mapSeq (fun _ => (#[] : Array Value)))).get? b = some o := fun b o n e => (Heap.get?_update_other _ _ n.symm).trans e
  refine fillEnum hd qr tq tr tS Sq Sr hn .none (off q _ Sq.symm he) (hr.at fun o e => off r o Sr.symm e) (ht.at fun o e => off t o tS e) g2 (by rw [(Heap.SameBut.update ..).1]; exact hlo) fun h' tk acc' c' ext hS' hp => ?_
  exact fin h' tk acc' c' (fun b o n1 n2 n3 e => ext b o n1 n2 n3 (off b o n1 e)) hS' hp
theorem listEnum {lo : Nat} {E : Value → Shared → Prop} {Q : Value → Shared → Prop} {old : Value} (hd : A.handled = none) (qr : q ≠ r) (tq : t ≠ q) (tr : t ≠ r) (hn : xs.size ≤ sizeLine) (he : IsEnum s.heap q r ((0 : Nat) : Int) old) (hr : s.heap.IsTupleIter r t 0) (ht : s.heap.IsTuple t xs) (hlo : lo ≤ s.heap.objs.size)
    (fin : ∀ (h' : Heap) (tk : Nat) (acc' : Array Value) (c' : Nat), (∀ b o, b ≠ q → b ≠ r → s.heap.get? b = some o → h'.get? b = some o) → h'.get? s.heap.objs.size = some { cls := .type "list", dict := none, data := .seq acc' c', slots := #[] } → PairsIn lo h' xs acc' xs.size → Q (.ref s.heap.objs.size) { s with heap := h', toks := tk }) :
    wpAny (model prog w) A (call (.type "list") [.ref q]) Q E s := by
  refine callType_codes (Q₁ := fun b s1 => b = .ref s.heap.objs.size ∧ s1 = { s with heap := s.heap.push { cls := .type "list", data := .seq #[] } }) PySem.F.called_list (PySem.F.typeCall_list_1 _) PySem.F.entry_list_init (code_list_new _ ⟨rfl, rfl⟩) fun b s1 h1 => ?_
  obtain ⟨rfl, rfl⟩ := h1
  have lq : q < s.heap.objs.size := Heap.lt_size he
  have lr : r < s.heap.objs.size := let ⟨_, e, _⟩ := hr; Heap.lt_size e
  have lt : t < s.heap.objs.size := let ⟨_, e, _⟩ := ht; Heap.lt_size e
  have gS : (s.heap.push { cls := .type "list", data := .seq #[] }).get? s.heap.objs.size = some { cls := .type "list", data := .seq #[] } := Heap.get?_push_size _ rfl
  refine ⟨⟨_, gS, rfl⟩, PySem.F.args_list_init_2 _ _, ?_⟩
  refine initEnum (A := A.in1) (s := { s with heap := s.heap.push { cls := .type "list", data := .seq #[] } }) hd qr tq tr (Nat.ne_of_lt lt) (Nat.ne_of_gt lq) (Nat.ne_of_gt lr) hn (Heap.get?_push_of_some _ he) (hr.at fun o e => Heap.get?_push_of_some _ e) (ht.at fun o e => Heap.get?_push_of_some _ e) gS (Nat.le_of_lt (Nat.lt_of_le_of_lt hlo (Heap.lt_size gS))) fun h' tk acc' c' ext hS' hp => ?_
  exact ⟨rfl, fin h' tk acc' c' (fun b o n2 n3 e => ext b o (Nat.ne_of_lt (Heap.lt_size e)) n2 n3 (Heap.get?_push_of_some _ e)) hS' hp⟩
end
/-- a list of new pairs: number, item -/
structure LaidEn (H1 H2 : Hp) (p : Addr) (Ts : List Addr) (xs : List V) : Prop where
  kp : Kp Non H1 H2
  fresh : H1 p = none
  lst : H2 p = some (.lst (Ts.map V.ref))
  len : Ts.length = xs.length
  pair : ∀ (i : Nat) (T : Addr) (x : V), Ts[i]? = some T → xs[i]? = some x → H2 T = some (.tup [.int (i : Nat), x])
def enHp (H1 : Hp) (n0 p : Addr) (Ts : List Addr) (xs : List V) : Hp := fun b =>
  if b < n0 then H1 b else if b = p then some (.lst (Ts.map V.ref)) else
    match (List.range Ts.length).find? (fun i => decide (Ts[i]? = some b)) with
    | some i => some (.tup [.int (i : Nat), xs.getD i .non])
    | none => none
def tLstEn (K : PySem.W.Frag) (ta : TA) : TE := fun σ H Q => ta σ H fun vs H1 => ∃ a xs, vs = [.ref a] ∧ SqT K H1 a xs ∧ ∀ p Ts H2, LaidEn H1 H2 p Ts xs → Q (.ref p) H2
theorem pe_listEnum {X : Cx} {e : Expr} {ta : TA} {p p2 pos pos2 : Pos} (hc : X.calm = true) (hg : Gl X "list") (hm : X.mg "list" = none) (hg2 : Gl X "enumerate") (hm2 : X.mg "enumerate" = none) (ha : PA X [e] ta) (st : starEach [e] X.env = [(false, eval e X.env)] := by rfl)
    (na : starEach [Expr.Call (.Name "enumerate" p2) [e] [] pos2] X.env = (false, eval (Expr.Call (.Name "enumerate" p2) [e] [] pos2) X.env) :: starEach [] X.env := by rfl) :
    PE X (.Call (.Name "list" p) [.Call (.Name "enumerate" p2) [e] [] pos2] [] pos) (tLstEn X.K ta) := by
  refine ⟨fun pins s σ H Q I h => ?_⟩
  refine Call_ (ld_blt I hg hm boot_list (PyProof.Rows.callWith_type1 (args_cons (Call_ (ld_blt I hg2 hm2 boot_enumerate (PyProof.Rows.callWith_type1 (thn (ha.run pos2 pins s σ H _ I h) fun us s1 ⟨vs, H1, I1, r1, q1⟩ => ?_) st rfl))) na) na))
  obtain ⟨a, xs, rfl, hq, q⟩ := q1
  obtain ⟨u, rfl, ru⟩ := vals1 r1
  obtain rfl : u = Value.ref a := ru
  obtain ⟨its, rv, p', hz⟩ := I1.tuple hq
  refine callEnumT p' fun h2 he2 hit hk => args_nil ?_
  have lt : a < s1.heap.objs.size := let ⟨_, e, _⟩ := p'; Heap.lt_size e
  have l2 : s1.heap.objs.size + 1 < h2.objs.size := Heap.lt_size he2
  have rl := rv.length
  refine listEnum (lo := s1.heap.objs.size) (xs := its.toArray) (I1.ok.hd hc) (Nat.succ_ne_self _) (Nat.ne_of_lt (Nat.lt_succ_of_lt lt)) (Nat.ne_of_lt lt) (by rw [List.size_toArray]; omega) he2 hit (let ⟨o, e1, e2⟩ := p'; ⟨o, hk a o e1, e2⟩) (show s1.heap.objs.size ≤ h2.objs.size by omega) fun h3 tk acc c' ext hS hp => ?_
  have keep : ∀ b o, s1.heap.get? b = some o → h3.get? b = some o := fun b o e => ext b o (Nat.ne_of_lt (Nat.lt_succ_of_lt (Heap.lt_size e))) (Nat.ne_of_lt (Heap.lt_size e)) (hk b o e)
  obtain ⟨hsz, hpr⟩ := hp
  rw [List.size_toArray] at hsz hpr
  have hsz2 : acc.size = its.length := by simpa using hsz
  -- the pairs' addresses
  let g : Nat → Addr := fun j => if c : j < its.length then Classical.choose (hpr j c) else 0
  have gs : ∀ j (c : j < its.length), ∃ (tk : Tok) (x : Value), s1.heap.objs.size ≤ g j ∧ acc[j]? = some (.ref (g j)) ∧ its.toArray[j]? = some x ∧ h3.get? (g j) = some { cls := .type "tuple", data := .seq #[.int j tk, x] } := fun j c => by
    have e : g j = Classical.choose (hpr j c) := dif_pos c
    rw [e]
    exact Classical.choose_spec (hpr j c)
  have Tlen : ((List.range its.length).map g).length = its.length := by simp
  have Tat : ∀ i, i < its.length → ((List.range its.length).map g)[i]? = some (g i) := fun i hi => by rw [List.getElem?_map, List.getElem?_range hi]; rfl
  have inj : ∀ i j, i < its.length → j < its.length → g i = g j → i = j := fun i j hi hj e => by
    obtain ⟨t1, x1, _, _, _, e1⟩ := gs i hi
    obtain ⟨t2, x2, _, _, _, e2⟩ := gs j hj
    rw [e, e2] at e1
    injection e1 with e1
    injection e1 with _ _ e1
    injection e1 with e1
    have e1 := congrArg Array.toList e1
    injection e1 with e1
    injection e1 with e1
    omega
  have notP : ∀ i, i < its.length → g i ≠ h2.objs.size := fun i hi z => by
    obtain ⟨t1, x1, _, _, _, e1⟩ := gs i hi
    rw [z, hS] at e1
    injection e1 with e1
    injection e1 with e1
    exact absurd (Value.type.inj e1) (by decide)
  have find : ∀ i, i < its.length → (List.range ((List.range its.length).map g).length).find? (fun k => decide (((List.range its.length).map g)[k]? = some (g i))) = some i := fun i hi => by
    rw [Tlen, List.find?_eq_some_iff_getElem]
    refine ⟨decide_eq_true (Tat i hi), i, by simpa using hi, by simp, fun j hj => ?_⟩
    rw [List.getElem_range]
    have hj2 : j < its.length := Nat.lt_trans hj hi
    rw [Tat j hj2, decide_eq_false (fun z => absurd (inj j i hj2 hi (Option.some.inj z)) (Nat.ne_of_lt hj))]
    rfl
  let H2 : Hp := enHp H1 s1.heap.objs.size h2.objs.size ((List.range its.length).map g) xs
  have old : ∀ b, b < s1.heap.objs.size → H2 b = H1 b := fun b hb => if_pos hb
  have oldS : ∀ b o, H1 b = some o → H2 b = some o := fun b o e => (old b (I1.hok.lt e)).trans e
  have atP : H2 h2.objs.size = some (.lst (((List.range its.length).map g).map V.ref)) := by
    show enHp _ _ _ _ _ _ = _
    unfold enHp
    rw [if_neg (show ¬ h2.objs.size < s1.heap.objs.size by omega), if_pos rfl]
  have atT : ∀ i, i < its.length → H2 (g i) = some (.tup [.int (i : Nat), xs.getD i .non]) := fun i hi => by
    obtain ⟨t1, x1, lo1, _, _, e1⟩ := gs i hi
    show enHp _ _ _ _ _ _ = _
    unfold enHp
    rw [if_neg (Nat.not_lt.mpr lo1), if_neg (notP i hi), find i hi]
  have nw : ∀ b o, H2 b = some o → s1.heap.objs.size ≤ b → ObjOk X.prog X.w H2 h3 b o := fun b o e hb => by
    by_cases c : b = h2.objs.size
    · subst c
      rw [atP] at e
      cases e
      refine ⟨by rw [List.length_map, Tlen]; omega, acc.toList, c', ?_, by rw [Array.toArray_toList]; exact hS⟩
      have ea : acc.toList = ((List.range its.length).map g).map Value.ref := by
        refine List.ext_getElem? fun j => ?_
        rw [List.getElem?_map]
        by_cases hj : j < its.length
        · obtain ⟨t1, x1, _, e2, _, _⟩ := gs j hj
          rw [Array.getElem?_toList, e2, Tat j hj]
          rfl
        · rw [List.getElem?_eq_none (by rw [Array.length_toList, hsz2]; exact Nat.not_lt.mp hj), List.getElem?_eq_none (by rw [Tlen]; exact Nat.not_lt.mp hj)]
          rfl
      rw [ea]
      exact L2.vals_refs _
    · have e : enHp _ _ _ _ _ b = some o := e
      unfold enHp at e
      rw [if_neg (Nat.not_lt.mpr hb), if_neg c] at e
      split at e
      · rename_i i hf
        cases e
        have h1 := List.find?_some hf
        have hi : i < its.length := by
          have := List.mem_of_find?_eq_some hf
          rw [Tlen] at this
          exact List.mem_range.mp this
        have e3 := of_decide_eq_true h1
        rw [Tat i hi] at e3
        obtain rfl := Option.some.inj e3
        obtain ⟨t1, x1, _, _, hx, e1⟩ := gs i hi
        have hi2 : i < xs.length := by omega
        obtain ⟨u, hu, ru⟩ := rv.get (List.getElem?_eq_getElem hi2)
        have : x1 = u := by
          rw [List.getElem?_toArray] at hx
          exact Option.some.inj (hx.symm.trans hu)
        subst this
        refine ⟨?_, [.int i t1, x1], .cons ⟨_, rfl⟩ (.cons ?_ .nil), _, e1, rfl, _, rfl⟩
        · show 2 ≤ sizeLine
          decide
        · rw [List.getD_eq_getElem?_getD, List.getElem?_eq_getElem hi2]
          exact ru
      · cases e
  have hok2 : HOk X.prog X.w H2 h3 := fun b o e => by
    by_cases c : b < s1.heap.objs.size
    · rw [old b c] at e
      exact (I1.hok b o e).stay (fun b u _ q => keep b u q) (fun c q => oldS c _ q) fun c xs q => oldS c _ q
    · exact nw b o e (Nat.not_lt.mp c)
  have I2 : Inv X pins σ H2 { s1 with heap := h3, toks := tk } := I1.un (t' := tk) ⟨fun b o e _ _ _ => keep b o e, fun b o e _ _ _ => ⟨o.slots, keep b o e⟩, fun b o e n _ => by rw [old b (Heap.lt_size e)]; exact n, fun b o e _ => ⟨o, keep b o e⟩, fun b xs e => oldS b _ e, fun b o u e => oldS b _ e, fun b ps e => ⟨#[], by rw [oldS b _ e]; simp⟩⟩ hok2
  refine ⟨.ref h2.objs.size, H2, I2, rfl, q _ _ _ ⟨⟨fun b o _ e => oldS b o e, fun b xs e => oldS b _ e, fun b o u e => oldS b _ e, fun b e => ?_⟩, I1.hok.fresh (by omega), atP, by rw [Tlen]; omega, fun i T x e1 e2 => ?_⟩⟩
  · by_cases c : b < s1.heap.objs.size
    · rw [← old b c]; exact e
    · exact I1.hok.fresh (Nat.not_lt.mp c)
  · have hi : i < its.length := by have := (List.getElem?_eq_some_iff.mp e2).1; omega
    rw [Tat i hi] at e1
    obtain rfl := Option.some.inj e1
    rw [atT i hi, List.getD_eq_getElem?_getD, e2]
    rfl
end Hw
/-! t[::-1] of a tuple: a new tuple, turned about. -/
namespace Hw
open PySem PySem.Spec PyProof.Rows L2
section
variable {prog : Program} {w : World} {A : Around} {E : Value → Shared → Prop} {s : Shared}
theorem backAdjust (n : Nat) : Builtin.Slice.sliceAdjust none none (-1) (n : Int) = ((n : Int) - 1, -1) := by
  simp [Builtin.Slice.sliceAdjust]
theorem backPlaces (n : Nat) : Builtin.Slice.slicePlaces ((n : Int) - 1) (-1) (-1) = n := by
  unfold Builtin.Slice.slicePlaces
  by_cases h : n = 0
  · subst h; decide
  · have h1 : (n : Int) - 1 > -1 := by omega
    have h2 : ¬ ((-1 : Int) > 0) := by omega
    rw [if_neg h2, if_pos h1, show (- -1 : Int) = 1 by decide, Int.ediv_one]
    omega
theorem backApplied {sl : Addr} {vs : Value} {n : Nat} {Q : Int × Int × Nat → Shared → Prop} (hs : s.heap.IsSliceOf sl .none .none vs) (ps : IsPart vs (some (-1)))
    (h : Q ((n : Int) - 1, -1, n) s) : wpAny (model prog w) A (Builtin.Slice.sliceApplied (.ref sl) (pure (n : Int))) Q E s := by
  obtain ⟨ob, g, c, dd⟩ := id hs
  unfold Builtin.Slice.sliceApplied
  apply wpAny_bind
  unfold Builtin.Slice.sliceFields
  apply wpAny_bind
  refine wpAny_field g dd (x := .none) rfl (wpAny_bind ?_)
  refine wpAny_field g dd (x := .none) rfl (wpAny_bind ?_)
  refine wpAny_field g dd (x := vs) rfl (wpAny_pure ?_)
  apply wpAny_bind
  refine HT.slicePart_ ps ?_
  show wpAny _ _ (if ((-1 : Int) == 0) = true then _ else _) _ _ s
  rw [if_neg (by decide)]
  apply wpAny_bind
  refine HT.slicePart_ .none (wpAny_bind ?_)
  refine HT.slicePart_ .none (wpAny_bind (wpAny_pure ?_))
  show wpAny _ _ (match Builtin.Slice.sliceAdjust none none (-1) (n : Int) with | (lo, hi) => pure (lo, (-1 : Int), Builtin.Slice.slicePlaces lo hi (-1))) _ _ s
  rw [backAdjust]
  show wpAny _ _ (pure ((n : Int) - 1, (-1 : Int), Builtin.Slice.slicePlaces ((n : Int) - 1) (-1) (-1))) _ _ s
  rw [backPlaces]
  exact wpAny_pure h
theorem filterMapCongr {α β : Type} {f g : α → Option β} : ∀ {l : List α}, (∀ x ∈ l, f x = g x) → l.filterMap f = l.filterMap g
  | [], _ => rfl
  | x :: r, h => by
    rw [List.filterMap_cons, List.filterMap_cons, h x List.mem_cons_self, filterMapCongr fun y hy => h y (List.mem_cons_of_mem _ hy)]
theorem backPick (xs : Array Value) : ((List.range xs.size).filterMap fun (m : Nat) => xs[(((xs.size : Int) - 1) + (m : Int) * (-1)).toNat]?).toArray = xs.toList.reverse.toArray := by
  have e : ∀ m ∈ List.range xs.size, xs[(((xs.size : Int) - 1) + (m : Int) * (-1)).toNat]? = (fun k => xs[k]?) (xs.size - 1 - m) := by
    intro m hm
    have := List.mem_range.mp hm
    have z : (((xs.size : Int) - 1) + (m : Int) * (-1)).toNat = xs.size - 1 - m := by omega
    rw [z]
  congr 1
  have e2 : (List.range xs.size).filterMap (fun (m : Nat) => xs[(((xs.size : Int) - 1) + (m : Int) * (-1)).toNat]?) = ((List.range xs.size).map fun m => xs.size - 1 - m).filterMap fun k => xs[k]? := by
    rw [List.filterMap_map]
    exact filterMapCongr e
  rw [e2, PySem.W.krv_range, List.filterMap_reverse, PySem.W.krv_all]
theorem backTuple {t sl : Addr} {items : Array Value} {vs : Value} {Q : Value → Shared → Prop} (ht : IsTup s.heap t items) (hs : s.heap.IsSliceOf sl .none .none vs) (ps : IsPart vs (some (-1)))
    (h : Q (.ref s.heap.objs.size) { s with heap := s.heap.push { cls := .type "tuple", data := .seq items.toList.reverse.toArray } }) (hz : items.size ≤ sizeLine) :
    wpAny (model prog w) A (getItem (.ref t) (.ref sl)) Q E s := by
  have room : sizeOk (.seq items.toList.reverse.toArray) := by
    show items.toList.reverse.toArray.size ≤ sizeLine
    rw [List.size_toArray, List.length_reverse, Array.length_toList]
    exact hz
  have isSl : s.TypeIs (.ref sl) "slice" := by
    obtain ⟨ob, g, c, _⟩ := id hs
    exact ⟨ob, g, c⟩
  unfold getItem
  first | with_reducible refine wpAny_holding ?_ | skip
  first
    | refine wpAny_bind
        (wpAny_pure ?_)
    | skip
  refine wpAny_bind
    (wpAny_sequenceKey ht.typeIs (by decide) (wpAny_bind ?_))
  have sl2 := PyProof.Rows.slot_tuple_getitem
  refine wpAny_callSpecial?_slot (name := Str.ofString "__getitem__") ht.typeIs sl2 ?_
  refine wpAny_call_entry sl2 ht.typeIs entry_tuple_getitem ?_ (args_tuple_getitem _ _)
  show wpAny _ _ (Builtin.Tuple.tupleItemsOf (.ref t) >>= _) _ _ _
  apply wpAny_bind
  refine tupleItemsOf_ ht (wpAny_bind ?_)
  refine wpAny_typeOf isSl ?_
  rw [if_pos (by decide)]
  apply wpAny_bind
  refine backApplied hs ps ?_
  have ne : ¬ (((items.size : Int) - 1 == 0 && (-1 : Int) == 1 && items.size == items.size) = true) := by simp
  show wpAny _ _ (if ((items.size : Int) - 1 == 0 && (-1 : Int) == 1 && items.size == items.size) = true then _ else _) _ _ s
  rw [if_neg ne, backPick]
  exact wpAny_bind (m := Builtin.Tuple.tupleExact _)
    (wpAny_newObj_type (wpAny_pure ⟨_, rfl, wpAny_pure h⟩) room)
end
section
variable {X : Cx}
def tRevT (K : PySem.W.Frag) (te : TE) : TE := fun σ H Q => te σ H fun x H1 => ∃ a xs, x = .ref a ∧ SqT K H1 a xs ∧ ∀ p H', Kp Non H1 H' → SqT K H' p xs.reverse → Q (.ref p) H'
theorem pe_revTG {e : Expr} {te : TE} {k : Nat} {p1 p2 p3 pos : Pos} (he : PE X e te) : PE X (.Subscript e (.Slice none none (some (.UnaryOp .USub (.Constant (.int 1) k p1) p2)) p3) pos) (tRevT X.K te) := by
  constructor
  intro pins s σ H Q I h
  apply Subscript_
  refine thn (he.run pins s σ H _ I h) ?_
  rintro v s1 ⟨x, H1, I1, r1, a, xs, rfl, hx, q⟩
  have r1 : v = Value.ref a := r1
  subst r1
  have one : PO X (some (.UnaryOp .USub (.Constant (.int 1) k p1) p2)) (tPart (tUn (rU fun i => .int (-i)) (tC (.int 1)))) := po_some (pe_un un_neg pe_int)
  apply wpAny_Slice
  refine thn (po_none.run pins s1 σ H1 (fun o H2 => o = none ∧ H2 = H1) I1 ⟨rfl, rfl⟩) ?_
  rintro vl s2 ⟨_, _, I2, pl, rfl, rfl⟩
  refine thn (po_none.run pins s2 σ _ (fun o H3 => o = none ∧ H3 = _) I2 ⟨rfl, rfl⟩) ?_
  rintro vu s3 ⟨_, _, I3, pu, rfl, rfl⟩
  refine thn (one.run pins s3 σ _ (fun o H4 => o = some (-1) ∧ H4 = _) I3 ⟨1, rfl, -1, rfl, rfl, rfl⟩) ?_
  rintro vs s4 ⟨_, _, I4, ps, rfl, rfl⟩
  have nl : vl = Value.none := by cases pl; rfl
  have nu : vu = Value.none := by cases pu; rfl
  subst nl nu
  have I5 := I4.kept (h' := s4.heap.push { cls := .type "slice", data := .fields #[Value.none, Value.none, vs] }) (t' := s4.toks) fun b ob q => Heap.get?_push_of_some _ q
  obtain ⟨its, r, ht, hz⟩ := I5.tuple hx
  refine tail_any (ops := [.ref a, .ref s4.heap.objs.size]) ht.typeIs PyProof.Rows.slot_tuple_getitem.lookup ?_ (by with_unfolding_all rfl)
  refine backTuple ht (Heap.IsSliceOf.new _ Value.none Value.none vs) ps ?_ (by rw [List.size_toArray, ← r.length]; exact hz)
  have fr := I5.hok.fresh (Nat.le_refl _)
  refine ⟨.ref _, _, I5.laid (t' := s4.toks) (o := .tup xs.reverse) (fun b ob q => Heap.get?_push_of_some _ q) (Nat.le_refl _) ?_, rfl, q _ _ (Kp.new fr) (.of upd_same)⟩
  refine ⟨by rw [List.length_reverse]; exact hz, its.reverse, r.reverse, ⟨_, Heap.get?_push_size _ rfl, rfl, ?_⟩⟩
  exact ⟨_, rfl⟩
end
section
variable {σ : L2.St} {H : Hp} {Q : VK} {K : PySem.W.Frag} {te : TE}
theorem sRevT (h : te σ H fun x H1 => ∃ a xs, x = .ref a ∧ SqT K H1 a xs ∧ ∀ p H', Kp Non H1 H' → SqT K H' p xs.reverse → Q (.ref p) H') : tRevT K te σ H Q := h
end
end Hw
/-! t * k of tuples, k from nought. -/
namespace Hw
open PySem PySem.Spec PyProof.Rows L2
section
variable {a : Addr} {its : Array Value} {n : Nat} {dd : Option Addr} {sl : Array (Option Value)} {u : Tok}
theorem mulOne : Meets (Builtin.«tuple.__mul__» ⟨[.ref a, .int 1 u], []⟩) fun _ R s =>
    s.heap.get? a = some { cls := .type "tuple", dict := dd, data := .seq its n, slots := sl } ∧ R (.ok (.ret (Value.ref a))) s := .of_wp fun prog w A R s h => by
  obtain ⟨hp, g, d, tk, os⟩ := s
  obtain ⟨hl, h⟩ := h
  have idx := AutoSeq1.idx_int
  have e1 : (its.isEmpty || (1 : Int) == 1) = true := Bool.or_true _
  wp_walk using wpAny_loadPart' hl
  repeat (first
    | (refine wpAny_ite_true (decide_eq_true (by rw [e1])) ?_; wp_walk using wpAny_loadPart' hl)
    | (refine wpAny_ite_false (decide_eq_false (by decide)) ?_; wp_walk using wpAny_loadPart' hl))
  exact ⟨_, rfl, h⟩
theorem mulNought (e1 : its.isEmpty = false) : Meets (Builtin.«tuple.__mul__» ⟨[.ref a, .int 0 u], []⟩) fun _ R s =>
    s.heap.get? a = some { cls := .type "tuple", dict := dd, data := .seq its n, slots := sl } ∧ R (.ok (.ret (Value.ref s.heap.objs.size))) { s with heap := s.heap.push { cls := Value.type "tuple", data := Data.seq #[] }, toks := s.toks } := .of_wp fun prog w A R s h => by
  obtain ⟨hp, g, d, tk, os⟩ := s
  obtain ⟨hl, h⟩ := h
  have idx := AutoSeq1.idx_int
  wp_walk using wpAny_loadPart' hl
  exact ⟨_, rfl, h⟩
end
/-- t * k -/
def rRepTG (K : PySem.W.Frag) : R2 := fun x y H Q => ∃ t k xs, x = .ref t ∧ y = .int k ∧ SqT K H t xs ∧ xs ≠ [] ∧ 0 ≤ k ∧ k ≤ 1000 ∧ xs.length ≤ 1000 ∧
  ∀ p H', Kp Non H H' → SqT K H' p (List.replicate k.toNat xs).flatten → Q (.ref p) H'
section
variable {X : Cx}
theorem op_repTG : OpR X (binaryOp .Mult) (rRepTG X.K) := by
  intro pins s σ H x y v u Q I rx ry h
  obtain ⟨l, k, xs, ex, ey, hT, hne, k0, k1, hz, q⟩ := h
  by_cases k2 : 2 ≤ k
  · exact op_repT pins s σ H x y v u Q I rx ry ⟨l, k, xs, ex, ey, hT, hne, k2, k1, hz, fun p n => q p _ (Kp.new n) (.of upd_same)⟩
  subst ex ey
  cases rx
  obtain ⟨t, rfl⟩ := ry
  have hT0 := hT
  obtain ⟨its, r, ⟨⟨cls, dd, data, sl⟩, ho, hc, n, hd⟩, hs⟩ := I.tuple hT
  simp only at hc hd
  subst hc hd
  have hi : its.toArray.isEmpty = false := by
    cases its with
    | nil => exact absurd (List.eq_nil_of_length_eq_zero r.length) hne
    | cons a b => rfl
  have ht := typeIs_int s k t
  have tp : ∀ {R : Value → Shared → Prop}, wpAny (model X.prog X.w) X.A (call (.builtin "tuple.__mul__") [.ref l, .int k t]) R X.xe s → wpAny (model X.prog X.w) X.A (binaryOp .Mult (.ref l) (.int k t)) R X.xe s := fun {R} z =>
    wpAny_binaryOp_repeat_ref (T := "tuple") (U := "int") (by decide)
      ⟨_, ho, rfl⟩ (fun s' => typeIs_int s' k t) noFill_tuple_mul
      F.fills_int_mul F.slot_int_rmul repeat_tuple F.slot_int_index.lookup
      (call_meets F.slot_int_rmul ht F.entry_int_rmul (F.args_int_rmul_2 _ _)
        (int_rmul_tuple k t l its.toArray n dd sl) ⟨ho, rfl, ⟨_, ho, rfl⟩, z⟩)
  refine tp ?_
  by_cases e1 : k = 1
  · subst e1
    refine call_meets F.slot_tuple_mul ⟨_, ho, rfl⟩ F.entry_tuple_mul
      (F.args_tuple_mul_2 _ _) (mulOne (n := n) (dd := dd) (sl := sl)) ⟨ho, ?_⟩
    refine ⟨.ref l, H, I, rfl, q l H Kp.refl ?_⟩
    have : (List.replicate (1 : Int).toNat xs).flatten = xs := by simp
    rw [this]
    exact hT0
  · have e0 : k = 0 := by omega
    subst e0
    refine call_meets F.slot_tuple_mul ⟨_, ho, rfl⟩ F.entry_tuple_mul
      (F.args_tuple_mul_2 _ _) (mulNought hi (n := n) (dd := dd) (sl := sl)) ⟨ho, ?_⟩
    refine ⟨.ref s.heap.objs.size, _, I.laid (t' := s.toks) (o := .tup []) (fun b ob q => Heap.get?_push_of_some _ q) (Nat.le_refl _) ?_, rfl, ?_⟩
    · exact ⟨Nat.zero_le _, _, .nil, IsTup.new _ _⟩
    · exact q _ _ (Kp.new (I.hok.fresh (Nat.le_refl _))) (.of upd_same)
end
end Hw
/-! Dicts with written text keys, as records; dicts with whole numbers as keys, as maps. -/
namespace Hw
open PySem PySem.Spec PyProof.Rows L2
def recK : List Str → List V → List (Key × V)
  | k :: ks, v :: vs => (Sum.inr k, v) :: recK ks vs
  | _, _ => []
section
variable {k : Str} {v : V}
theorem recNo : ∀ {ks : List Str} {vs : List V}, k ∉ ks → ∀ p ∈ recK ks vs, p.1 ≠ Sum.inr k
  | [], _, _, p, h => by cases h
  | _ :: _, [], _, p, h => by cases h
  | k' :: ks, v' :: vs, n, p, h => by
    rcases List.mem_cons.mp h with rfl | h
    · intro e
      exact n (by rw [show k' = k from Sum.inr.inj e]; exact List.mem_cons_self)
    · exact recNo (fun z => n (List.mem_cons_of_mem _ z)) p h
theorem recGet : ∀ {ks : List Str} {vs : List V} {i : Nat}, ks.Nodup → ks[i]? = some k → vs[i]? = some v → valV (recK ks vs) (Sum.inr k) = some v
  | [], _, i, _, h, _ => by simp at h
  | _ :: _, [], i, _, _, h => by simp at h
  | k' :: ks, v' :: vs, 0, nd, h1, h2 => by
    simp at h1 h2
    subst h1 h2
    exact valV_pos rfl
  | k' :: ks, v' :: vs, i + 1, nd, h1, h2 => by
    obtain ⟨n1, n2⟩ := List.nodup_cons.mp nd
    have h1 : ks[i]? = some k := by simpa using h1
    have h2 : vs[i]? = some v := by simpa using h2
    show valV ((Sum.inr k', v') :: recK ks vs) _ = _
    rw [valV_neg (fun e => n1 (by rw [show k' = k from Sum.inr.inj e]; exact List.mem_of_getElem? h1))]
    exact recGet n2 h1 h2
theorem mapNo {kvs : List (Key × V)} {k : Key} {y : V} (h : ∀ p ∈ kvs, p.1 ≠ k) : kvs.map (fun kv => if kv.1 = k then (kv.1, y) else kv) = kvs := by
  induction kvs with
  | nil => rfl
  | cons p r ih =>
    rw [List.map_cons, if_neg (h p List.mem_cons_self), ih fun q hq => h q (List.mem_cons_of_mem _ hq)]
theorem recMap {y : V} : ∀ {ks : List Str} {vs : List V} {i : Nat}, ks.Nodup → ks[i]? = some k → (recK ks vs).map (fun kv => if kv.1 = Sum.inr k then (kv.1, y) else kv) = recK ks (vs.set i y)
  | [], _, i, _, h => by simp at h
  | _ :: _, [], i, _, _ => by cases i <;> rfl
  | k' :: ks, v' :: vs, 0, nd, h1 => by
    simp at h1
    subst h1
    obtain ⟨n1, n2⟩ := List.nodup_cons.mp nd
    show (if (Sum.inr k' : Key) = Sum.inr k' then (Sum.inr k', y) else (Sum.inr k', v')) :: (recK ks vs).map _ = (Sum.inr k', y) :: recK ks vs
    rw [if_pos rfl, mapNo (recNo n1)]
  | k' :: ks, v' :: vs, i + 1, nd, h1 => by
    obtain ⟨n1, n2⟩ := List.nodup_cons.mp nd
    have h1 : ks[i]? = some k := by simpa using h1
    have ne : ¬ (Sum.inr k' : Key) = Sum.inr k := fun e => n1 (by rw [show k' = k from Sum.inr.inj e]; exact List.mem_of_getElem? h1)
    show (if (Sum.inr k' : Key) = Sum.inr k then (Sum.inr k', y) else (Sum.inr k', v')) :: (recK ks vs).map _ = (Sum.inr k', v') :: recK ks (vs.set i y)
    rw [if_neg ne, recMap n2 h1]
theorem anyOf {kvs : List (Key × V)} {k : Key} {v : V} (h : valV kvs k = some v) : (kvs.any fun kv => decide (kv.1 = k)) = true := by
  rw [valV_any, h]; rfl
theorem recPut {ks : List Str} {vs : List V} {i : Nat} {x y : V} (nd : ks.Nodup) (h1 : ks[i]? = some k) (h2 : vs[i]? = some x) : putK (recK ks vs) (Sum.inr k) y = recK ks (vs.set i y) := by
  unfold putK
  rw [if_pos (anyOf (recGet nd h1 h2)), recMap nd h1]
theorem recLen : ∀ (ks : List Str) (vs : List V), (recK ks vs).length ≤ ks.length
  | [], _ => Nat.le_refl _
  | _ :: _, [] => Nat.zero_le _
  | _ :: ks, _ :: vs => Nat.succ_le_succ (recLen ks vs)
theorem mergeNew : ∀ {more kvs : List (Key × V)}, (kvs ++ more).map (·.1) |>.Nodup → mergeK kvs more = kvs ++ more
  | [], kvs, _ => (List.append_nil kvs).symm
  | p :: r, kvs, h => by
    have no : valV kvs p.1 = none := by
      cases e : valV kvs p.1 with
      | none => rfl
      | some v =>
        have hm := anyOf e
        obtain ⟨q, hq, e2⟩ := List.any_eq_true.mp hm
        have e2 := of_decide_eq_true e2
        rw [List.map_append, List.map_cons] at h
        exact absurd (List.nodup_append.mp h).2.2 (fun z => z q.1 (List.mem_map.mpr ⟨q, hq, rfl⟩) p.1 List.mem_cons_self e2)
    show mergeK (putK kvs p.1 p.2) r = _
    rw [putK_new _ no, mergeNew (by simpa using h)]
    simp
theorem recKeys : ∀ {ks : List Str} {vs : List V}, ks.length = vs.length → (recK ks vs).map (·.1) = ks.map Sum.inr
  | [], _, _ => rfl
  | _ :: _, [], h => by simp at h
  | k :: ks, v :: vs, h => by
    show _ :: (recK ks vs).map (·.1) = _
    rw [recKeys (by simpa using h)]
    rfl
theorem recMerge {ks : List Str} {vs : List V} (nd : ks.Nodup) (h : ks.length = vs.length) : mergeK [] (recK ks vs) = recK ks vs := by
  refine (mergeNew ?_).trans (List.nil_append _)
  rw [List.nil_append, recKeys h]
  exact List.pairwise_map.mpr (nd.imp fun e z => e (Sum.inr.inj z))
theorem recSplit : ∀ {ks : List Str} {vs : List V}, (recK ks vs).map (fun kv => (kV kv.1, kv.2)) = (ks.zip vs).map fun p => (V.str p.1, p.2)
  | [], _ => rfl
  | _ :: _, [] => rfl
  | k :: ks, v :: vs => by
    show _ :: (recK ks vs).map _ = _ :: (ks.zip vs).map _
    rw [recSplit]
    rfl
end
section
variable {H : Hp} {a : Addr} {ks : List Str} {vs : List V} {i : Nat} {k : Str} {x y : V} {Q : V → Prop} {R : Hp → Prop}
theorem sRGet (h : H a = some (.dK (recK ks vs))) (nd : ks.Nodup) (h1 : ks[i]? = some k) (h2 : vs[i]? = some x) (q : Q x) : ∃ a' v, V.ref a = .ref a' ∧ DGet H a' (.str k) (some v) ∧ Q v :=
  ⟨a, x, rfl, by rw [← recGet nd h1 h2]; exact DGet.k (k := Sum.inr k) h, q⟩
theorem sRPut (h : H a = some (.dK (recK ks vs))) (nd : ks.Nodup) (h1 : ks[i]? = some k) (h2 : vs[i]? = some x) (hl : ks.length ≤ 100) (q : ∀ H', Kp (At a) H H' → H' a = some (.dK (recK ks (vs.set i y))) → R H') :
    ∃ a' H4, V.ref a = .ref a' ∧ DPut H a' (.str k) y H4 ∧ R H4 :=
  ⟨a, _, rfl, DPut.k (k := Sum.inr k) h (small1000 (Nat.le_trans (recLen ks vs) (Nat.le_trans hl (by decide)))), by
    rw [recPut nd h1 h2]
    exact q _ (Kp.put h (fun _ z => nomatch z) (fun _ _ z => nomatch z)) upd_same⟩
end
/-! maps from whole numbers -/
/-- the dict at a has f i at each i below n; at most m entries -/
def Mp (H : Hp) (a : Addr) (n m : Nat) (f : Nat → V) : Prop := ∃ kvs, H a = some (.dK kvs) ∧ kvs.length ≤ m ∧ ∀ i < n, valV kvs (Sum.inl (i : Int)) = some (f i)
section
variable {H H' : Hp} {a : Addr} {n m i : Nat} {f : Nat → V} {y : V} {S : Addr → Prop} {Q : V → Prop} {R : Hp → Prop}
theorem Mp.kp (h : Mp H a n m f) (k : Kp S H H') (ns : ¬ S a) : Mp H' a n m f := by
  obtain ⟨kvs, e, r⟩ := h
  exact ⟨kvs, k.same _ _ ns e, r⟩
theorem Mp.get (h : Mp H a n m f) (hi : i < n) (q : Q (f i)) : ∃ a' v, V.ref a = .ref a' ∧ DGet H a' (.int i) (some v) ∧ Q v := by
  obtain ⟨kvs, e, _, g⟩ := h
  exact ⟨a, f i, rfl, by rw [← g i hi]; exact DGet.k (k := Sum.inl (i : Int)) e, q⟩
theorem lenIn {kvs : List (Key × V)} {k : Key} {v : V} (h : valV kvs k = some v) : (putK kvs k y).length = kvs.length := by
  unfold putK
  rw [if_pos (anyOf h), List.length_map]
theorem valPut (kvs : List (Key × V)) (i j : Nat) : valV (putK kvs (Sum.inl (i : Int)) y) (Sum.inl (j : Int)) = if j = i then some y else valV kvs (Sum.inl (j : Int)) := by
  rw [valV_put]
  by_cases e : j = i
  · subst e; rw [if_pos rfl, if_pos rfl]
  · rw [if_neg e, if_neg (fun z => e (by have := Sum.inl.inj z; omega))]
/-- another value -/
theorem Mp.put (h : Mp H a n m f) (hi : i < n) (hm : m ≤ 1000) (q : ∀ H', Kp (At a) H H' → Mp H' a n m (fun j => if j = i then y else f j) → R H') : ∃ a' H4, V.ref a = .ref a' ∧ DPut H a' (.int i) y H4 ∧ R H4 := by
  obtain ⟨kvs, e, l, g⟩ := h
  refine ⟨a, _, rfl, DPut.k (k := Sum.inl (i : Int)) e (small1000 (by omega)), q _ (Kp.put e (fun _ z => nomatch z) (fun _ _ z => nomatch z)) ⟨_, upd_same, by rw [lenIn (g i hi)]; exact l, fun j hj => ?_⟩⟩
  rw [valPut]
  dsimp only
  by_cases e : j = i
  · rw [if_pos e, if_pos e]
  · rw [if_neg e, if_neg e]; exact g j hj
/-- the next one -/
theorem Mp.add (h : Mp H a n m f) (hm : m < 1000) (q : ∀ H', Kp (At a) H H' → Mp H' a (n + 1) (m + 1) (fun j => if j = n then y else f j) → R H') : ∃ a' H4, V.ref a = .ref a' ∧ DPut H a' (.int n) y H4 ∧ R H4 := by
  obtain ⟨kvs, e, l, g⟩ := h
  refine ⟨a, _, rfl, DPut.k (k := Sum.inl (n : Int)) e (small1000 (by omega)), q _ (Kp.put e (fun _ z => nomatch z) (fun _ _ z => nomatch z)) ⟨_, upd_same, by have := length_putK kvs (Sum.inl (n : Int)) y; omega, fun j hj => ?_⟩⟩
  rw [valPut]
  dsimp only
  by_cases e : j = n
  · rw [if_pos e, if_pos e]
  · rw [if_neg e, if_neg e]; exact g j (by omega)
theorem Mp.ext {g : Nat → V} (h : Mp H a n m f) (e : ∀ i < n, f i = g i) : Mp H a n m g := by
  obtain ⟨kvs, e1, l, v⟩ := h
  exact ⟨kvs, e1, l, fun i hi => (v i hi).trans (by rw [e i hi])⟩
theorem Mp.new (e : H a = some (.dK [])) : Mp H a 0 0 f := ⟨[], e, Nat.le_refl _, fun i hi => absurd hi (Nat.not_lt_zero _)⟩
theorem Mp.there (h : Mp H a n m f) : ∃ kvs, H a = some (.dK kvs) := let ⟨k, e, _⟩ := h; ⟨k, e⟩
end
section
variable {σ : L2.St} {H : Hp} {td tv : TE} {r : List (TE × TE)} {Q : List (V × V) → Hp → Prop}
theorem sPairC (h : td σ H fun x H1 => tv σ H1 fun y H2 => tPairs r σ H2 fun ps H3 => Q ((x, y) :: ps) H3) : tPairs ((td, tv) :: r) σ H Q := h
theorem sPairN (h : Q [] H) : tPairs [] σ H Q := h
/-- a display with written text keys -/
theorem sDisp {trs : List (TE × TE)} {Q : VK} (h : ∀ p H1, H p = none → Kp Non H H1 → H1 p = some (.dK []) → tPairs trs σ H1 fun ps H2 => H2 p = some (.dK []) ∧ ∃ kvs : List (Key × V), ps = kvs.map (fun kv => (kV kv.1, kv.2)) ∧ kvs.length ≤ 15 ∧ Q (.ref p) (upd H2 p (.dK (mergeK [] kvs)))) :
    tDisp trs σ H Q := fun p np => h p _ np (Kp.new np) upd_same
theorem dispEnd {ps : List (V × V)} {H2 : Hp} {p : Addr} {Q : List (Key × V) → Prop} (ks : List Str) (vs : List V) (e : ps = (ks.zip vs).map (fun p => (V.str p.1, p.2))) (nd : ks.Nodup) (h15 : ks.length ≤ 15) (l : ks.length = vs.length) (z2 : H2 p = some (.dK []))
    (q : mergeK [] (recK ks vs) = recK ks vs → Q (recK ks vs)) :
    H2 p = some (.dK []) ∧ ∃ kvs : List (Key × V), ps = kvs.map (fun kv => (kV kv.1, kv.2)) ∧ kvs.length ≤ 15 ∧ Q kvs :=
  ⟨z2, recK ks vs, by rw [e, recSplit], Nat.le_trans (recLen ks vs) h15, q (recMerge nd l)⟩
theorem dispKp {H2 : Hp} {p : Addr} {kvs : List (Key × V)} (np : H p = none) (z2 : H2 p = some (.dK [])) (k : Kp Non H H2) :
    Kp Non H (upd H2 p (.dK kvs)) ∧ Kp (At p) H2 (upd H2 p (.dK kvs)) ∧ upd H2 p (.dK kvs) p = some (.dK kvs) := by
  have kp : Kp (At p) H2 (upd H2 p (.dK kvs)) := Kp.put z2 (fun _ z => nomatch z) (fun _ _ z => nomatch z)
  exact ⟨Kp.drop (p := p) ((k.wide fun b z => z.elim).trans (kp.wide fun b z => .inl z)) np, kp, upd_same⟩
theorem sDNew {Q : VK} (h : ∀ p H', Kp Non H H' → H p = none → H' p = some (.dK []) → Q (.ref p) H') : tDNewK σ H Q := fun p np => h p _ (Kp.new np) np upd_same
end
end Hw
/-! Values in the place of the heap: what a def computes as a function of data. Data, modes, what holds them. -/
namespace Vl
open PySem PySem.Spec PyProof.Rows L2 Hw

/-- an exception that leaves: its class's name, its fields -/
structure Exc where
  cls : Str
  fs : List (Str × PyData)
/-- what a computation comes to: a value, an exception, or what is not looked at here -/
inductive R (α : Type) where
  | ok (a : α)
  | exc (e : Exc)
  | stuck
namespace R
variable {α β γ : Type}
def bind : R α → (α → R β) → R β
  | .ok a, f => f a
  | .exc e, _ => .exc e
  | .stuck, _ => .stuck
@[simp] theorem bind_ok (a : α) (f : α → R β) : (R.ok a).bind f = f a := rfl
@[simp] theorem bind_exc (e : Exc) (f : α → R β) : (R.exc e : R α).bind f = .exc e := rfl
@[simp] theorem bind_stuck (f : α → R β) : (R.stuck : R α).bind f = .stuck := rfl
theorem bind_assoc (m : R α) (f : α → R β) (g : β → R γ) : (m.bind f).bind g = m.bind fun a => (f a).bind g := by cases m <;> rfl
/-- it goes on -/
def Runs (o : R α) : Prop := o ≠ .stuck
end R

/-! ### sizes -/
mutual
def szD : PyData → Prop
  | .str s => s.length ≤ sizeLine
  | .tuple ds => ds.length ≤ sizeLine ∧ szAll ds
  | .list ds => ds.length ≤ sizeLine ∧ szAll ds
  | .dict kvs => kvs.length ≤ sizeLine ∧ szKv kvs
  | _ => True
def szAll : List PyData → Prop
  | [] => True
  | d :: ds => szD d ∧ szAll ds
def szKv : List (PyData × PyData) → Prop
  | [] => True
  | p :: ds => szD p.1 ∧ szD p.2 ∧ szKv ds
end
theorem szAll_iff : ∀ {ds : List PyData}, szAll ds ↔ ∀ d ∈ ds, szD d
  | [] => by simp [szAll]
  | d :: ds => by rw [szAll, szAll_iff]; simp
/-! ### data without lists -/
mutual
def immD : PyData → Bool
  | .tuple ds => immAll ds
  | .list _ => false
  | .dict _ => false
  | _ => true
def immAll : List PyData → Bool
  | [] => true
  | d :: ds => immD d && immAll ds
end
theorem immAll_iff : ∀ {ds : List PyData}, immAll ds = true ↔ ∀ d ∈ ds, immD d = true
  | [] => by simp [immAll]
  | d :: ds => by rw [immAll, Bool.and_eq_true, immAll_iff]; simp

/-! ### what holds data -/
section
variable (K : PySem.W.Frag) (H : Hp)
mutual
/-- a tree of lists of one's own: F are its lists' addresses -/
inductive Own : V → PyData → List Addr → Prop
  | leaf {v : V} {d : PyData} : TD K H v d → Own v d []
  | lst {a : Addr} {xs : List V} {ds : List PyData} {F : List Addr} : H a = some (.lst xs) → Owns xs ds F → a ∉ F → Own (.ref a) (.list ds) (a :: F)
  | tup {a : Addr} {xs : List V} {ds : List PyData} {F : List Addr} : SqT K H a xs → Owns xs ds F → Own (.ref a) (.tuple ds) F
inductive Owns : List V → List PyData → List Addr → Prop
  | nil : Owns [] [] []
  | cons {v : V} {vs : List V} {d : PyData} {ds : List PyData} {F G : List Addr} : Own v d F → Owns vs ds G → (∀ a ∈ F, a ∉ G) → Owns (v :: vs) (d :: ds) (F ++ G)
end
/-- a list of the written part -/
def SqK (a : Addr) (xs : List V) : Prop := ∃ (o : Obj) (its : Array Value) (n : Nat), K.lookup a = some o ∧ o.cls = .type "list" ∧ o.dict = none ∧ o.data = .seq its n ∧ its.size ≤ sizeLine ∧ Vals xs its.toList
mutual
/-- data whose lists stand within Sh, or are written -/
inductive Shd (Sh : Addr → Prop) : V → PyData → Prop
  | leaf {v : V} {d : PyData} : TD K H v d → Shd Sh v d
  | lst {a : Addr} {xs : List V} {ds : List PyData} : SqL K H a xs → (Sh a ∨ SqK K a xs) → Shds Sh xs ds → Shd Sh (.ref a) (.list ds)
  | tup {a : Addr} {xs : List V} {ds : List PyData} : SqT K H a xs → Shds Sh xs ds → Shd Sh (.ref a) (.tuple ds)
inductive Shds (Sh : Addr → Prop) : List V → List PyData → Prop
  | nil : Shds Sh [] []
  | cons {v : V} {vs : List V} {d : PyData} {ds : List PyData} : Shd Sh v d → Shds Sh vs ds → Shds Sh (v :: vs) (d :: ds)
end
end
section
variable {K : PySem.W.Frag} {H H' : Hp} {S Sh Sh' : Addr → Prop}
mutual
theorem Own.kp (k : Kp S H H') : ∀ {v : V} {d : PyData} {F : List Addr}, Own K H v d F → (∀ a ∈ F, ¬ S a) → Own K H' v d F
  | _, _, _, .leaf h, _ => .leaf (h.kp k)
  | _, _, _, .lst h r n, s => .lst (k.same _ _ (s _ List.mem_cons_self) h) (Owns.kp k r fun a ha => s a (List.mem_cons_of_mem _ ha)) n
  | _, _, _, .tup h r, s => .tup (k.sqT h) (Owns.kp k r s)
theorem Owns.kp (k : Kp S H H') : ∀ {v : List V} {d : List PyData} {F : List Addr}, Owns K H v d F → (∀ a ∈ F, ¬ S a) → Owns K H' v d F
  | _, _, _, .nil, _ => .nil
  | _, _, _, .cons h r n, s => .cons (Own.kp k h fun a ha => s a (List.mem_append_left _ ha)) (Owns.kp k r fun a ha => s a (List.mem_append_right _ ha)) n
end
mutual
theorem Shd.kp (k : Kp S H H') (s : ∀ a, Sh a → ¬ S a) : ∀ {v : V} {d : PyData}, Shd K H Sh v d → Shd K H' Sh v d
  | _, _, .leaf h => .leaf (h.kp k)
  | _, _, .lst h z r => .lst (z.elim (fun z => k.sqL (s _ z) h) fun z => .inr z) z (Shds.kp k s r)
  | _, _, .tup h r => .tup (k.sqT h) (Shds.kp k s r)
theorem Shds.kp (k : Kp S H H') (s : ∀ a, Sh a → ¬ S a) : ∀ {v : List V} {d : List PyData}, Shds K H Sh v d → Shds K H' Sh v d
  | _, _, .nil => .nil
  | _, _, .cons h r => .cons (Shd.kp k s h) (Shds.kp k s r)
end
mutual
theorem Shd.mono (i : ∀ a, Sh a → Sh' a) : ∀ {v : V} {d : PyData}, Shd K H Sh v d → Shd K H Sh' v d
  | _, _, .leaf h => .leaf h
  | _, _, .lst h z r => .lst h (z.imp (i _) id) (Shds.mono i r)
  | _, _, .tup h r => .tup h (Shds.mono i r)
theorem Shds.mono (i : ∀ a, Sh a → Sh' a) : ∀ {v : List V} {d : List PyData}, Shds K H Sh v d → Shds K H Sh' v d
  | _, _, .nil => .nil
  | _, _, .cons h r => .cons (Shd.mono i h) (Shds.mono i r)
end
mutual
theorem Own.shd : ∀ {v : V} {d : PyData} {F : List Addr}, Own K H v d F → (∀ a ∈ F, Sh a) → Shd K H Sh v d
  | _, _, _, .leaf h, _ => .leaf h
  | _, _, _, .lst h r n, s => .lst (.inl (.inl h)) (.inl (s _ List.mem_cons_self)) (Owns.shds r fun a ha => s a (List.mem_cons_of_mem _ ha))
  | _, _, _, .tup h r, s => .tup h (Owns.shds r s)
theorem Owns.shds : ∀ {v : List V} {d : List PyData} {F : List Addr}, Owns K H v d F → (∀ a ∈ F, Sh a) → Shds K H Sh v d
  | _, _, _, .nil, _ => .nil
  | _, _, _, .cons h r n, s => .cons (Own.shd h fun a ha => s a (List.mem_append_left _ ha)) (Owns.shds r fun a ha => s a (List.mem_append_right _ ha))
end
mutual
theorem Shd.dp : ∀ {v : V} {d : PyData}, Shd K H Sh v d → Dp K H v d
  | _, _, .leaf h => h.dp
  | _, _, .lst h z r => .lst h (Shds.dp r)
  | _, _, .tup h r => .tup h (Shds.dp r)
theorem Shds.dp : ∀ {v : List V} {d : List PyData}, Shds K H Sh v d → DpAll K H v d
  | _, _, .nil => .nil
  | _, _, .cons h r => .cons (Shd.dp h) (Shds.dp r)
end
theorem Own.dp {v : V} {d : PyData} {F : List Addr} (h : Own K H v d F) : Dp K H v d := (h.shd (Sh := fun _ => True) fun _ _ => trivial).dp
mutual
theorem Own.live : ∀ {v : V} {d : PyData} {F : List Addr}, Own K H v d F → ∀ a ∈ F, H a ≠ none
  | _, _, _, .leaf _, a, h => (List.not_mem_nil h).elim
  | _, _, _, .lst h r n, a, m => by
    rcases List.mem_cons.mp m with e | m
    · rw [e, h]; simp
    · exact Owns.live r a m
  | _, _, _, .tup h r, a, m => Owns.live r a m
theorem Owns.live : ∀ {v : List V} {d : List PyData} {F : List Addr}, Owns K H v d F → ∀ a ∈ F, H a ≠ none
  | _, _, _, .nil, a, h => (List.not_mem_nil h).elim
  | _, _, _, .cons h r n, a, m => (List.mem_append.mp m).elim (Own.live h a) (Owns.live r a)
end
mutual
theorem Own.nd : ∀ {v : V} {d : PyData} {F : List Addr}, Own K H v d F → F.Nodup
  | _, _, _, .leaf _ => List.nodup_nil
  | _, _, _, .lst h r n => List.nodup_cons.mpr ⟨n, Owns.nd r⟩
  | _, _, _, .tup h r => Owns.nd r
theorem Owns.nd : ∀ {v : List V} {d : List PyData} {F : List Addr}, Owns K H v d F → F.Nodup
  | _, _, _, .nil => List.nodup_nil
  | _, _, _, .cons h r n => List.nodup_append.mpr ⟨Own.nd h, Owns.nd r, fun a ha b hb e => n a ha (e ▸ hb)⟩
end
mutual
theorem tdImm : ∀ {v : V} {d : PyData}, TD K H v d → immD d = true
  | _, _, .non => rfl
  | _, _, .bl _ => rfl
  | _, _, .int _ => rfl
  | _, _, .str _ => rfl
  | _, _, .tup _ r => by rw [immD]; exact tdsImm r
theorem tdsImm : ∀ {v : List V} {d : List PyData}, TDs K H v d → immAll d = true
  | _, _, .nil => rfl
  | _, _, .cons h r => by rw [immAll, tdImm h, tdsImm r]; rfl
end
mutual
theorem dpImm : ∀ {v : V} {d : PyData}, Dp K H v d → immD d = true → TD K H v d
  | _, _, .non, _ => .non
  | _, _, .bl _, _ => .bl _
  | _, _, .int _, _ => .int _
  | _, _, .str _, _ => .str _
  | _, _, .lst _ _, i => by cases i
  | _, _, .tup h r, i => .tup h (dpsImm r (by rw [immD] at i; exact i))
theorem dpsImm : ∀ {v : List V} {d : List PyData}, DpAll K H v d → immAll d = true → TDs K H v d
  | _, _, .nil, _ => .nil
  | _, _, .cons h r, i => by
    rw [immAll, Bool.and_eq_true] at i
    exact .cons (dpImm h i.1) (dpsImm r i.2)
end
mutual
theorem ownImm : ∀ {v : V} {d : PyData} {F : List Addr}, Own K H v d F → immD d = true → TD K H v d ∧ F = []
  | _, _, _, .leaf h, _ => ⟨h, rfl⟩
  | _, _, _, .lst _ _ _, i => by cases i
  | _, _, _, .tup h r, i => by
    obtain ⟨q, e⟩ := ownsImm r (by rw [immD] at i; exact i)
    exact ⟨.tup h q, e⟩
theorem ownsImm : ∀ {v : List V} {d : List PyData} {F : List Addr}, Owns K H v d F → immAll d = true → TDs K H v d ∧ F = []
  | _, _, _, .nil, _ => ⟨.nil, rfl⟩
  | _, _, _, .cons h r _, i => by
    rw [immAll, Bool.and_eq_true] at i
    obtain ⟨h1, e1⟩ := ownImm h i.1
    obtain ⟨h2, e2⟩ := ownsImm r i.2
    exact ⟨.cons h1 h2, by rw [e1, e2]; rfl⟩
end
theorem Owns.imm : ∀ {vs : List V} {ds : List PyData}, TDs K H vs ds → Owns K H vs ds []
  | _, _, .nil => .nil
  | _, _, .cons h r => Owns.cons (.leaf h) (Owns.imm r) (fun _ z => (List.not_mem_nil z).elim)
mutual
theorem Dp.kpN (k : Kp Non H H') : ∀ {v : V} {d : PyData}, Dp K H v d → Dp K H' v d
  | _, _, .non => .non
  | _, _, .bl _ => .bl _
  | _, _, .int _ => .int _
  | _, _, .str _ => .str _
  | _, _, .lst h r => .lst (k.sqL (fun z => z) h) (DpAll.kpN k r)
  | _, _, .tup h r => .tup (k.sqT h) (DpAll.kpN k r)
theorem DpAll.kpN (k : Kp Non H H') : ∀ {v : List V} {d : List PyData}, DpAll K H v d → DpAll K H' v d
  | _, _, .nil => .nil
  | _, _, .cons h r => .cons (Dp.kpN k h) (DpAll.kpN k r)
end
end

/-! ### modes -/
/-- a root: nothing known; data without lists; data whose lists nobody writes here; a tree of one's own; data read just now -/
inductive Sl where
  | no
  | imm (d : PyData)
  | shr (d : PyData)
  | own (d : PyData)
  /-- of one's own, at a known place: what a caller lent to be written -/
  | iow (a : V) (d : PyData)
  | bor (d : PyData)
  /-- what is walked: a tuple, a list of one's own, a list read only -/
  | itT (a : Addr) (xs : List V) (ds : List PyData)
  | itL (a : Addr) (xs : List V) (ds : List PyData)
  | itS (a : Addr) (xs : List V) (ds : List PyData)
  /-- a tuple of read things -/
  | itP (a : Addr) (xs : List V) (ds : List PyData)
  /-- an exception that was taken: at a, its class, its dict -/
  | exc (a C : Addr) (d : Option Addr) (e : Exc)
  /-- a tape that is a dict: one's own; lent to be read on -/
  | fdo (d : PyData)
  | fdw (a : V) (d : PyData)
/-- what a tape holds, as data -/
def feedD (ns : List Int) (p l t : Int) : PyData := .list [.list (ns.map PyData.int), .int p, .int l, .int t]
def FdR (H : Hp) (v : V) (d : PyData) (F : List Addr) : Prop := ∃ (a c : Addr) (ns : List Int) (p l t : Int), v = .ref a ∧ FR H a c ns p l t ∧ d = feedD ns p l t ∧ F = [a, c]
section
variable {H H' : Hp} {S : Addr → Prop} {v : V} {d : PyData} {F : List Addr}
theorem FdR.kp (h : FdR H v d F) (k : Kp S H H') (f : ∀ a ∈ F, ¬ S a) : FdR H' v d F := by
  obtain ⟨a, c, ns, p, l, t, e, h, ed, eF⟩ := h
  subst eF
  exact ⟨a, c, ns, p, l, t, e, ⟨k.same _ _ (f a List.mem_cons_self) h.dict, k.same _ _ (f c (by simp)) h.cells⟩, ed, rfl⟩
theorem FdR.live (h : FdR H v d F) : ∀ a ∈ F, H a ≠ none := by
  obtain ⟨a, c, ns, p, l, t, e, h, ed, eF⟩ := h
  subst eF
  intro b hb
  rcases List.mem_cons.mp hb with z | z
  · rw [z, h.dict]; simp
  · rw [List.mem_singleton.mp z, h.cells]; simp
theorem FdR.nd (h : FdR H v d F) : F.Nodup := by
  obtain ⟨a, c, ns, p, l, t, e, h, ed, eF⟩ := h
  subst eF
  simp [h.ne.symm]
theorem FdR.isL (h : FdR H v d F) : ∀ a ∈ F, ∀ fs, H a ≠ some (.xd fs) := by
  obtain ⟨a, c, ns, p, l, t, e, h, ed, eF⟩ := h
  subst eF
  intro b hb fs e2
  rcases List.mem_cons.mp hb with z | z
  · rw [z, h.dict] at e2; cases e2
  · rw [List.mem_singleton.mp z, h.cells] at e2; cases e2
end
/-- the fields of an exception whose dict stands within Sh -/
def ExcSh (K : PySem.W.Frag) (H : Hp) (Sh : Addr → Prop) (d : Option Addr) (e : Exc) : Prop :=
  (∀ dd, d = some dd → Sh dd ∧ ∃ fs, H dd = some (.xd fs)) ∧ ∀ f x, e.fs.lookup f = some x → ∃ dd fs v, d = some dd ∧ H dd = some (.xd fs) ∧ fs.lookup f = some v ∧ TD K H v x ∧ szD x
def kill : Sl → Sl
  | .bor _ => .no
  | r => r
def SlR (K : PySem.W.Frag) (H : Hp) (Sh : Addr → Prop) (v : V) : Sl → List Addr → Prop
  | .no, F => F = []
  | .imm d, F => F = [] ∧ TD K H v d ∧ szD d
  | .shr d, F => F = [] ∧ Shd K H Sh v d ∧ szD d
  | .own d, F => Own K H v d F ∧ szD d
  | .iow a d, F => (Own K H v d F ∧ szD d) ∧ v = a
  | .bor d, F => F = [] ∧ Shd K H (fun a => H a ≠ none) v d ∧ szD d
  | .itT a xs ds, F => F = [] ∧ SqT K H a xs ∧ TDs K H xs ds ∧ szAll ds
  | .itL a xs ds, F => ∃ Fi, F = a :: Fi ∧ H a = some (.lst xs) ∧ Owns K H xs ds Fi ∧ a ∉ Fi ∧ szAll ds
  | .itS a xs ds, F => F = [] ∧ SqL K H a xs ∧ (Sh a ∨ SqK K a xs) ∧ Shds K H Sh xs ds ∧ szAll ds
  | .itP a xs ds, F => F = [] ∧ SqT K H a xs ∧ Shds K H Sh xs ds ∧ szAll ds
  | .exc a _ d e, F => F = [] ∧ v = .ref a ∧ ExcSh K H Sh d e
  | .fdo d, F => FdR H v d F
  | .fdw a d, F => FdR H v d F ∧ v = a
/-- what is read off a root -/
inductive SlD : Sl → PyData → Prop
  | imm (d : PyData) : SlD (.imm d) d
  | shr (d : PyData) : SlD (.shr d) d
  | own (d : PyData) : SlD (.own d) d
  | iow (a : V) (d : PyData) : SlD (.iow a d) d
  | bor (d : PyData) : SlD (.bor d) d
section
variable {K : PySem.W.Frag} {H H' : Hp} {S Sh Sh' : Addr → Prop} {v : V} {r : Sl} {F : List Addr} {d : PyData}
theorem SlR.dp (h : SlR K H Sh v r F) (e : SlD r d) : Dp K H v d ∧ szD d := by
  cases e with
  | imm => exact ⟨h.2.1.dp, h.2.2⟩
  | shr => exact ⟨h.2.1.dp, h.2.2⟩
  | own => exact ⟨h.1.dp, h.2⟩
  | iow => exact ⟨h.1.1.dp, h.1.2⟩
  | bor => exact ⟨h.2.1.dp, h.2.2⟩
theorem SlR.bd (h : SlR K H Sh v r F) (e : SlD r d) (lv : ∀ a, Sh a → H a ≠ none) : Shd K H (fun a => H a ≠ none) v d ∧ szD d := by
  cases e with
  | imm => exact ⟨.leaf h.2.1, h.2.2⟩
  | shr => exact ⟨h.2.1.mono lv, h.2.2⟩
  | own => exact ⟨h.1.shd h.1.live, h.2⟩
  | iow => exact ⟨h.1.1.shd h.1.1.live, h.1.2⟩
  | bor => exact ⟨h.2.1, h.2.2⟩
theorem SlR.kp (h : SlR K H Sh v r F) (k : Kp S H H') (s : ∀ a, Sh a → ¬ S a) (f : ∀ a ∈ F, ¬ S a) : SlR K H' Sh v (kill r) F := by
  cases r with
  | no => exact h
  | imm d => exact ⟨h.1, h.2.1.kp k, h.2.2⟩
  | shr d => exact ⟨h.1, h.2.1.kp k s, h.2.2⟩
  | own d => exact ⟨h.1.kp k f, h.2⟩
  | iow a d => exact ⟨⟨h.1.1.kp k f, h.1.2⟩, h.2⟩
  | bor d => exact h.1
  | itT a xs ds => exact ⟨h.1, k.sqT h.2.1, h.2.2.1.kp k, h.2.2.2⟩
  | itL a xs ds =>
    obtain ⟨Fi, e, h1, h2, h3, h4⟩ := h
    subst e
    exact ⟨Fi, rfl, k.same _ _ (f a List.mem_cons_self) h1, h2.kp k (fun b hb => f b (List.mem_cons_of_mem _ hb)), h3, h4⟩
  | itS a xs ds => exact ⟨h.1, h.2.2.1.elim (fun z => k.sqL (s a z) h.2.1) (fun z => .inr z), h.2.2.1, h.2.2.2.1.kp k s, h.2.2.2.2⟩
  | itP a xs ds => exact ⟨h.1, k.sqT h.2.1, h.2.2.1.kp k s, h.2.2.2⟩
  | exc a C d e =>
    refine ⟨h.1, h.2.1, fun dd q => ⟨(h.2.2.1 dd q).1, (h.2.2.1 dd q).2.imp fun fs z => k.same _ _ (s _ (h.2.2.1 dd q).1) z⟩, fun f x q => ?_⟩
    obtain ⟨dd, fs, v, q1, q3, q4, q5, q6⟩ := h.2.2.2 f x q
    exact ⟨dd, fs, v, q1, k.same _ _ (s _ (h.2.2.1 dd q1).1) q3, q4, q5.kp k, q6⟩
  | fdo d => exact FdR.kp h k f
  | fdw a d => exact ⟨h.1.kp k f, h.2⟩
theorem SlR.non (h : SlR K H Sh v r F) (k : Kp Non H H') : SlR K H' Sh v r F := by
  cases r with
  | no => exact h
  | imm d => exact ⟨h.1, h.2.1.kp k, h.2.2⟩
  | shr d => exact ⟨h.1, h.2.1.kp k (fun _ _ z => z), h.2.2⟩
  | own d => exact ⟨h.1.kp k (fun _ _ z => z), h.2⟩
  | iow a d => exact ⟨⟨h.1.1.kp k (fun _ _ z => z), h.1.2⟩, h.2⟩
  | bor d => exact ⟨h.1, (h.2.1.kp k (fun _ _ z => z)).mono fun a z q => z (k.live a q), h.2.2⟩
  | itT a xs ds => exact ⟨h.1, k.sqT h.2.1, h.2.2.1.kp k, h.2.2.2⟩
  | itL a xs ds =>
    obtain ⟨Fi, e, h1, h2, h3, h4⟩ := h
    exact ⟨Fi, e, k.same _ _ (fun z => z) h1, h2.kp k (fun _ _ z => z), h3, h4⟩
  | itS a xs ds => exact ⟨h.1, k.sqL (fun z => z) h.2.1, h.2.2.1, h.2.2.2.1.kp k (fun _ _ z => z), h.2.2.2.2⟩
  | itP a xs ds => exact ⟨h.1, k.sqT h.2.1, h.2.2.1.kp k (fun _ _ z => z), h.2.2.2⟩
  | exc a C d e =>
    refine ⟨h.1, h.2.1, fun dd q => ⟨(h.2.2.1 dd q).1, (h.2.2.1 dd q).2.imp fun fs z => k.same _ _ (fun z => z) z⟩, fun f x q => ?_⟩
    obtain ⟨dd, fs, v, q1, q3, q4, q5, q6⟩ := h.2.2.2 f x q
    exact ⟨dd, fs, v, q1, k.same _ _ (fun z => z) q3, q4, q5.kp k, q6⟩
  | fdo d => exact FdR.kp h k (fun _ _ z => z)
  | fdw a d => exact ⟨h.1.kp k (fun _ _ z => z), h.2⟩
theorem SlR.mono (h : SlR K H Sh v r F) (i : ∀ a, Sh a → Sh' a) : SlR K H Sh' v r F := by
  cases r with
  | no => exact h
  | imm d => exact h
  | shr d => exact ⟨h.1, h.2.1.mono i, h.2.2⟩
  | own d => exact h
  | iow a d => exact h
  | bor d => exact h
  | itT a xs ds => exact h
  | itL a xs ds => exact h
  | itS a xs ds => exact ⟨h.1, h.2.1, h.2.2.1.imp (i _) id, h.2.2.2.1.mono i, h.2.2.2.2⟩
  | itP a xs ds => exact ⟨h.1, h.2.1, h.2.2.1.mono i, h.2.2.2⟩
  | exc a C d e =>
    exact ⟨h.1, h.2.1, fun dd q => ⟨i _ (h.2.2.1 dd q).1, (h.2.2.1 dd q).2⟩, h.2.2.2⟩
  | fdo d => exact h
  | fdw a d => exact h
theorem SlR.live (h : SlR K H Sh v r F) : ∀ a ∈ F, H a ≠ none := by
  cases r with
  | own d => exact h.1.live
  | iow a d => exact h.1.1.live
  | no => rw [show F = [] from h]; exact fun _ z => (List.not_mem_nil z).elim
  | imm d => rw [h.1]; exact fun _ z => (List.not_mem_nil z).elim
  | shr d => rw [h.1]; exact fun _ z => (List.not_mem_nil z).elim
  | bor d => rw [h.1]; exact fun _ z => (List.not_mem_nil z).elim
  | itT a xs ds => rw [h.1]; exact fun _ z => (List.not_mem_nil z).elim
  | itS a xs ds => rw [h.1]; exact fun _ z => (List.not_mem_nil z).elim
  | itP a xs ds => rw [h.1]; exact fun _ z => (List.not_mem_nil z).elim
  | exc a C d e => rw [h.1]; exact fun _ z => (List.not_mem_nil z).elim
  | fdo d => exact FdR.live h
  | fdw a d => exact h.1.live
  | itL a xs ds =>
    obtain ⟨Fi, e, h1, h2, h3, h4⟩ := h
    subst e
    intro b hb
    rcases List.mem_cons.mp hb with z | z
    · rw [z, h1]; simp
    · exact h2.live b z
end

/-- a slot whose list may be written, and how it stands behind that -/
inductive FdSl : Sl → PyData → (PyData → Sl) → Prop
  | fdo (d : PyData) : FdSl (.fdo d) d .fdo
  | fdw (a : V) (d : PyData) : FdSl (.fdw a d) d (.fdw a)
inductive OwnSl : Sl → PyData → (PyData → Sl) → Prop
  | own (d : PyData) : OwnSl (.own d) d .own
  | iow (a : V) (d : PyData) : OwnSl (.iow a d) d (.iow a)
/-! ### slots and what is at hand -/
section
variable (K : PySem.W.Frag) (H : Hp) (Sh : Addr → Prop)
def SlO (ov : Option V) (r : Sl) (F : List Addr) : Prop := (r = .no ∧ F = []) ∨ ∃ v, ov = some v ∧ SlR K H Sh v r F
inductive Sls : L2.St → List Sl → List Addr → Prop
  | nil : Sls [] [] []
  | cons {ov : Option V} {σ : L2.St} {r : Sl} {env : List Sl} {F G : List Addr} : SlO K H Sh ov r F → Sls σ env G → Sls (ov :: σ) (r :: env) (F ++ G)
inductive Tms : List V → List Sl → List Addr → Prop
  | nil : Tms [] [] []
  | cons {v : V} {vs : List V} {r : Sl} {ts : List Sl} {F G : List Addr} : SlR K H Sh v r F → Tms vs ts G → Tms (v :: vs) (r :: ts) (F ++ G)
end
section
variable {K : PySem.W.Frag} {H H' : Hp} {S Sh Sh' : Addr → Prop}
theorem SlO.live {ov : Option V} {r : Sl} {F : List Addr} (h : SlO K H Sh ov r F) : ∀ a ∈ F, H a ≠ none := by
  rcases h with ⟨_, e⟩ | ⟨v, _, h⟩
  · rw [e]; exact fun _ z => (List.not_mem_nil z).elim
  · exact h.live
/-- a change that roots outlive -/
structure Tr (K : PySem.W.Frag) (H H' : Hp) (Sh Sh' : Addr → Prop) (F : List Addr) (g : Sl → Sl) : Prop where
  go : ∀ (v : V) (r : Sl) (G : List Addr), (∀ a ∈ G, a ∈ F) → SlR K H Sh v r G → SlR K H' Sh' v (g r) G
  no : g .no = .no
theorem Tr.kp (k : Kp S H H') (s : ∀ a, Sh a → ¬ S a) {F : List Addr} (f : ∀ a ∈ F, ¬ S a) : Tr K H H' Sh Sh F kill :=
  ⟨fun _ _ _ m h => h.kp k s fun a ha => f a (m a ha), rfl⟩
theorem Tr.non (k : Kp Non H H') {F : List Addr} : Tr K H H' Sh Sh F id := ⟨fun _ _ _ _ h => h.non k, rfl⟩
theorem Tr.shm (i : ∀ a, Sh a → Sh' a) {F : List Addr} : Tr K H H Sh Sh' F id := ⟨fun _ _ _ _ h => h.mono i, rfl⟩
theorem Tr.sub {F G : List Addr} {g : Sl → Sl} (t : Tr K H H' Sh Sh' F g) (m : ∀ a ∈ G, a ∈ F) : Tr K H H' Sh Sh' G g := ⟨fun v r L l h => t.go v r L (fun a ha => m a (l a ha)) h, t.no⟩
theorem SlO.tr {ov : Option V} {r : Sl} {F : List Addr} {g : Sl → Sl} (h : SlO K H Sh ov r F) (t : Tr K H H' Sh Sh' F g) : SlO K H' Sh' ov (g r) F := by
  rcases h with ⟨e1, e2⟩ | ⟨v, e, h⟩
  · exact .inl ⟨by rw [e1]; exact t.no, e2⟩
  · exact .inr ⟨v, e, t.go v r F (fun _ z => z) h⟩
theorem Sls.tr : ∀ {σ : L2.St} {env : List Sl} {F : List Addr} {g : Sl → Sl}, Sls K H Sh σ env F → Tr K H H' Sh Sh' F g → Sls K H' Sh' σ (env.map g) F
  | _, _, _, _, .nil, _ => .nil
  | _, _, _, _, .cons h r, t => .cons (h.tr (t.sub fun _ z => List.mem_append_left _ z)) (Sls.tr r (t.sub fun _ z => List.mem_append_right _ z))
theorem Tms.tr : ∀ {vs : List V} {ts : List Sl} {F : List Addr} {g : Sl → Sl}, Tms K H Sh vs ts F → Tr K H H' Sh Sh' F g → Tms K H' Sh' vs (ts.map g) F
  | _, _, _, _, .nil, _ => .nil
  | _, _, _, _, .cons h r, t => .cons (t.go _ _ _ (fun _ z => List.mem_append_left _ z) h) (Tms.tr r (t.sub fun _ z => List.mem_append_right _ z))
theorem mapId (l : List Sl) : l.map id = l := List.map_id l
theorem Sls.live : ∀ {σ : L2.St} {env : List Sl} {F : List Addr}, Sls K H Sh σ env F → ∀ a ∈ F, H a ≠ none
  | _, _, _, .nil, a, h => (List.not_mem_nil h).elim
  | _, _, _, .cons h r, a, m => (List.mem_append.mp m).elim (h.live a) (Sls.live r a)
theorem Tms.live : ∀ {vs : List V} {env : List Sl} {F : List Addr}, Tms K H Sh vs env F → ∀ a ∈ F, H a ≠ none
  | _, _, _, .nil, a, h => (List.not_mem_nil h).elim
  | _, _, _, .cons h r, a, m => (List.mem_append.mp m).elim (h.live a) (Tms.live r a)
theorem Sls.len : ∀ {σ : L2.St} {env : List Sl} {F : List Addr}, Sls K H Sh σ env F → σ.length = env.length
  | _, _, _, .nil => rfl
  | _, _, _, .cons h r => congrArg (· + 1) (Sls.len r)
/-- a slot, and what may stand in its place -/
theorem Sls.split : ∀ {σ : L2.St} {env : List Sl} {F : List Addr} {i : Nat} {r : Sl}, Sls K H Sh σ env F → env[i]? = some r →
    ∃ ov F1 F2 F3, σ[i]? = some ov ∧ SlO K H Sh ov r F2 ∧ F = F1 ++ (F2 ++ F3) ∧
      ∀ {H' : Hp} {Sh' : Addr → Prop} {g : Sl → Sl} (ov' : Option V) (r' : Sl) (F2' : List Addr), Tr K H H' Sh Sh' (F1 ++ F3) g → SlO K H' Sh' ov' r' F2' → Sls K H' Sh' (σ.set i ov') ((env.map g).set i r') (F1 ++ (F2' ++ F3))
  | _, _, _, _, _, .nil, e => by simp at e
  | _, _, _, 0, r, .cons (F := F) (G := G) h q, e => by
    simp at e
    subst e
    exact ⟨_, [], F, G, rfl, h, rfl, fun ov' r' F2' t h' => Sls.cons (F := F2') (G := G) h' (q.tr t)⟩
  | _, _, _, i + 1, r, .cons (F := F) (G := G) h q, e => by
    obtain ⟨ov, F1, F2, F3, e1, h1, e2, go⟩ := Sls.split (i := i) q (by simpa using e)
    refine ⟨ov, F ++ F1, F2, F3, by simpa using e1, h1, by rw [e2, List.append_assoc], fun {H' Sh' g} ov' r' F2' t h' => ?_⟩
    rw [List.append_assoc]
    exact .cons (h.tr (t.sub fun a z => List.mem_append_left _ (List.mem_append_left _ z)))
      (go ov' r' F2' (t.sub fun a z => by
        rcases List.mem_append.mp z with z | z
        · exact List.mem_append_left _ (List.mem_append_right _ z)
        · exact List.mem_append_right _ z) h')
/-- a world: the heap, what is shared and read only, what is owned -/
structure Wd where
  H : Hp
  Sh : Addr → Prop
  O : List Addr
structure Step (w w' : Wd) : Prop where
  kp : Kp (· ∈ w.O) w.H w'.H
  own : ∀ a ∈ w'.O, a ∈ w.O ∨ w.H a = none
  sh : ∀ a, w.Sh a → w'.Sh a
  sn : ∀ a, w'.Sh a → w.Sh a ∨ a ∈ w.O ∨ w.H a = none
theorem Step.refl {w : Wd} : Step w w := ⟨Kp.refl, fun _ h => .inl h, fun _ h => h, fun _ h => .inl h⟩
theorem kpThen {S T : Addr → Prop} {H H1 H2 : Hp} (a : Kp S H H1) (b : Kp T H1 H2) (h : ∀ x, T x → S x ∨ H x = none) : Kp S H H2 :=
  ⟨fun c o n e => b.same c o (fun z => (h c z).elim n fun q => by rw [q] at e; cases e) (a.same c o n e), fun c xs e => b.tups c xs (a.tups c xs e), fun c o u e => b.frzs c o u (a.frzs c o u e), fun c e => a.live c (b.live c e)⟩
theorem Step.trans {w w1 w2 : Wd} (a : Step w w1) (b : Step w1 w2) : Step w w2 where
  kp := kpThen a.kp b.kp a.own
  own := fun x h => (b.own x h).elim (a.own x) fun z => .inr (a.kp.live x z)
  sh := fun x h => b.sh x (a.sh x h)
  sn := fun x h => (b.sn x h).elim (a.sn x) fun z => z.elim (fun z => .inr (a.own x z)) fun z => .inr (.inr (a.kp.live x z))
/-- slots, what is at hand, what lies under it -/
structure Rel (K : PySem.W.Frag) (w : Wd) (σ : L2.St) (env : List Sl) (vs : List V) (ts : List Sl) (us : List V) (bs : List Sl) : Prop where
  ex : ∃ F G B, Sls K w.H w.Sh σ env F ∧ Tms K w.H w.Sh vs ts G ∧ Tms K w.H w.Sh us bs B ∧ w.O = F ++ (G ++ B)
  nd : w.O.Nodup
  out : ∀ a ∈ w.O, ¬ w.Sh a
  lv : ∀ a, w.Sh a → w.H a ≠ none
  kl : bs.map kill = bs
/-- a result: its mode, over a heap that grew from H to H' -/
inductive Res (K : PySem.W.Frag) (H H' : Hp) : V → Sl → Prop
  | imm {v : V} {d : PyData} : TD K H' v d → szD d → Res K H H' v (.imm d)
  | bor {v : V} {d : PyData} : Shd K H' (fun a => H' a ≠ none) v d → szD d → Res K H H' v (.bor d)
  | own {v : V} {d : PyData} {F : List Addr} : Own K H' v d F → (∀ a ∈ F, H a = none) → szD d → Res K H H' v (.own d)
  | fdo {v : V} {d : PyData} {F : List Addr} : FdR H' v d F → (∀ a ∈ F, H a = none) → Res K H H' v (.fdo d)
theorem nodupSub {α : Type} {A B B' C : List α} (h : (A ++ (B ++ C)).Nodup) (n : B'.Nodup) (s : ∀ x ∈ B', x ∈ B) : (A ++ (B' ++ C)).Nodup := by
  obtain ⟨h1, h2, h3⟩ := List.nodup_append.mp h
  obtain ⟨h4, h5, h6⟩ := List.nodup_append.mp h2
  refine List.nodup_append.mpr ⟨h1, List.nodup_append.mpr ⟨n, h5, fun a ha b hb => h6 a (s a ha) b hb⟩, fun a ha b hb => ?_⟩
  rcases List.mem_append.mp hb with z | z
  · exact h3 a ha b (List.mem_append_left _ (s b z))
  · exact h3 a ha b (List.mem_append_right _ z)
theorem nodupNew {α : Type} {A B C : List α} (h : (A ++ C).Nodup) (n : B.Nodup) (s : ∀ x ∈ B, x ∉ A ++ C) : (A ++ (B ++ C)).Nodup := by
  obtain ⟨h1, h2, h3⟩ := List.nodup_append.mp h
  refine List.nodup_append.mpr ⟨h1, List.nodup_append.mpr ⟨n, h2, fun a ha b hb e => s a ha (List.mem_append_right _ (e ▸ hb))⟩, fun a ha b hb e => ?_⟩
  rcases List.mem_append.mp hb with z | z
  · exact s b z (List.mem_append_left _ (e ▸ ha))
  · exact h3 a ha b z e
theorem Tms.split : ∀ {ws : List V} {rs : List Sl} {vs : List V} {ts : List Sl} {G : List Addr}, ws.length = rs.length → Tms K H Sh (ws ++ vs) (rs ++ ts) G → ∃ A B, G = A ++ B ∧ Tms K H Sh ws rs A ∧ Tms K H Sh vs ts B
  | [], [], _, _, G, _, h => ⟨[], G, rfl, .nil, h⟩
  | w :: ws, r :: rs, vs, ts, _, e, .cons (F := F) h q => by
    obtain ⟨A, B, e1, h1, h2⟩ := Tms.split (ws := ws) (rs := rs) (by simpa using e) q
    exact ⟨F ++ A, B, by rw [e1, List.append_assoc], .cons h h1, h2⟩
section
variable {w : Wd} {σ : L2.St} {env : List Sl} {vs us ws : List V} {ts bs rs : List Sl} {v : V} {r : Sl} {d : PyData}
theorem Rel.non (R : Rel K w σ env vs ts us bs) (k : Kp Non w.H H') : Rel K { w with H := H' } σ env vs ts us bs := by
  obtain ⟨F, G, B, h1, h2, h3, e⟩ := R.ex
  refine ⟨⟨F, G, B, ?_, ?_, ?_, e⟩, R.nd, R.out, fun a h z => R.lv a h (k.live a z), R.kl⟩
  · have := h1.tr (Tr.non (Sh := w.Sh) k); rwa [mapId] at this
  · have := h2.tr (Tr.non (Sh := w.Sh) k); rwa [mapId] at this
  · have := h3.tr (Tr.non (Sh := w.Sh) k); rwa [mapId] at this
theorem Step.non (k : Kp Non w.H H') : Step w { w with H := H' } := ⟨k.non, fun _ h => .inl h, fun _ h => h, fun _ h => .inl h⟩
theorem Rel.live (R : Rel K w σ env vs ts us bs) : ∀ a ∈ w.O, w.H a ≠ none := by
  obtain ⟨F, G, B, h1, h2, h3, e⟩ := R.ex
  intro a ha
  rw [e] at ha
  rcases List.mem_append.mp ha with z | z
  · exact h1.live a z
  · rcases List.mem_append.mp z with z | z
    · exact h2.live a z
    · exact h3.live a z
/-- the things at hand are taken, one is laid in their place: of theirs, or new -/
theorem Rel.take (R : Rel K w σ env (ws ++ vs) (rs ++ ts) us bs) (el : ws.length = rs.length) (k : Kp Non w.H H')
    (h : ∀ A, Tms K w.H w.Sh ws rs A → ∃ F', SlR K H' w.Sh v r F' ∧ F'.Nodup ∧ ∀ a ∈ F', a ∈ A ∨ w.H a = none) :
    ∃ w', w'.H = H' ∧ Rel K w' σ env (v :: vs) (r :: ts) us bs ∧ Step w w' := by
  obtain ⟨F, G, B, h1, h2, h3, e⟩ := R.ex
  obtain ⟨A, G', eG, ha, g2⟩ := h2.split el
  obtain ⟨F', hs, nd, hf⟩ := h A ha
  subst eG
  have hlive := R.live
  have nd0 := R.nd
  rw [e] at nd0
  have memO : ∀ a ∈ F', a ∈ A → a ∈ w.O := fun a _ z => by rw [e]; exact List.mem_append_right _ (List.mem_append_left _ (List.mem_append_left _ z))
  have nd1 : (F ++ (F' ++ (G' ++ B))).Nodup := by
    have n1 : (F ++ (A ++ (G' ++ B))).Nodup := by rw [← List.append_assoc A]; exact nd0
    have sp : ∀ (l : List Addr), (∀ a ∈ l, a ∈ F') → l.Nodup → (F ++ (l ++ (G' ++ B))).Nodup := fun l hl ndl => by
      have n2 : (F ++ (G' ++ B)).Nodup := by
        have := nodupSub (B' := []) n1 List.nodup_nil (fun _ z => (List.not_mem_nil z).elim)
        exact this
      refine nodupNew n2 ndl fun x hx hm => ?_
      rcases hf x (hl x hx) with z | z
      · obtain ⟨q1, q2, q3⟩ := List.nodup_append.mp n1
        obtain ⟨q4, q5, q6⟩ := List.nodup_append.mp q2
        rcases List.mem_append.mp hm with y | y
        · exact q3 x y x (List.mem_append_left _ z) rfl
        · exact q6 x z x y rfl
      · refine hlive x ?_ z
        rw [e]
        rcases List.mem_append.mp hm with y | y
        · exact List.mem_append_left _ y
        · rcases List.mem_append.mp y with y | y
          · exact List.mem_append_right _ (List.mem_append_left _ (List.mem_append_right _ y))
          · exact List.mem_append_right _ (List.mem_append_right _ y)
    exact sp F' (fun _ z => z) nd
  have cases3 : ∀ a ∈ F ++ ((F' ++ G') ++ B), a ∈ w.O ∨ (a ∈ F' ∧ w.H a = none) := fun a m => by
    rw [e]
    rcases List.mem_append.mp m with y | y
    · exact .inl (List.mem_append_left _ y)
    · rcases List.mem_append.mp y with y | y
      · rcases List.mem_append.mp y with y | y
        · rcases hf a y with z | z
          · exact .inl (List.mem_append_right _ (List.mem_append_left _ (List.mem_append_left _ z)))
          · exact .inr ⟨y, z⟩
        · exact .inl (List.mem_append_right _ (List.mem_append_left _ (List.mem_append_right _ y)))
      · exact .inl (List.mem_append_right _ (List.mem_append_right _ y))
  refine ⟨⟨H', w.Sh, F ++ ((F' ++ G') ++ B)⟩, rfl, ⟨⟨F, F' ++ G', B, ?_, .cons hs ?_, ?_, rfl⟩, ?_, ?_, fun a h z => R.lv a h (k.live a z), R.kl⟩, ⟨k.non, ?_, fun _ h => h, fun _ h => .inl h⟩⟩
  · have := h1.tr (Tr.non (Sh := w.Sh) k); rwa [mapId] at this
  · have := g2.tr (Tr.non (Sh := w.Sh) k); rwa [mapId] at this
  · have := h3.tr (Tr.non (Sh := w.Sh) k); rwa [mapId] at this
  · rw [List.append_assoc]; exact nd1
  · intro a m
    rcases cases3 a m with z | ⟨_, z⟩
    · exact R.out a z
    · exact fun q => R.lv a q z
  · intro a m
    rcases cases3 a m with z | ⟨_, z⟩
    · exact .inl z
    · exact .inr z
theorem Res.sl {H0 : Hp} (h : Res K H0 H' v r) : ∃ F', SlR K H' Sh v r F' ∧ F'.Nodup ∧ ∀ a ∈ F', H0 a = none := by
  cases h with
  | imm h z => exact ⟨[], ⟨rfl, h, z⟩, List.nodup_nil, fun _ q => (List.not_mem_nil q).elim⟩
  | bor h z => exact ⟨[], ⟨rfl, h, z⟩, List.nodup_nil, fun _ q => (List.not_mem_nil q).elim⟩
  | own h f z => exact ⟨_, ⟨h, z⟩, h.nd, f⟩
  | fdo h f => exact ⟨_, h, h.nd, f⟩
theorem Rel.res (R : Rel K w σ env (ws ++ vs) (rs ++ ts) us bs) (el : ws.length = rs.length) (k : Kp Non w.H H') (h : Res K w.H H' v r) :
    ∃ w', w'.H = H' ∧ Rel K w' σ env (v :: vs) (r :: ts) us bs ∧ Step w w' :=
  R.take el k fun A _ => by
    obtain ⟨F', h1, h2, h3⟩ := h.sl (Sh := w.Sh)
    exact ⟨F', h1, h2, fun a ha => .inr (h3 a ha)⟩
/-- things at hand are let go -/
theorem Rel.pops (R : Rel K w σ env (ws ++ vs) (rs ++ ts) us bs) (el : ws.length = rs.length) : ∃ w', w'.H = w.H ∧ Rel K w' σ env vs ts us bs ∧ Step w w' := by
  obtain ⟨F, G, B, h1, h2, h3, e⟩ := R.ex
  obtain ⟨A, G', eG, ha, g2⟩ := h2.split el
  subst eG
  have nd0 := R.nd
  rw [e] at nd0
  have sub : ∀ a ∈ F ++ (G' ++ B), a ∈ w.O := fun a m => by
    rw [e]
    rcases List.mem_append.mp m with y | y
    · exact List.mem_append_left _ y
    · rcases List.mem_append.mp y with y | y
      · exact List.mem_append_right _ (List.mem_append_left _ (List.mem_append_right _ y))
      · exact List.mem_append_right _ (List.mem_append_right _ y)
  refine ⟨⟨w.H, w.Sh, F ++ (G' ++ B)⟩, rfl, ⟨⟨F, G', B, h1, g2, h3, rfl⟩, nodupSub (B' := G') nd0 (List.nodup_append.mp (List.nodup_append.mp (List.nodup_append.mp nd0).2.1).1).2.1 fun x hx => List.mem_append_right _ hx, fun a m => R.out a (sub a m), R.lv, R.kl⟩,
    ⟨Kp.refl, fun a m => .inl (sub a m), fun _ h => h, fun _ h => .inl h⟩⟩
/-- what is on top -/
theorem Rel.top (R : Rel K w σ env (v :: vs) (r :: ts) us bs) : ∃ F, SlR K w.H w.Sh v r F := by
  obtain ⟨F, G, B, h1, h2, h3, e⟩ := R.ex
  cases h2 with
  | cons h q => exact ⟨_, h⟩
theorem Rel.dp (R : Rel K w σ env (v :: vs) (r :: ts) us bs) (s : SlD r d) : Dp K w.H v d ∧ szD d := by
  obtain ⟨F, h⟩ := R.top
  exact h.dp s
theorem Rel.bd (R : Rel K w σ env (v :: vs) (r :: ts) us bs) (s : SlD r d) : Shd K w.H (fun a => w.H a ≠ none) v d ∧ szD d := by
  obtain ⟨F, h⟩ := R.top
  exact h.bd s R.lv
theorem Rel.td (R : Rel K w σ env (v :: vs) (.imm d :: ts) us bs) : TD K w.H v d ∧ szD d := by
  obtain ⟨F, h⟩ := R.top
  exact h.2
theorem Rel.under {v1 : V} {r1 : Sl} (R : Rel K w σ env (v1 :: v :: vs) (r1 :: r :: ts) us bs) : ∃ F, SlR K w.H w.Sh v r F := by
  obtain ⟨F, G, B, h1, h2, h3, e⟩ := R.ex
  cases h2 with
  | cons h q =>
    cases q with
    | cons h q => exact ⟨_, h⟩
/-- what is on top goes into a slot -/
theorem Rel.store {i : Nat} {r0 : Sl} (R : Rel K w σ env (v :: vs) (r :: ts) us bs) (hi : env[i]? = some r0) :
    ∃ w', w'.H = w.H ∧ Rel K w' (σ.set i (some v)) (env.set i r) vs ts us bs ∧ Step w w' := by
  obtain ⟨F, G, B, h1, h2, h3, e⟩ := R.ex
  cases h2 with
  | cons hv h2 =>
    rename_i Fv G
    obtain ⟨ov, F1, F2, F3, e1, hs, eF, go⟩ := h1.split hi
    have s1 := go (some v) r Fv (Tr.non (Sh := w.Sh) Kp.refl) (.inr ⟨v, rfl, hv⟩)
    rw [mapId] at s1
    have nd0 := R.nd
    rw [e, eF] at nd0
    have sub : ∀ a ∈ (F1 ++ (Fv ++ F3)) ++ (G ++ B), a ∈ w.O := fun a m => by
      rw [e, eF]
      simp only [List.mem_append] at m ⊢
      rcases m with (m | m | m) | m | m
      · exact .inl (.inl m)
      · exact .inr (.inl (.inl m))
      · exact .inl (.inr (.inr m))
      · exact .inr (.inl (.inr m))
      · exact .inr (.inr m)
    refine ⟨⟨w.H, w.Sh, (F1 ++ (Fv ++ F3)) ++ (G ++ B)⟩, rfl, ⟨⟨_, G, B, s1, h2, h3, rfl⟩, ?_, fun a m => R.out a (sub a m), R.lv, R.kl⟩, ⟨Kp.refl, fun a m => .inl (sub a m), fun _ h => h, fun _ h => .inl h⟩⟩
    have p : List.Perm ((F1 ++ (F2 ++ F3)) ++ ((Fv ++ G) ++ B)) (F2 ++ ((F1 ++ (Fv ++ F3)) ++ (G ++ B))) := by
      refine List.perm_iff_count.mpr fun a => ?_
      simp only [List.count_append]
      omega
    exact (List.nodup_append.mp (p.nodup_iff.mp nd0)).2.1
end
end
end Vl
/-! Readings against functions: judgements in passing-on style, expressions and statements. -/
namespace Vl
open PySem PySem.Spec PyProof.Rows L2 Hw
/-- the fields of an exception whose dict stands at d -/
def ExcAt (K : PySem.W.Frag) (H : Hp) (d : Option Addr) (e : Exc) : Prop :=
  (∀ dd, d = some dd → ∃ fs, H dd = some (.xd fs)) ∧ ∀ f x, e.fs.lookup f = some x → ∃ dd fs v, d = some dd ∧ H dd = some (.xd fs) ∧ fs.lookup f = some v ∧ TD K H v x ∧ szD x
/-- where a reading stands: what an exception that leaves must meet (E, by the slots), at which slots (L), and what is known of it ahead (P) -/
structure Ctx where
  K : PySem.W.Frag
  cm : Str → Option Addr
  E : L2.St → XK
  L : List Sl → Prop
  P : Exc → Wd → List V → List Sl → Prop
  step : ∀ {e : Exc} {w w' : Wd} {us : List V} {bs : List Sl}, P e w us bs → Step w w' → P e w' us bs
  lay : ∀ {e : Exc} {w : Wd} {ws us : List V} {rs bs : List Sl}, P e w us bs → ws.length = rs.length → P e w (ws ++ us) (rs ++ bs)
  go : ∀ {e : Exc} {w0 w : Wd} {σ : L2.St} {env ts : List Sl} {vs us : List V} {bs : List Sl} {C : Addr} {d : Option Addr}, P e w0 us bs → Step w0 w → Rel K w σ env vs ts us bs → L env → cm e.cls = some C → ExcAt K w.H d e → (∀ x, d = some x → w0.H x = none) → E σ (.ref C) d w.H
/-- a def's own: what leaves, leaves the def -/
abbrev ctxF (K : PySem.W.Frag) (cm : Str → Option Addr) (E : XK) : Ctx where
  K := K
  cm := cm
  E := fun _ => E
  L := fun _ => True
  P := fun e w _ _ => ∀ C d H', cm e.cls = some C → ExcAt K H' d e → Kp (· ∈ w.O) w.H H' → (∀ x, d = some x → w.H x = none) → E (.ref C) d H'
  step := fun x s C d H' hc he k fr => x C d H' hc he (kpThen s.kp k s.own) fun y hy => s.kp.live y (fr y hy)
  lay := fun x _ => x
  go := fun p s _ _ hc he fr => p _ _ _ hc he s.kp fr
/-- what leaves is wished for -/
def XOk {β : Type} (Γ : Ctx) (o : R β) (w : Wd) (us : List V) (bs : List Sl) : Prop := ∀ e, o = .exc e → Γ.P e w us bs
section
variable {Γ : Ctx} {β : Type} {m : R β} {env ts : List Sl} {t u : TE} {i : Nat}
theorem XOk.step {o : R β} {w w' : Wd} {us : List V} {bs : List Sl} (x : XOk Γ o w us bs) (s : Step w w') : XOk Γ o w' us bs := fun e h => Γ.step (x e h) s
theorem XOk.lay {o : R β} {w : Wd} {ws us : List V} {rs bs : List Sl} (x : XOk Γ o w us bs) (l : ws.length = rs.length) : XOk Γ o w (ws ++ us) (rs ++ bs) := fun e h => Γ.lay (x e h) l
def EV (Γ : Ctx) {β : Type} (t : TE) (env ts : List Sl) (m : R β) (Φ : Sl → List Sl → R β → Prop) : Prop :=
  ∀ (o : R β), m = o → o ≠ .stuck → ∀ (σ : L2.St) (w : Wd) (vs us : List V) (bs : List Sl) (Q : VK), Rel Γ.K w σ env vs ts us bs → XOk Γ o w us bs →
    (∀ r env' m' v w', Φ r env' m' → m' = o → Rel Γ.K w' σ env' (v :: vs) (r :: ts) us bs → Step w w' → Q v w'.H) → t σ w.H Q
/-- args: in order; at hand they lie reversed -/
def EA (Γ : Ctx) {β : Type} (t : TA) (env ts : List Sl) (m : R β) (Φ : List Sl → List Sl → R β → Prop) : Prop :=
  ∀ (o : R β), m = o → o ≠ .stuck → ∀ (σ : L2.St) (w : Wd) (vs us : List V) (bs : List Sl) (Q : List V → Hp → Prop), Rel Γ.K w σ env vs ts us bs → XOk Γ o w us bs →
    (∀ rs env' m' ws w', Φ rs env' m' → m' = o → Rel Γ.K w' σ env' (ws.reverse ++ vs) (rs.reverse ++ ts) us bs → ws.length = rs.length → Step w w' → Q ws w'.H) → t σ w.H Q
def TV (Γ : Ctx) {β : Type} (t : TT) (env ts : List Sl) (m : R β) (Φ : Bool → List Sl → R β → Prop) : Prop :=
  ∀ (o : R β), m = o → o ≠ .stuck → ∀ (σ : L2.St) (w : Wd) (vs us : List V) (bs : List Sl) (Q : Bool → Hp → Prop), Rel Γ.K w σ env vs ts us bs → XOk Γ o w us bs →
    (∀ b env' m' w', Φ b env' m' → m' = o → Rel Γ.K w' σ env' vs ts us bs → Step w w' → Q b w'.H) → t σ w.H Q
def OpK (Γ : Ctx) {β : Type} (r : R2) (r1 r2 : Sl) (env ts : List Sl) (m : R β) (Φ : Sl → List Sl → R β → Prop) : Prop :=
  ∀ (o : R β), m = o → o ≠ .stuck → ∀ (σ : L2.St) (w : Wd) (vs us : List V) (bs : List Sl) (x y : V) (Q : VK), Rel Γ.K w σ env (y :: x :: vs) (r2 :: r1 :: ts) us bs → XOk Γ o w us bs →
    (∀ r env' m' v w', Φ r env' m' → m' = o → Rel Γ.K w' σ env' (v :: vs) (r :: ts) us bs → Step w w' → Q v w'.H) → r x y w.H Q
def UnK (Γ : Ctx) {β : Type} (q : V → Hp → VK → Prop) (r1 : Sl) (env ts : List Sl) (m : R β) (Φ : Sl → List Sl → R β → Prop) : Prop :=
  ∀ (o : R β), m = o → o ≠ .stuck → ∀ (σ : L2.St) (w : Wd) (vs us : List V) (bs : List Sl) (x : V) (Q : VK), Rel Γ.K w σ env (x :: vs) (r1 :: ts) us bs → XOk Γ o w us bs →
    (∀ r env' m' v w', Φ r env' m' → m' = o → Rel Γ.K w' σ env' (v :: vs) (r :: ts) us bs → Step w w' → Q v w'.H) → q x w.H Q
def CaK (Γ : Ctx) {β : Type} (q : List V → Hp → VK → Prop) (rs : List Sl) (env ts : List Sl) (m : R β) (Φ : Sl → List Sl → R β → Prop) : Prop :=
  ∀ (o : R β), m = o → o ≠ .stuck → ∀ (σ : L2.St) (w : Wd) (vs us ws : List V) (bs : List Sl) (Q : VK), Rel Γ.K w σ env (ws.reverse ++ vs) (rs.reverse ++ ts) us bs → ws.length = rs.length → XOk Γ o w us bs →
    (∀ r env' m' v w', Φ r env' m' → m' = o → Rel Γ.K w' σ env' (v :: vs) (r :: ts) us bs → Step w w' → Q v w'.H) → q ws w.H Q
variable {Φ : Sl → List Sl → R β → Prop} {Ψ : Bool → List Sl → R β → Prop} {Ω : List Sl → List Sl → R β → Prop}
/-! values by their rules, without the world -/
def OpS {α : Type} (K : PySem.W.Frag) (r : R2) (r1 r2 : Sl) (g : R α) (md : α → Sl) : Prop :=
  ∀ {H : Hp} {Sh : Addr → Prop} {x y : V} {F1 F2 : List Addr} {a : α} {Q : VK}, SlR K H Sh x r1 F1 → SlR K H Sh y r2 F2 → g = .ok a → (∀ v H', Kp Non H H' → Res K H H' v (md a) → Q v H') → r x y H Q
def UnS {α : Type} (K : PySem.W.Frag) (q : V → Hp → VK → Prop) (r1 : Sl) (g : R α) (md : α → Sl) : Prop :=
  ∀ {H : Hp} {Sh : Addr → Prop} {x : V} {F1 : List Addr} {a : α} {Q : VK}, SlR K H Sh x r1 F1 → g = .ok a → (∀ v H', Kp Non H H' → Res K H H' v (md a) → Q v H') → q x H Q
theorem opK {α : Type} {r : R2} {r1 r2 : Sl} {g : R α} {md : α → Sl} {k : α → R β} (h : OpS Γ.K r r1 r2 g md) (hm : m = g.bind k) (z : ∀ a, Φ (md a) env (k a)) (no : ∀ e, g ≠ .exc e) : OpK Γ r r1 r2 env ts m Φ := by
  intro o e1 e2 σ w vs us bs x y Q R X kk
  cases hg : g with
  | stuck => rw [hm, hg] at e1; exact absurd e1.symm e2
  | exc e => exact absurd hg (no e)
  | ok a =>
    rw [hm, hg] at e1
    obtain ⟨F2, s2⟩ := R.top
    obtain ⟨F1, s1⟩ := R.under
    refine h s1 s2 hg fun v H' kp rs => ?_
    obtain ⟨w', rfl, R', st⟩ := Rel.res (ws := [y, x]) (rs := [r2, r1]) R rfl kp rs
    exact kk _ _ _ v w' (z a) e1 R' st
theorem unK {α : Type} {q : V → Hp → VK → Prop} {r1 : Sl} {g : R α} {md : α → Sl} {k : α → R β} (h : UnS Γ.K q r1 g md) (hm : m = g.bind k) (z : ∀ a, Φ (md a) env (k a)) (no : ∀ e, g ≠ .exc e) : UnK Γ q r1 env ts m Φ := by
  intro o e1 e2 σ w vs us bs x Q R X kk
  cases hg : g with
  | stuck => rw [hm, hg] at e1; exact absurd e1.symm e2
  | exc e => exact absurd hg (no e)
  | ok a =>
    rw [hm, hg] at e1
    obtain ⟨F1, s1⟩ := R.top
    refine h s1 hg fun v H' kp rs => ?_
    obtain ⟨w', rfl, R', st⟩ := Rel.res (ws := [x]) (rs := [r1]) R rfl kp rs
    exact kk _ _ _ v w' (z a) e1 R' st
/-- a call by one argument -/
theorem caK1 {q : List V → Hp → VK → Prop} {r1 : Sl} (h : UnK Γ (fun x => q [x]) r1 env ts m Φ) : CaK Γ q [r1] env ts m Φ := by
  intro o e1 e2 σ w vs us ws bs Q R el X kk
  match ws, el with
  | [x], _ => exact h o e1 e2 σ w vs us bs x Q R X kk
theorem caK2 {q : List V → Hp → VK → Prop} {r1 r2 : Sl} (h : OpK Γ (fun x y => q [x, y]) r1 r2 env ts m Φ) : CaK Γ q [r1, r2] env ts m Φ := by
  intro o e1 e2 σ w vs us ws bs Q R el X kk
  match ws, el with
  | [x, y], _ => exact h o e1 e2 σ w vs us bs x y Q R X kk
/-! expressions -/
def look : Sl → Sl
  | .own d => .bor d
  | .iow _ d => .bor d
  | .itT _ _ _ => .no
  | .itL _ _ _ => .no
  | .itS _ _ _ => .no
  | .itP _ _ _ => .no
  | .fdo _ => .no
  | .fdw _ _ => .no
  | r => r
theorem SlR.look {K : PySem.W.Frag} {H : Hp} {Sh : Addr → Prop} {v : V} {r : Sl} {F : List Addr} (h : SlR K H Sh v r F) : SlR K H Sh v (look r) [] := by
  cases r with
  | no => rfl
  | imm d => exact ⟨rfl, h.2⟩
  | shr d => exact ⟨rfl, h.2⟩
  | own d => exact ⟨rfl, h.1.shd h.1.live, h.2⟩
  | iow a d => exact ⟨rfl, h.1.1.shd h.1.1.live, h.1.2⟩
  | bor d => exact ⟨rfl, h.2⟩
  | itT a xs ds => rfl
  | itL a xs ds => rfl
  | itS a xs ds => rfl
  | itP a xs ds => rfl
  | exc a C d e => exact ⟨rfl, h.2⟩
  | fdo d => rfl
  | fdw a d => rfl
theorem Rel.push0 {K : PySem.W.Frag} {w : Wd} {σ : L2.St} {env : List Sl} {vs us : List V} {ts bs : List Sl} {v : V} {r : Sl} (R : Rel K w σ env vs ts us bs) (h : SlR K w.H w.Sh v r []) : Rel K w σ env (v :: vs) (r :: ts) us bs := by
  obtain ⟨F, G, B, h1, h2, h3, e⟩ := R.ex
  exact ⟨⟨F, G, B, h1, .cons (F := []) h h2, h3, e⟩, R.nd, R.out, R.lv, R.kl⟩
theorem ev_look {r : Sl} (e : env[i]? = some r) (n : r ≠ .no) (h : Φ (look r) env m) : EV Γ (tVar i) env ts m Φ := by
  intro o e1 e2 σ w vs us bs Q R X kk
  obtain ⟨F, G, B, h1, h2, h3, eO⟩ := R.ex
  obtain ⟨ov, F1, F2, F3, es, hs, _, _⟩ := h1.split e
  rcases hs with ⟨z, _⟩ | ⟨v, rfl, hs⟩
  · exact absurd z n
  · exact ⟨v, es, kk _ _ _ v w h e1 (R.push0 hs.look) Step.refl⟩
theorem ev_imm {d : PyData} (e : env[i]? = some (.imm d)) (h : Φ (.imm d) env m) : EV Γ (tVar i) env ts m Φ := ev_look e (fun z => nomatch z) h
theorem ev_shr {d : PyData} (e : env[i]? = some (.shr d)) (h : Φ (.shr d) env m) : EV Γ (tVar i) env ts m Φ := ev_look e (fun z => nomatch z) h
theorem ev_own {d : PyData} (e : env[i]? = some (.own d)) (h : Φ (.bor d) env m) : EV Γ (tVar i) env ts m Φ := ev_look e (fun z => nomatch z) h
theorem ev_iow {a : V} {d : PyData} (e : env[i]? = some (.iow a d)) (h : Φ (.bor d) env m) : EV Γ (tVar i) env ts m Φ := ev_look e (fun z => nomatch z) h
theorem ev_bor {d : PyData} (e : env[i]? = some (.bor d)) (h : Φ (.bor d) env m) : EV Γ (tVar i) env ts m Φ := ev_look e (fun z => nomatch z) h
theorem setSome {σ : L2.St} {ov : Option V} (e : σ[i]? = some ov) : σ.set i ov = σ := by
  obtain ⟨h, q⟩ := List.getElem?_eq_some_iff.mp e
  rw [← q]; exact List.set_getElem_self h
/-- a list of one's own is taken out of its slot -/
theorem ev_move {d : PyData} {env' : List Sl} (e : env[i]? = some (.own d)) (en : env.set i .no = env') (h : Φ (.own d) env' m) : EV Γ (tVar i) env ts m Φ := by
  intro o e1 e2 σ w vs us bs Q R X kk
  subst en
  obtain ⟨F, G, B, h1, h2, h3, eO⟩ := R.ex
  obtain ⟨ov, F1, F2, F3, es, hs, eF, go⟩ := h1.split e
  rcases hs with ⟨z, _⟩ | ⟨v, rfl, hs⟩
  · cases z
  · have s1 := go (some v) .no [] (Tr.non (Sh := w.Sh) Kp.refl) (.inl ⟨rfl, rfl⟩)
    rw [mapId, setSome es] at s1
    have p : List.Perm w.O ((F1 ++ ([] ++ F3)) ++ ((F2 ++ G) ++ B)) := by
      rw [eO, eF]
      refine List.perm_iff_count.mpr fun a => ?_
      simp only [List.count_append, List.count_nil]
      omega
    refine ⟨v, es, kk _ _ _ v ⟨w.H, w.Sh, (F1 ++ ([] ++ F3)) ++ ((F2 ++ G) ++ B)⟩ h e1 ⟨⟨_, F2 ++ G, B, s1, .cons hs h2, h3, rfl⟩, p.nodup_iff.mp R.nd, fun a ha => R.out a (p.mem_iff.mpr ha), R.lv, R.kl⟩ ⟨Kp.refl, fun a ha => .inl (p.mem_iff.mpr ha), fun _ z => z, fun _ z => .inl z⟩⟩
theorem ev_c {v : V} {d : PyData} (hd : ∀ H, TD Γ.K H v d) (z : szD d) (h : Φ (.imm d) env m) : EV Γ (tC v) env ts m Φ := by
  intro o e1 e2 σ w vs us bs Q R X kk
  exact kk _ _ _ v w h e1 (R.push0 ⟨rfl, hd _, z⟩) Step.refl
theorem ev_int {j : Int} (h : Φ (.imm (.int j)) env m) : EV Γ (tC (.int j)) env ts m Φ := ev_c (fun _ => .int j) trivial h
theorem ev_bl {b : Bool} (h : Φ (.imm (.bool b)) env m) : EV Γ (tC (.bl b)) env ts m Φ := ev_c (fun _ => .bl b) trivial h
theorem ev_non (h : Φ (.imm .none) env m) : EV Γ (tC .non) env ts m Φ := ev_c (fun _ => .non) trivial h
theorem ev_str {x : Str} (z : x.length ≤ sizeLine) (h : Φ (.imm (.str x)) env m) : EV Γ (tC (.str x)) env ts m Φ := ev_c (fun _ => .str x) z h
theorem ev_op {q : R2} (h : EV Γ t env ts m fun r1 env1 m1 => EV Γ u env1 (r1 :: ts) m1 fun r2 env2 m2 => OpK Γ q r1 r2 env2 ts m2 Φ) : EV Γ (tOp q t u) env ts m Φ := by
  intro o e1 e2 σ w vs us bs Q R X kk
  refine h o e1 e2 σ w vs us bs _ R X fun r1 env1 m1 x w1 h1 em1 R1 s1 => ?_
  refine h1 o em1 e2 σ w1 (x :: vs) us bs _ R1 (X.step s1) fun r2 env2 m2 y w2 h2 em2 R2 s2 => ?_
  exact h2 o em2 e2 σ w2 vs us bs x y Q R2 ((X.step s1).step s2) fun r env' m' v w' hp em R' s' => kk r env' m' v w' hp em R' ((s1.trans s2).trans s')
theorem ev_un {q : V → Hp → VK → Prop} (h : EV Γ t env ts m fun r1 env1 m1 => UnK Γ q r1 env1 ts m1 Φ) : EV Γ (tUn q t) env ts m Φ := by
  intro o e1 e2 σ w vs us bs Q R X kk
  refine h o e1 e2 σ w vs us bs _ R X fun r1 env1 m1 x w1 h1 em1 R1 s1 => ?_
  exact h1 o em1 e2 σ w1 vs us bs x Q R1 (X.step s1) fun r env' m' v w' hp em R' s' => kk r env' m' v w' hp em R' (s1.trans s')
theorem ea_nil (h : Ω [] env m) : EA Γ tNil env ts m Ω := by
  intro o e1 e2 σ w vs us bs Q R X kk
  exact kk [] env m [] w h e1 R rfl Step.refl
theorem ea_cons {ta : TA} (h : EV Γ t env ts m fun r env1 m1 => EA Γ ta env1 (r :: ts) m1 fun rs env2 m2 => Ω (r :: rs) env2 m2) : EA Γ (tCons t ta) env ts m Ω := by
  intro o e1 e2 σ w vs us bs Q R X kk
  refine h o e1 e2 σ w vs us bs _ R X fun r1 env1 m1 x w1 h1 em1 R1 s1 => ?_
  refine h1 o em1 e2 σ w1 (x :: vs) us bs _ R1 (X.step s1) fun rs env2 m2 ws w2 h2 em2 R2 el s2 => ?_
  refine kk (r1 :: rs) env2 m2 (x :: ws) w2 h2 em2 ?_ (by simp [el]) (s1.trans s2)
  rw [List.reverse_cons, List.reverse_cons, List.append_assoc, List.append_assoc]
  exact R2
theorem ev_cb {q : List V → Hp → VK → Prop} {ta : TA} (h : EA Γ ta env ts m fun rs env1 m1 => CaK Γ q rs env1 ts m1 Φ) : EV Γ (tCB q ta) env ts m Φ := by
  intro o e1 e2 σ w vs us bs Q R X kk
  refine h o e1 e2 σ w vs us bs _ R X fun rs env1 m1 ws w1 h1 em1 R1 el s1 => ?_
  exact h1 o em1 e2 σ w1 vs us ws bs Q R1 el (X.step s1) fun r env' m' v w' hp em R' s' => kk r env' m' v w' hp em R' (s1.trans s')
theorem ev_call {sp : Sp} {dvs : List V} {E : XK} {ta : TA} (h : EA Γ ta env ts m fun rs env1 m1 => CaK Γ (fun vs H Q => sp (vs ++ dvs) H Q E) rs env1 ts m1 Φ) : EV Γ (tCall sp dvs E ta) env ts m Φ := ev_cb h
/-! tuples and lists laid -/
theorem Tms.imms : ∀ {K : PySem.W.Frag} {H : Hp} {Sh : Addr → Prop} {ws : List V} {ds : List PyData} {G : List Addr}, Tms K H Sh ws (ds.map Sl.imm) G → TDs K H ws ds ∧ szAll ds
  | _, _, _, _, [], _, .nil => ⟨.nil, trivial⟩
  | _, _, _, _, d :: ds, _, .cons h r => by
    obtain ⟨h1, h2⟩ := Tms.imms (ds := ds) r
    exact ⟨.cons h.2.1 h1, h.2.2, h2⟩
theorem Tms.rev : ∀ {K : PySem.W.Frag} {H : Hp} {Sh : Addr → Prop} {ws : List V} {rs : List Sl} {A : List Addr}, Tms K H Sh ws rs A → ∀ {ws' : List V} {rs' : List Sl} {A' : List Addr}, Tms K H Sh ws' rs' A' → ∃ B, Tms K H Sh (ws.reverse ++ ws') (rs.reverse ++ rs') B ∧ List.Perm B (A ++ A')
  | _, _, _, _, _, _, .nil, _, _, _, q => ⟨_, q, List.Perm.refl _⟩
  | _, _, _, v :: vs, r :: rs, _, .cons (F := F) (G := G) h t, ws', rs', A', q => by
    obtain ⟨B, h1, h2⟩ := Tms.rev t (Tms.cons h q)
    rw [List.reverse_cons, List.reverse_cons, List.append_assoc, List.append_assoc]
    refine ⟨B, h1, h2.trans ?_⟩
    refine List.perm_iff_count.mpr fun a => ?_
    simp only [List.count_append]
    omega
theorem Tms.unrev {K : PySem.W.Frag} {H : Hp} {Sh : Addr → Prop} {ws : List V} {rs : List Sl} {A : List Addr} (h : Tms K H Sh ws.reverse rs.reverse A) : ∃ B, Tms K H Sh ws rs B ∧ List.Perm B A := by
  obtain ⟨B, h1, h2⟩ := h.rev .nil
  rw [List.reverse_reverse, List.reverse_reverse, List.append_nil, List.append_nil] at h1
  rw [List.append_nil] at h2
  exact ⟨B, h1, h2⟩
/-- a tuple of such things -/
theorem ev_tupI {ta : TA} (h : EA Γ ta env ts m fun rs env1 m1 => ∃ ds : List PyData, rs = ds.map Sl.imm ∧ ds.length ≤ 1000 ∧ Φ (.imm (.tuple ds)) env1 m1) : EV Γ (tTupG ta) env ts m Φ := by
  intro o e1 e2 σ w vs us bs Q R X kk
  refine h o e1 e2 σ w vs us bs _ R X fun rs env1 m1 ws w1 ⟨ds, er, hl, h1⟩ em1 R1 el s1 => ?_
  subst er
  have el2 : ws.length = ds.length := by rw [el, List.length_map]
  refine ⟨Nat.le_of_lt (small1000 (by omega)), fun p H' k np hp => ?_⟩
  obtain ⟨w', rfl, R', st⟩ := Rel.take (v := .ref p) (r := .imm (.tuple ds)) R1 (by simp [el2]) k (fun A ht => by
    obtain ⟨B, hb, _⟩ := ht.unrev
    obtain ⟨t1, t2⟩ := hb.imms
    exact ⟨[], ⟨rfl, .tup (.of hp) (t1.kp k), Nat.le_of_lt (small1000 hl), t2⟩, List.nodup_nil, fun _ q => (List.not_mem_nil q).elim⟩)
  exact kk _ _ _ _ w' h1 em1 R' (s1.trans st)
/-- items of one's own, or plain -/
inductive OwnOf : Sl → PyData → Prop
  | imm (d : PyData) : OwnOf (.imm d) d
  | own (d : PyData) : OwnOf (.own d) d
inductive OwnOfs : List Sl → List PyData → Prop
  | nil : OwnOfs [] []
  | cons {r : Sl} {d : PyData} {rs : List Sl} {ds : List PyData} : OwnOf r d → OwnOfs rs ds → OwnOfs (r :: rs) (d :: ds)
theorem Tms.owns : ∀ {K : PySem.W.Frag} {H : Hp} {Sh : Addr → Prop} {ws : List V} {rs : List Sl} {ds : List PyData} {G : List Addr}, Tms K H Sh ws rs G → OwnOfs rs ds → G.Nodup → Owns K H ws ds G ∧ szAll ds
  | _, _, _, _, _, _, _, .nil, .nil, _ => ⟨.nil, trivial⟩
  | _, _, _, _, _, _, _, .cons h t, .cons r q, n => by
    obtain ⟨n1, n2, n3⟩ := List.nodup_append.mp n
    obtain ⟨h1, h2⟩ := t.owns q n2
    cases r with
    | imm d => 
      obtain ⟨e, h3, h4⟩ := h
      subst e
      exact ⟨.cons (.leaf h3) h1 (fun _ z => (List.not_mem_nil z).elim), h4, h2⟩
    | own d => exact ⟨.cons h.1 h1 (fun a ha hb => n3 a ha a hb rfl), h.2, h2⟩
theorem OwnOfs.len {rs : List Sl} {ds : List PyData} (h : OwnOfs rs ds) : rs.length = ds.length := by
  induction h with
  | nil => rfl
  | cons _ _ ih => simp [ih]
theorem Rel.ndTop {K : PySem.W.Frag} {w : Wd} {σ : L2.St} {env : List Sl} {vs us ws : List V} {ts bs rs : List Sl} (R : Rel K w σ env (ws ++ vs) (rs ++ ts) us bs) (el : ws.length = rs.length) {A : List Addr} (h : True) : True := trivial
/-- a change of what is at hand, the footprints' freedom said -/
theorem Rel.takeN {K : PySem.W.Frag} {H' : Hp} {w : Wd} {σ : L2.St} {env : List Sl} {vs us ws : List V} {ts bs rs : List Sl} {v : V} {r : Sl} (R : Rel K w σ env (ws ++ vs) (rs ++ ts) us bs) (el : ws.length = rs.length) (k : Kp Non w.H H')
    (h : ∀ A, A.Nodup → Tms K w.H w.Sh ws rs A → ∃ F', SlR K H' w.Sh v r F' ∧ F'.Nodup ∧ ∀ a ∈ F', a ∈ A ∨ w.H a = none) :
    ∃ w', w'.H = H' ∧ Rel K w' σ env (v :: vs) (r :: ts) us bs ∧ Step w w' := by
  obtain ⟨F, G, B, h1, h2, h3, e⟩ := R.ex
  obtain ⟨A0, G', eG, ha, g2⟩ := h2.split el
  have nd0 := R.nd
  rw [e, eG] at nd0
  have nA : A0.Nodup := (List.nodup_append.mp (List.nodup_append.mp (List.nodup_append.mp nd0).2.1).1).1
  -- the same rel, with the footprints as they were split
  obtain ⟨F', hs, nd, hf⟩ := h A0 nA ha
  have hlive := R.live
  have n1 : (F ++ (A0 ++ (G' ++ B))).Nodup := by rw [← List.append_assoc A0]; exact nd0
  have nd1 : (F ++ (F' ++ (G' ++ B))).Nodup := by
    have n2 : (F ++ (G' ++ B)).Nodup := nodupSub (B' := []) n1 List.nodup_nil (fun _ z => (List.not_mem_nil z).elim)
    refine nodupNew n2 nd fun x hx hm => ?_
    rcases hf x hx with z | z
    · obtain ⟨q1, q2, q3⟩ := List.nodup_append.mp n1
      obtain ⟨q4, q5, q6⟩ := List.nodup_append.mp q2
      rcases List.mem_append.mp hm with y | y
      · exact q3 x y x (List.mem_append_left _ z) rfl
      · exact q6 x z x y rfl
    · refine hlive x ?_ z
      rw [e, eG]
      simp only [List.mem_append] at hm ⊢
      rcases hm with y | y | y
      · exact .inl y
      · exact .inr (.inl (.inr y))
      · exact .inr (.inr y)
  have cases3 : ∀ a ∈ F ++ ((F' ++ G') ++ B), a ∈ w.O ∨ (a ∈ F' ∧ w.H a = none) := fun a m => by
    rw [e, eG]
    simp only [List.mem_append] at m ⊢
    rcases m with y | (y | y) | y
    · exact .inl (.inl y)
    · rcases hf a y with z | z
      · exact .inl (.inr (.inl (.inl z)))
      · exact .inr ⟨y, z⟩
    · exact .inl (.inr (.inl (.inr y)))
    · exact .inl (.inr (.inr y))
  refine ⟨⟨H', w.Sh, F ++ ((F' ++ G') ++ B)⟩, rfl, ⟨⟨F, F' ++ G', B, ?_, .cons hs ?_, ?_, rfl⟩, ?_, ?_, fun a h z => R.lv a h (k.live a z), R.kl⟩, ⟨k.non, ?_, fun _ h => h, fun _ h => .inl h⟩⟩
  · have := h1.tr (Tr.non (Sh := w.Sh) k); rwa [mapId] at this
  · have := g2.tr (Tr.non (Sh := w.Sh) k); rwa [mapId] at this
  · have := h3.tr (Tr.non (Sh := w.Sh) k); rwa [mapId] at this
  · rw [List.append_assoc]; exact nd1
  · intro a m
    rcases cases3 a m with z | ⟨_, z⟩
    · exact R.out a z
    · exact fun q => R.lv a q z
  · intro a m
    rcases cases3 a m with z | ⟨_, z⟩
    · exact .inl z
    · exact .inr z
theorem ev_tupO {ta : TA} (h : EA Γ ta env ts m fun rs env1 m1 => ∃ ds : List PyData, OwnOfs rs ds ∧ ds.length ≤ 1000 ∧ Φ (.own (.tuple ds)) env1 m1) : EV Γ (tTupG ta) env ts m Φ := by
  intro o e1 e2 σ w vs us bs Q R X kk
  refine h o e1 e2 σ w vs us bs _ R X fun rs env1 m1 ws w1 ⟨ds, er, hl, h1⟩ em1 R1 el s1 => ?_
  have el2 : ws.length = ds.length := by rw [el, er.len]
  refine ⟨Nat.le_of_lt (small1000 (by omega)), fun p H' k np hp => ?_⟩
  obtain ⟨w', rfl, R', st⟩ := Rel.takeN (v := .ref p) (r := .own (.tuple ds)) R1 (by simp [el]) k (fun A nA ht => by
    obtain ⟨B, hb, pm⟩ := ht.unrev
    obtain ⟨t1, t2⟩ := hb.owns er (pm.nodup_iff.mpr nA)
    exact ⟨B, ⟨.tup (.of hp) (Owns.kp k t1 (fun _ _ z => z)), Nat.le_of_lt (small1000 hl), t2⟩, pm.nodup_iff.mpr nA, fun a ha => .inl (pm.mem_iff.mp ha)⟩)
  exact kk _ _ _ _ w' h1 em1 R' (s1.trans st)
theorem ev_lstO {ta : TA} (h : EA Γ ta env ts m fun rs env1 m1 => ∃ ds : List PyData, OwnOfs rs ds ∧ ds.length ≤ 1000 ∧ Φ (.own (.list ds)) env1 m1) : EV Γ (tLstG ta) env ts m Φ := by
  intro o e1 e2 σ w vs us bs Q R X kk
  refine h o e1 e2 σ w vs us bs _ R X fun rs env1 m1 ws w1 ⟨ds, er, hl, h1⟩ em1 R1 el s1 => ?_
  have el2 : ws.length = ds.length := by rw [el, er.len]
  refine ⟨Nat.le_of_lt (small1000 (by omega)), fun p H' k np hp => ?_⟩
  obtain ⟨w', rfl, R', st⟩ := Rel.takeN (v := .ref p) (r := .own (.list ds)) R1 (by simp [el]) k (fun A nA ht => by
    obtain ⟨B, hb, pm⟩ := ht.unrev
    obtain ⟨t1, t2⟩ := hb.owns er (pm.nodup_iff.mpr nA)
    refine ⟨p :: B, ⟨.lst hp (Owns.kp k t1 (fun _ _ z => z)) (fun z => t1.live p z np), Nat.le_of_lt (small1000 hl), t2⟩, List.nodup_cons.mpr ⟨fun z => t1.live p z np, pm.nodup_iff.mpr nA⟩, fun a ha => ?_⟩
    rcases List.mem_cons.mp ha with z | z
    · exact .inr (z ▸ np)
    · exact .inl (pm.mem_iff.mp z))
  exact kk _ _ _ _ w' h1 em1 R' (s1.trans st)
/-- data of any kind in a tuple: read just now -/
inductive Dpn : Sl → PyData → Prop
  | of {r : Sl} {d : PyData} : SlD r d → Dpn r d
inductive Dpns : List Sl → List PyData → Prop
  | nil : Dpns [] []
  | cons {r : Sl} {d : PyData} {rs : List Sl} {ds : List PyData} : SlD r d → Dpns rs ds → Dpns (r :: rs) (d :: ds)
theorem Dpns.len {rs : List Sl} {ds : List PyData} (h : Dpns rs ds) : rs.length = ds.length := by
  induction h with
  | nil => rfl
  | cons _ _ ih => simp [ih]
theorem Tms.dps : ∀ {K : PySem.W.Frag} {H : Hp} {Sh : Addr → Prop} {ws : List V} {rs : List Sl} {ds : List PyData} {G : List Addr}, Tms K H Sh ws rs G → (∀ a, Sh a → H a ≠ none) → Dpns rs ds → Shds K H (fun a => H a ≠ none) ws ds ∧ szAll ds
  | _, _, _, _, _, _, _, .nil, _, .nil => ⟨.nil, trivial⟩
  | _, _, _, _, _, _, _, .cons h t, lv, .cons r q => by
    obtain ⟨h1, h2⟩ := t.dps lv q
    obtain ⟨h3, h4⟩ := h.bd r lv
    exact ⟨.cons h3 h1, h4, h2⟩
theorem ev_tupB {ta : TA} (h : EA Γ ta env ts m fun rs env1 m1 => ∃ ds : List PyData, Dpns rs ds ∧ ds.length ≤ 1000 ∧ Φ (.bor (.tuple ds)) env1 m1) : EV Γ (tTupG ta) env ts m Φ := by
  intro o e1 e2 σ w vs us bs Q R X kk
  refine h o e1 e2 σ w vs us bs _ R X fun rs env1 m1 ws w1 ⟨ds, er, hl, h1⟩ em1 R1 el s1 => ?_
  have el2 : ws.length = ds.length := by rw [el, er.len]
  refine ⟨Nat.le_of_lt (small1000 (by omega)), fun p H' k np hp => ?_⟩
  obtain ⟨w', rfl, R', st⟩ := Rel.take (v := .ref p) (r := .bor (.tuple ds)) R1 (by simp [el]) k (fun A ht => by
    obtain ⟨B, hb, pm⟩ := ht.unrev
    obtain ⟨t1, t2⟩ := hb.dps R1.lv er
    exact ⟨[], ⟨rfl, .tup (.of hp) ((t1.kp k (fun _ _ z => z)).mono fun a z q => z (k.live a q)), Nat.le_of_lt (small1000 hl), t2⟩, List.nodup_nil, fun _ q => (List.not_mem_nil q).elim⟩)
  exact kk _ _ _ _ w' h1 em1 R' (s1.trans st)
/-! tests -/
theorem tv_testB {tt : TE} (h : EV Γ tt env ts m fun r env1 m1 => ∃ b, r = .imm (.bool b) ∧ Ψ b env1 m1) : TV Γ (tB tt) env ts m Ψ := by
  intro o e1 e2 σ w vs us bs Q R X kk
  refine h o e1 e2 σ w vs us bs _ R X fun r1 env1 m1 x w1 ⟨b, er, h1⟩ em1 R1 s1 => ?_
  subst er
  have := R1.td.1.toBl
  subst this
  obtain ⟨w', ew, R', st⟩ := Rel.pops (ws := [V.bl b]) (rs := [.imm (.bool b)]) R1 rfl
  rw [← ew]
  exact ⟨b, rfl, kk b env1 m1 w' h1 em1 R' (s1.trans st)⟩
theorem tv_test {tt : TE} (h : EV Γ tt env ts m fun r env1 m1 => ∃ b, r = .imm (.bool b) ∧ Ψ b env1 m1) : TV Γ (tTest tt) env ts m Ψ := tv_testB h
theorem tv_not {tt : TT} (h : TV Γ tt env ts m fun b env1 m1 => Ψ (!b) env1 m1) : TV Γ (tNot tt) env ts m Ψ := by
  intro o e1 e2 σ w vs us bs Q R X kk
  exact h o e1 e2 σ w vs us bs _ R X fun b env1 m1 w1 h1 em1 R1 s1 => kk (!b) env1 m1 w1 h1 em1 R1 s1
/-- both parts, the second one without effect: joined -/
theorem tv_and {tt tu : TT} (h : TV Γ tt env ts m fun b env1 m1 => ∃ (mu : R Bool) (k : Bool → R β), m1 = R.bind (bif b then mu else .ok false) k ∧ TV Γ tu env1 ts mu (fun c env2 m2 => m2 = .ok c ∧ env2 = env1) ∧ ∀ c, Ψ c env1 (k c)) : TV Γ (tAnd tt tu) env ts m Ψ := by
  intro o e1 e2 σ w vs us bs Q R X kk
  refine h o e1 e2 σ w vs us bs _ R X fun b env1 m1 w1 ⟨mu, k, em, hu, hk⟩ em1 R1 s1 => ?_
  cases b with
  | false => exact kk false env1 _ w1 (hk false) (by rw [← em1, em]; rfl) R1 s1
  | true =>
    have X1 := X.step s1
    have em2 : mu.bind k = o := by rw [← em1, em]; rfl
    refine hu mu rfl (fun z => by rw [z] at em2; exact e2 em2.symm) σ w1 vs us bs _ R1 (fun e he => X1 e (by rw [← em2, he]; rfl)) fun c env2 m2 w2 ⟨h2, h3⟩ em3 R2 s2 => ?_
    subst h3
    refine kk c env2 _ w2 (hk c) ?_ R2 (s1.trans s2)
    rw [← em2, ← em3, h2]; rfl
theorem tv_or {tt tu : TT} (h : TV Γ tt env ts m fun b env1 m1 => ∃ (mu : R Bool) (k : Bool → R β), m1 = R.bind (bif b then .ok true else mu) k ∧ TV Γ tu env1 ts mu (fun c env2 m2 => m2 = .ok c ∧ env2 = env1) ∧ ∀ c, Ψ c env1 (k c)) : TV Γ (tOr tt tu) env ts m Ψ := by
  intro o e1 e2 σ w vs us bs Q R X kk
  refine h o e1 e2 σ w vs us bs _ R X fun b env1 m1 w1 ⟨mu, k, em, hu, hk⟩ em1 R1 s1 => ?_
  cases b with
  | true => exact kk true env1 _ w1 (hk true) (by rw [← em1, em]; rfl) R1 s1
  | false =>
    have X1 := X.step s1
    have em2 : mu.bind k = o := by rw [← em1, em]; rfl
    refine hu mu rfl (fun z => by rw [z] at em2; exact e2 em2.symm) σ w1 vs us bs _ R1 (fun e he => X1 e (by rw [← em2, he]; rfl)) fun c env2 m2 w2 ⟨h2, h3⟩ em3 R2 s2 => ?_
    subst h3
    refine kk c env2 _ w2 (hk c) ?_ R2 (s1.trans s2)
    rw [← em2, ← em3, h2]; rfl
/-- a test as a value: and, or, not -/
theorem ev_andV {tt tu : TE} (h : EV Γ tt env ts m fun r env1 m1 => ∃ b, r = .imm (.bool b) ∧ ∃ (mu : R Bool) (k : Bool → R β), m1 = R.bind (bif b then mu else .ok false) k ∧ EV Γ tu env1 ts mu (fun r2 env2 m2 => ∃ c, r2 = .imm (.bool c) ∧ m2 = .ok c ∧ env2 = env1) ∧ ∀ c, Φ (.imm (.bool c)) env1 (k c)) : EV Γ (tAndV tt tu) env ts m Φ := by
  intro o e1 e2 σ w vs us bs Q R X kk
  refine h o e1 e2 σ w vs us bs _ R X fun r1 env1 m1 x w1 ⟨b, er, mu, k, em, hu, hk⟩ em1 R1 s1 => ?_
  subst er
  have := R1.td.1.toBl
  subst this
  cases b with
  | false => exact ⟨false, rfl, kk _ env1 _ _ w1 (hk false) (by rw [← em1, em]; rfl) R1 s1⟩
  | true =>
    obtain ⟨w', ew, R', st⟩ := Rel.pops (ws := [V.bl true]) (rs := [.imm (.bool true)]) R1 rfl
    have X1 := X.step (s1.trans st)
    have em2 : mu.bind k = o := by rw [← em1, em]; rfl
    refine ⟨true, rfl, ?_⟩
    rw [← ew]
    refine hu mu rfl (fun z => by rw [z] at em2; exact e2 em2.symm) σ w' vs us bs _ R' (fun e he => X1 e (by rw [← em2, he]; rfl)) fun r2 env2 m2 y w2 ⟨c, h1, h2, h3⟩ em3 R2 s2 => ?_
    subst h1 h3
    refine kk _ env2 _ y w2 (hk c) ?_ R2 ((s1.trans st).trans s2)
    rw [← em2, ← em3, h2]; rfl
theorem ev_orV {tt tu : TE} (h : EV Γ tt env ts m fun r env1 m1 => ∃ b, r = .imm (.bool b) ∧ ∃ (mu : R Bool) (k : Bool → R β), m1 = R.bind (bif b then .ok true else mu) k ∧ EV Γ tu env1 ts mu (fun r2 env2 m2 => ∃ c, r2 = .imm (.bool c) ∧ m2 = .ok c ∧ env2 = env1) ∧ ∀ c, Φ (.imm (.bool c)) env1 (k c)) : EV Γ (tOrV tt tu) env ts m Φ := by
  intro o e1 e2 σ w vs us bs Q R X kk
  refine h o e1 e2 σ w vs us bs _ R X fun r1 env1 m1 x w1 ⟨b, er, mu, k, em, hu, hk⟩ em1 R1 s1 => ?_
  subst er
  have := R1.td.1.toBl
  subst this
  cases b with
  | true => exact ⟨true, rfl, kk _ env1 _ _ w1 (hk true) (by rw [← em1, em]; rfl) R1 s1⟩
  | false =>
    obtain ⟨w', ew, R', st⟩ := Rel.pops (ws := [V.bl false]) (rs := [.imm (.bool false)]) R1 rfl
    have X1 := X.step (s1.trans st)
    have em2 : mu.bind k = o := by rw [← em1, em]; rfl
    refine ⟨false, rfl, ?_⟩
    rw [← ew]
    refine hu mu rfl (fun z => by rw [z] at em2; exact e2 em2.symm) σ w' vs us bs _ R' (fun e he => X1 e (by rw [← em2, he]; rfl)) fun r2 env2 m2 y w2 ⟨c, h1, h2, h3⟩ em3 R2 s2 => ?_
    subst h1 h3
    refine kk _ env2 _ y w2 (hk c) ?_ R2 ((s1.trans st).trans s2)
    rw [← em2, ← em3, h2]; rfl
theorem ev_notV {tt : TE} (h : EV Γ tt env ts m fun r env1 m1 => ∃ b, r = .imm (.bool b) ∧ Φ (.imm (.bool (!b))) env1 m1) : EV Γ (tNotV tt) env ts m Φ := by
  intro o e1 e2 σ w vs us bs Q R X kk
  refine h o e1 e2 σ w vs us bs _ R X fun r1 env1 m1 x w1 ⟨b, er, hk⟩ em1 R1 s1 => ?_
  subst er
  have := R1.td.1.toBl
  subst this
  obtain ⟨w', ew, R', st⟩ := Rel.res (ws := [V.bl b]) (rs := [.imm (.bool b)]) (v := .bl (!b)) (r := .imm (.bool (!b))) R1 rfl Kp.refl (.imm (.bl _) trivial)
  rw [← ew]
  exact ⟨b, rfl, kk _ env1 _ _ w' hk em1 R' (s1.trans st)⟩
/-- a conditional expression of plain values, both ways without effect -/
theorem ev_if {tt : TT} {ta tb : TE} (h : TV Γ tt env ts m fun b env1 m1 => ∃ (ma mb : R PyData) (k : PyData → R β), m1 = R.bind (bif b then ma else mb) k ∧
      EV Γ ta env1 ts ma (fun r env2 m2 => ∃ d, r = .imm d ∧ m2 = .ok d ∧ env2 = env1) ∧ EV Γ tb env1 ts mb (fun r env2 m2 => ∃ d, r = .imm d ∧ m2 = .ok d ∧ env2 = env1) ∧ ∀ d, Φ (.imm d) env1 (k d)) : EV Γ (tIf tt ta tb) env ts m Φ := by
  intro o e1 e2 σ w vs us bs Q R X kk
  refine h o e1 e2 σ w vs us bs _ R X fun b env1 m1 w1 ⟨ma, mb, k, em, ha, hb, hk⟩ em1 R1 s1 => ?_
  have X1 := X.step s1
  cases b with
  | true =>
    have em2 : ma.bind k = o := by rw [← em1, em]; rfl
    refine ha ma rfl (fun z => by rw [z] at em2; exact e2 em2.symm) σ w1 vs us bs _ R1 (fun e he => X1 e (by rw [← em2, he]; rfl)) fun r2 env2 m2 y w2 ⟨c, h1, h2, h3⟩ em3 R2 s2 => ?_
    subst h1 h3
    refine kk _ env2 _ y w2 (hk c) ?_ R2 (s1.trans s2)
    rw [← em2, ← em3, h2]; rfl
  | false =>
    have em2 : mb.bind k = o := by rw [← em1, em]; rfl
    refine hb mb rfl (fun z => by rw [z] at em2; exact e2 em2.symm) σ w1 vs us bs _ R1 (fun e he => X1 e (by rw [← em2, he]; rfl)) fun r2 env2 m2 y w2 ⟨c, h1, h2, h3⟩ em3 R2 s2 => ?_
    subst h1 h3
    refine kk _ env2 _ y w2 (hk c) ?_ R2 (s1.trans s2)
    rw [← em2, ← em3, h2]; rfl
/-- .. whatever the values: the rest is told for both -/
theorem ev_ifC {tt : TT} {ta tb : TE} (h : TV Γ tt env ts m fun b env1 m1 => ∃ (ma mb : R β), m1 = (bif b then ma else mb) ∧ EV Γ ta env1 ts ma Φ ∧ EV Γ tb env1 ts mb Φ) : EV Γ (tIf tt ta tb) env ts m Φ := by
  intro o e1 e2 σ w vs us bs Q R X kk
  refine h o e1 e2 σ w vs us bs _ R X fun b env1 m1 w1 ⟨ma, mb, em, ha, hb⟩ em1 R1 s1 => ?_
  have X1 := X.step s1
  cases b with
  | true => exact ha o (by rw [← em1, em]; rfl) e2 σ w1 vs us bs _ R1 X1 fun r2 env2 m2 y w2 h1 em3 R2 s2 => kk _ env2 _ y w2 h1 em3 R2 (s1.trans s2)
  | false => exact hb o (by rw [← em1, em]; rfl) e2 σ w1 vs us bs _ R1 X1 fun r2 env2 m2 y w2 h1 em3 R2 s2 => kk _ env2 _ y w2 h1 em3 R2 (s1.trans s2)
end
end Vl
/-! Readings against functions: statements, loops, comprehensions. -/
namespace Vl
open PySem PySem.Spec PyProof.Rows L2 Hw
/-! ### functions over lists -/
section
variable {α σ ρ β : Type}
def foldR : List α → σ → (α → σ → R σ) → R σ
  | [], s, _ => .ok s
  | x :: xs, s, f => (f x s).bind fun s => foldR xs s f
inductive Ctl (σ ρ : Type) where
  | go (s : σ)
  | brk (s : σ)
  | ret (r : ρ)
def loopR : List α → σ → (α → σ → R (Ctl σ ρ)) → R (Sum σ ρ)
  | [], s, _ => .ok (.inl s)
  | x :: xs, s, f => (f x s).bind fun
    | .go s => loopR xs s f
    | .brk s => .ok (.inl s)
    | .ret r => .ok (.inr r)
def whileR : Nat → σ → (σ → R (Ctl σ ρ)) → R (Sum σ ρ)
  | 0, _, _ => .stuck
  | n + 1, s, f => (f s).bind fun
    | .go s => whileR n s f
    | .brk s => .ok (.inl s)
    | .ret r => .ok (.inr r)
/-- a comprehension: what is kept, and what goes on -/
def lcR : List α → σ → (α → σ → R (Option β × σ)) → R (List β × σ)
  | [], s, _ => .ok ([], s)
  | x :: xs, s, f => (f x s).bind fun p => (lcR xs p.2 f).bind fun q => .ok (p.1.toList ++ q.1, q.2)
def mapR : List α → (α → R β) → R (List β)
  | [], _ => .ok []
  | x :: xs, f => (f x).bind fun y => (mapR xs f).bind fun ys => .ok (y :: ys)
def fmapR : List α → (α → R (Option β)) → R (List β)
  | [], _ => .ok []
  | x :: xs, f => (f x).bind fun y => (fmapR xs f).bind fun ys => .ok (y.toList ++ ys)
def mapS : List α → σ → (α → σ → R (β × σ)) → R (List β × σ)
  | [], s, _ => .ok ([], s)
  | x :: xs, s, f => (f x s).bind fun p => (mapS xs p.2 f).bind fun q => .ok (p.1 :: q.1, q.2)
theorem mapR_lc (f : α → R β) : ∀ xs : List α, mapR xs f = (lcR xs () fun x _ => (f x).bind fun y => .ok (some y, ())).bind fun q => .ok q.1
  | [] => rfl
  | x :: xs => by
    unfold mapR lcR
    rw [mapR_lc f xs]
    dsimp only
    cases f x with
    | ok y =>
      simp only [R.bind_ok]
      cases lcR xs () (fun x _ => (f x).bind fun y => R.ok (some y, ())) <;> rfl
    | exc e => rfl
    | stuck => rfl
theorem fmapR_lc (f : α → R (Option β)) : ∀ xs : List α, fmapR xs f = (lcR xs () fun x _ => (f x).bind fun y => .ok (y, ())).bind fun q => .ok q.1
  | [] => rfl
  | x :: xs => by
    unfold fmapR lcR
    rw [fmapR_lc f xs]
    dsimp only
    cases f x with
    | ok y =>
      simp only [R.bind_ok]
      cases lcR xs () (fun x _ => (f x).bind fun y => R.ok (y, ())) <;> rfl
    | exc e => rfl
    | stuck => rfl
theorem mapS_lc (f : α → σ → R (β × σ)) : ∀ (xs : List α) (s : σ), mapS xs s f = lcR xs s fun x s => (f x s).bind fun p => .ok (some p.1, p.2)
  | [], s => rfl
  | x :: xs, s => by
    unfold mapS lcR
    dsimp only
    cases f x s with
    | ok y => simp only [R.bind_ok]; rw [mapS_lc f xs]; rfl
    | exc e => rfl
    | stuck => rfl
end
/-! ### forgetting -/
inductive LeS : Sl → Sl → Prop
  | same (r : Sl) : LeS r r
  | drop (r : Sl) : LeS r .no
inductive Les : List Sl → List Sl → Prop
  | nil : Les [] []
  | cons {r r' : Sl} {e e' : List Sl} : LeS r r' → Les e e' → Les (r :: e) (r' :: e')
theorem Les.refl : ∀ e : List Sl, Les e e
  | [] => .nil
  | r :: e => .cons (.same r) (Les.refl e)
section
variable {K : PySem.W.Frag} {w : Wd} {σ : L2.St} {env env' : List Sl} {vs us ws : List V} {ts bs rs : List Sl} {v : V} {r : Sl} {H H' : Hp} {Sh : Addr → Prop}
theorem Sls.les : ∀ {σ : L2.St} {env env' : List Sl} {F : List Addr}, Sls K H Sh σ env F → Les env env' → ∃ F', Sls K H Sh σ env' F' ∧ F'.Sublist F
  | _, _, _, _, .nil, .nil => ⟨[], .nil, List.Sublist.refl _⟩
  | _, _, _, _, .cons (F := F) (G := G) h q, .cons l e => by
    obtain ⟨G', h1, h2⟩ := Sls.les q e
    cases l with
    | same => exact ⟨F ++ G', .cons h h1, List.Sublist.append (List.Sublist.refl F) h2⟩
    | drop => exact ⟨[] ++ G', .cons (.inl ⟨rfl, rfl⟩) h1, List.Sublist.append (List.nil_sublist F) h2⟩
theorem Rel.les (R : Rel K w σ env vs ts us bs) (l : Les env env') : ∃ w', w'.H = w.H ∧ Rel K w' σ env' vs ts us bs ∧ Step w w' := by
  obtain ⟨F, G, B, h1, h2, h3, e⟩ := R.ex
  obtain ⟨F', h1, s⟩ := h1.les l
  have sub : (F' ++ (G ++ B)).Sublist w.O := by rw [e]; exact List.Sublist.append s (List.Sublist.refl _)
  exact ⟨⟨w.H, w.Sh, F' ++ (G ++ B)⟩, rfl, ⟨⟨F', G, B, h1, h2, h3, rfl⟩, sub.nodup R.nd, fun a m => R.out a (sub.subset m), R.lv, R.kl⟩, ⟨Kp.refl, fun a m => .inl (sub.subset m), fun _ h => h, fun _ h => .inl h⟩⟩
/-- what lies under is let go -/
theorem Rel.unbase (R : Rel K w σ env vs ts (ws ++ us) (rs ++ bs)) (el : ws.length = rs.length) : ∃ w', w'.H = w.H ∧ Rel K w' σ env vs ts us bs ∧ Step w w' := by
  obtain ⟨F, G, B, h1, h2, h3, e⟩ := R.ex
  obtain ⟨A, B', eB, _, h3⟩ := h3.split el
  have sub : (F ++ (G ++ B')).Sublist w.O := by
    rw [e, eB]
    exact List.Sublist.append (List.Sublist.refl _) (List.Sublist.append (List.Sublist.refl _) (List.sublist_append_right A B'))
  have kl : bs.map kill = bs := by
    have := R.kl
    rw [List.map_append] at this
    exact (List.append_inj this (List.length_map _)).2
  exact ⟨⟨w.H, w.Sh, F ++ (G ++ B')⟩, rfl, ⟨⟨F, G, B', h1, h2, h3, rfl⟩, sub.nodup R.nd, fun a m => R.out a (sub.subset m), R.lv, kl⟩, ⟨Kp.refl, fun a m => .inl (sub.subset m), fun _ h => h, fun _ h => .inl h⟩⟩
/-- what is at hand is laid under -/
theorem Rel.base (R : Rel K w σ env (ws ++ vs) (rs ++ ts) us bs) (el : ws.length = rs.length) (kl : rs.map kill = rs) : ∃ w', w'.H = w.H ∧ Rel K w' σ env vs ts (ws ++ us) (rs ++ bs) ∧ Step w w' := by
  obtain ⟨F, G, B, h1, h2, h3, e⟩ := R.ex
  obtain ⟨A, G', eG, ha, g2⟩ := h2.split el
  subst eG
  have app : ∀ {ws : List V} {rs : List Sl} {A : List Addr}, Tms K w.H w.Sh ws rs A → Tms K w.H w.Sh (ws ++ us) (rs ++ bs) (A ++ B) := by
    intro ws rs A h
    induction h with
    | nil => exact h3
    | cons h t ih => 
      rw [List.append_assoc]
      exact .cons h ih
  have p : List.Perm w.O (F ++ (G' ++ (A ++ B))) := by
    rw [e]
    refine List.perm_iff_count.mpr fun a => ?_
    simp only [List.count_append]
    omega
  exact ⟨⟨w.H, w.Sh, F ++ (G' ++ (A ++ B))⟩, rfl, ⟨⟨F, G', A ++ B, h1, g2, app ha, rfl⟩, p.nodup_iff.mp R.nd, fun a m => R.out a (p.mem_iff.mpr m), R.lv, by rw [List.map_append, kl, R.kl]⟩, ⟨Kp.refl, fun a m => .inl (p.mem_iff.mpr m), fun _ h => h, fun _ h => .inl h⟩⟩
/-- one's own list is not written any more -/
theorem Rel.freeze {j : Nat} {d : PyData} (R : Rel K w σ env vs ts us bs) (hj : env[j]? = some (.own d)) : ∃ w', w'.H = w.H ∧ Rel K w' σ (env.set j (.shr d)) vs ts us bs ∧ Step w w' := by
  obtain ⟨F, G, B, h1, h2, h3, e⟩ := R.ex
  obtain ⟨ov, F1, F2, F3, es, hs, eF, go⟩ := h1.split hj
  rcases hs with ⟨z, _⟩ | ⟨v, rfl, hs⟩
  · cases z
  have lv := R.live
  have nd := R.nd
  have out := R.out
  rw [e, eF] at nd
  let Sh' : Addr → Prop := fun a => w.Sh a ∨ a ∈ F2
  have i : ∀ a, w.Sh a → Sh' a := fun _ h => .inl h
  have s1 := go (some v) (.shr d) [] (Tr.shm i) (.inr ⟨v, rfl, rfl, hs.1.shd fun a h => .inr h, hs.2⟩)
  rw [mapId, setSome es] at s1
  have m2 : ∀ a ∈ F2, a ∈ w.O := fun a h => by rw [e, eF]; exact List.mem_append_left _ (List.mem_append_right _ (List.mem_append_left _ h))
  have p : List.Perm ((F1 ++ (F2 ++ F3)) ++ (G ++ B)) (F2 ++ ((F1 ++ ([] ++ F3)) ++ (G ++ B))) := by
    refine List.perm_iff_count.mpr fun a => ?_
    simp only [List.count_append, List.count_nil]
    omega
  have nd2 := p.nodup_iff.mp nd
  have sub : ∀ a ∈ (F1 ++ ([] ++ F3)) ++ (G ++ B), a ∈ w.O := fun a m => by rw [e, eF]; exact p.mem_iff.mpr (List.mem_append_right _ m)
  have h2' := h2.tr (Tr.shm i)
  have h3' := h3.tr (Tr.shm i)
  rw [mapId] at h2' h3'
  refine ⟨⟨w.H, Sh', (F1 ++ ([] ++ F3)) ++ (G ++ B)⟩, rfl, ⟨⟨_, G, B, s1, h2', h3', rfl⟩, (List.nodup_append.mp nd2).2.1, fun a m q => ?_, fun a q => ?_, R.kl⟩, ⟨Kp.refl, fun a m => .inl (sub a m), i, fun a q => ?_⟩⟩
  · rcases q with q | q
    · exact out a (sub a m) q
    · exact (List.nodup_append.mp nd2).2.2 a q a m rfl
  · rcases q with q | q
    · exact R.lv a q
    · exact lv a (m2 a q)
  · rcases q with q | q
    · exact .inl q
    · exact .inr (.inl (m2 a q))
/-- a list in a slot is written: what is at hand may go into it -/
theorem Rel.mut {j : Nat} {ds : List PyData} (R : Rel K w σ env ws rs us bs) {r0 : Sl} {mk : PyData → Sl} (hj : env[j]? = some r0) (om : OwnSl r0 (.list ds) mk) : ∃ a xs, σ[j]? = some (some (.ref a)) ∧ w.H a = some (.lst xs) ∧ ds.length ≤ sizeLine ∧ szAll ds ∧ xs.length = ds.length ∧
    ∀ (H' : Hp) (xs' : List V) (ds' : List PyData), Kp (At a) w.H H' → H' a = some (.lst xs') →
      (∀ Fi A, Owns K w.H xs ds Fi → Tms K w.H w.Sh ws rs A → (Fi ++ A).Nodup → a ∉ Fi ++ A → ∃ F', Owns K w.H xs' ds' F' ∧ F'.Nodup ∧ ∀ x ∈ F', x ∈ Fi ++ A) → ds'.length ≤ sizeLine → szAll ds' →
      ∃ w', w'.H = H' ∧ Rel K w' σ ((env.map kill).set j (mk (.list ds'))) [] [] us bs ∧ Step w w' := by
  obtain ⟨F, G, B, h1, h2, h3, e⟩ := R.ex
  obtain ⟨ov, F1, F2, F3, es, hs, eF, go⟩ := h1.split hj
  rcases hs with ⟨z, _⟩ | ⟨v, rfl, hs⟩
  · subst z; cases om
  have hs0 : Own K w.H v (.list ds) F2 ∧ szD (.list ds) := by
    cases om with
    | own => exact hs
    | iow => exact hs.1
  have mkR : ∀ {H' : Hp} {F' : List Addr} {ds' : List PyData}, Own K H' v (.list ds') F' ∧ szD (.list ds') → SlR K H' w.Sh v (mk (.list ds')) F' := by
    intro H' F' ds' q
    cases om with
    | own => exact q
    | iow => exact ⟨q, hs.2⟩
  clear om
  obtain ⟨ho, hz⟩ := hs0
  cases ho with
  | leaf h => cases h
  | lst ha hi na =>
    rename_i a xs Fi
    have dl : ∀ {xs : List V} {ds : List PyData} {F : List Addr}, Owns K w.H xs ds F → xs.length = ds.length := by
      intro xs
      induction xs with
      | nil => intro ds F h; cases h; rfl
      | cons x xs ih => intro ds F h; cases h with
        | cons h q _ => simp [ih q]
    refine ⟨a, xs, es, ha, hz.1, hz.2, dl hi, fun H' xs' ds' kp ha' hF hl hs' => ?_⟩
    have nd := R.nd
    rw [e, eF] at nd
    have p1 : List.Perm ((F1 ++ ((a :: Fi) ++ F3)) ++ (G ++ B)) ((a :: (Fi ++ G)) ++ (F1 ++ F3 ++ B)) := by
      refine List.perm_iff_count.mpr fun b => ?_
      simp only [List.count_append, List.count_cons]
      omega
    have nd1 := p1.nodup_iff.mp nd
    obtain ⟨n1, n2, n3⟩ := List.nodup_append.mp nd1
    obtain ⟨n4, n5⟩ := List.nodup_cons.mp n1
    obtain ⟨F', o1, o2, o3⟩ := hF Fi G hi h2 n5 n4
    have memO : ∀ b, b ∈ w.O ↔ b ∈ (a :: (Fi ++ G)) ++ (F1 ++ F3 ++ B) := fun b => by rw [e, eF]; exact p1.mem_iff
    have off : ∀ b ∈ F1 ++ F3 ++ B, b ≠ a := fun b hb z => n3 a List.mem_cons_self b hb z.symm
    have shOff : ∀ b, w.Sh b → ¬ At a b := fun b q z => R.out a ((memO a).mpr (List.mem_append_left _ List.mem_cons_self)) (z ▸ q)
    have aF' : a ∉ F' := fun z => n4 (o3 a z)
    have s1 := go (some (.ref a)) (mk (.list ds')) (a :: F') (Tr.kp kp shOff (fun b hb => off b (List.mem_append_left _ hb))) (.inr ⟨_, rfl, mkR ⟨.lst ha' (o1.kp kp (fun b hb z => aF' (z ▸ hb))) aF', hl, hs'⟩⟩)
    rw [setSome es] at s1
    have s3 := h3.tr (Tr.kp kp shOff (fun b hb => off b (List.mem_append_right _ hb)))
    rw [R.kl] at s3
    have p2 : List.Perm ((F1 ++ ((a :: F') ++ F3)) ++ ([] ++ B)) ((a :: F') ++ (F1 ++ F3 ++ B)) := by
      refine List.perm_iff_count.mpr fun b => ?_
      simp only [List.count_append, List.count_cons, List.count_nil]
      omega
    have sub : ∀ b ∈ (F1 ++ ((a :: F') ++ F3)) ++ ([] ++ B), b ∈ w.O := fun b hb => by
      rw [memO]
      rcases List.mem_append.mp (p2.mem_iff.mp hb) with z | z
      · refine List.mem_append_left _ ?_
        rcases List.mem_cons.mp z with y | y
        · rw [y]; exact List.mem_cons_self
        · exact List.mem_cons_of_mem _ (o3 b y)
      · exact List.mem_append_right _ z
    refine ⟨⟨H', w.Sh, (F1 ++ ((a :: F') ++ F3)) ++ ([] ++ B)⟩, rfl, ⟨⟨_, [], B, s1, .nil, s3, rfl⟩, ?_, fun b hb => R.out b (sub b hb), fun b q z => R.lv b q (kp.live b z), R.kl⟩, ⟨kp.wide fun b z => by rw [show b = a from z]; exact (memO a).mpr (List.mem_append_left _ List.mem_cons_self), fun b hb => .inl (sub b hb), fun _ q => q, fun _ q => .inl q⟩⟩
    refine p2.nodup_iff.mpr (List.nodup_append.mpr ⟨List.nodup_cons.mpr ⟨aF', o2⟩, n2, fun x hx y hy => ?_⟩)
    rcases List.mem_cons.mp hx with z | z
    · exact n3 x (by rw [z]; exact List.mem_cons_self) y hy
    · exact n3 x (List.mem_cons_of_mem _ (o3 x z)) y hy
end
/-! ### statements -/
structure Ks (β : Type) where
  N : List Sl → R β → Prop
  B : List Sl → R β → Prop
  C : List Sl → R β → Prop
  T : Sl → List Sl → R β → Prop
def SV (Γ : Ctx) {β : Type} (t : TS) (env : List Sl) (m : R β) (k : Ks β) : Prop :=
  ∀ (o : R β), m = o → o ≠ .stuck → ∀ (σ : L2.St) (w : Wd) (us : List V) (bs : List Sl) (D : Ends), Rel Γ.K w σ env [] [] us bs → XOk Γ o w us bs →
    (∀ env' m' σ' w', k.N env' m' → m' = o → Rel Γ.K w' σ' env' [] [] us bs → Step w w' → D.nx σ' w'.H) →
    (∀ env' m' σ' w', k.B env' m' → m' = o → Rel Γ.K w' σ' env' [] [] us bs → Step w w' → D.bk σ' w'.H) →
    (∀ env' m' σ' w', k.C env' m' → m' = o → Rel Γ.K w' σ' env' [] [] us bs → Step w w' → D.ct σ' w'.H) →
    (∀ r env' m' σ' v w', k.T r env' m' → m' = o → Rel Γ.K w' σ' env' [v] [r] us bs → Step w w' → D.rt v w'.H) → t D σ w.H
/-- only such slots are set -/
def Sets (is : List Nat) (σ σ' : L2.St) : Prop := ∀ vs : List Nat, (∀ i ∈ is, i ∈ vs) → wipe σ' vs = wipe σ vs
def GV (Γ : Ctx) {β : Type} (g : TG) (is : List Nat) (r : Sl) (env : List Sl) (m : R β) (Φ : List Sl → R β → Prop) : Prop :=
  ∀ (o : R β), m = o → o ≠ .stuck → ∀ (σ : L2.St) (w : Wd) (v : V) (vs us : List V) (ts bs : List Sl) (Z : L2.St → Hp → Prop), Rel Γ.K w σ env (v :: vs) (r :: ts) us bs → XOk Γ o w us bs →
    (∀ env' m' σ' w', Φ env' m' → m' = o → Rel Γ.K w' σ' env' vs ts us bs → Step w w' → Sets is σ σ' → Z σ' w'.H) → g v σ w.H Z
def GVs (Γ : Ctx) {β : Type} (g : TGs) (is : List Nat) (rs : List Sl) (env : List Sl) (m : R β) (Φ : List Sl → R β → Prop) : Prop :=
  ∀ (o : R β), m = o → o ≠ .stuck → ∀ (σ : L2.St) (w : Wd) (xs vs us : List V) (ts bs : List Sl) (Z : L2.St → Hp → Prop), Rel Γ.K w σ env (xs ++ vs) (rs ++ ts) us bs → xs.length = rs.length → XOk Γ o w us bs →
    (∀ env' m' σ' w', Φ env' m' → m' = o → Rel Γ.K w' σ' env' vs ts us bs → Step w w' → Sets is σ σ' → Z σ' w'.H) → g xs σ w.H Z
section
variable {Γ : Ctx} {β : Type} {m : R β} {env env' ts : List Sl} {te : TE} {tt : TT} {t u : TS} {i j : Nat} {g : TG} {gs : TGs} {is js : List Nat} {r : Sl} {rs : List Sl} {k : Ks β} {Φ : List Sl → R β → Prop}
theorem wipeGet (σ : L2.St) : ∀ (vs : List Nat) (n : Nat), (wipe σ vs)[n]? = if n ∈ vs ∧ n < σ.length then some none else σ[n]?
  | [], n => by simp [wipe]
  | x :: vs, n => by
    unfold wipe
    rw [List.getElem?_set, wipeGet σ vs n, wipe_length]
    by_cases e : x = n
    · subst e
      by_cases h : x < σ.length
      · simp [h]
      · simp [h]
    · rw [if_neg e]
      by_cases h : n ∈ vs
      · simp [h]
      · simp [h, Ne.symm e]
theorem setsOne {σ : L2.St} {v : Option V} : Sets [i] σ (σ.set i v) := fun vs h => by
  have hi := h i List.mem_cons_self
  refine List.ext_getElem? fun n => ?_
  rw [wipeGet, wipeGet, List.length_set]
  by_cases c : n ∈ vs ∧ n < σ.length
  · rw [if_pos c, if_pos c]
  · rw [if_neg c, if_neg c]
    by_cases e : i = n
    · subst e
      have : ¬ i < σ.length := fun z => c ⟨hi, z⟩
      rw [List.getElem?_eq_none (by rw [List.length_set]; omega), List.getElem?_eq_none (by omega)]
    · rw [List.getElem?_set_ne e]
theorem Sets.refl {σ : L2.St} : Sets [] σ σ := fun _ _ => rfl
theorem Sets.app {σ σ1 σ2 : L2.St} (a : Sets is σ σ1) (b : Sets js σ1 σ2) : Sets (is ++ js) σ σ2 := fun vs h =>
  (b vs fun i hi => h i (List.mem_append_right _ hi)).trans (a vs fun i hi => h i (List.mem_append_left _ hi))
/-! targets -/
theorem gv_name {r0 : Sl} (hi : env[i]? = some r0) (en : env.set i r = env') (h : Φ env' m) : GV Γ (gName i) [i] r env m Φ := by
  intro o e1 e2 σ w v vs us ts bs Z R X kk
  subst en
  obtain ⟨w', e, R', st⟩ := R.store hi
  have := kk _ m _ w' h e1 R' st setsOne
  rw [e] at this
  exact this
theorem gv_nil (h : Φ env m) : GVs Γ gNil [] [] env m Φ := by
  intro o e1 e2 σ w xs vs us ts bs Z R el X kk
  cases xs with
  | cons _ _ => cases el
  | nil => exact ⟨rfl, kk _ m _ w h e1 R Step.refl Sets.refl⟩
theorem gv_cons (h : GV Γ g is r env m fun env1 m1 => GVs Γ gs js rs env1 m1 Φ) : GVs Γ (gCons g gs) (is ++ js) (r :: rs) env m Φ := by
  intro o e1 e2 σ w xs vs us ts bs Z R el X kk
  cases xs with
  | nil => cases el
  | cons x xs =>
    refine ⟨x, xs, rfl, h o e1 e2 σ w x (xs ++ vs) us (rs ++ ts) bs _ R X fun env1 m1 σ1 w1 h1 em1 R1 s1 q1 => ?_⟩
    exact h1 o em1 e2 σ1 w1 xs vs us ts bs Z R1 (by simpa using el) (X.step s1) fun env2 m2 σ2 w2 h2 em2 R2 s2 q2 => kk env2 m2 σ2 w2 h2 em2 R2 (s1.trans s2) (q1.app q2)
/-- the parts of a tuple -/
def unpk2 : PyData → R (PyData × PyData)
  | .tuple [a, b] => .ok (a, b)
  | _ => .stuck
def unpk3 : PyData → R (PyData × PyData × PyData)
  | .tuple [a, b, c] => .ok (a, b, c)
  | _ => .stuck
def unpk4 : PyData → R (PyData × PyData × PyData × PyData)
  | .tuple [a, b, c, d] => .ok (a, b, c, d)
  | _ => .stuck
@[simp] theorem unpk2_t (a b : PyData) : unpk2 (.tuple [a, b]) = .ok (a, b) := rfl
@[simp] theorem unpk3_t (a b c : PyData) : unpk3 (.tuple [a, b, c]) = .ok (a, b, c) := rfl
@[simp] theorem unpk4_t (a b c d : PyData) : unpk4 (.tuple [a, b, c, d]) = .ok (a, b, c, d) := rfl
theorem tmsImm {K : PySem.W.Frag} {H : Hp} {Sh : Addr → Prop} : ∀ {vs : List V} {ds : List PyData}, TDs K H vs ds → szAll ds → Tms K H Sh vs (ds.map Sl.imm) []
  | _, _, .nil, _ => .nil
  | _, _, .cons h q, z => Tms.cons (F := []) ⟨rfl, h, z.1⟩ (tmsImm q z.2)
theorem Rel.spread {K : PySem.W.Frag} {w : Wd} {σ : L2.St} {vs us : List V} {bs : List Sl} {v : V} {n : Nat} {d : PyData} {ds : List PyData} (R : Rel K w σ env (v :: vs) (.imm d :: ts) us bs) (e : d = .tuple ds) :
    ∃ a xs, v = .ref a ∧ SqT K w.H a xs ∧ xs.length = ds.length ∧ Rel K w σ env (xs ++ vs) (ds.map Sl.imm ++ ts) us bs := by
  subst e
  obtain ⟨ht, hz⟩ := R.td
  obtain ⟨a, xs, rfl, h1, h2⟩ := ht.ref
  refine ⟨a, xs, rfl, h1, h2.length, ?_⟩
  obtain ⟨F, G, B, g1, g2, g3, eO⟩ := R.ex
  cases g2 with
  | cons hh g2 =>
    obtain ⟨rfl, _⟩ := hh
    rename_i G2 _
    have app : ∀ {ws : List V} {rs : List Sl}, Tms K w.H w.Sh ws rs [] → Tms K w.H w.Sh (ws ++ vs) (rs ++ ts) G2 := by
      intro ws
      induction ws with
      | nil => intro rs h; cases h; exact g2
      | cons x ws ih =>
        intro rs h
        generalize hE : ([] : List Addr) = E0 at h
        cases h with
        | cons h t =>
          rename_i r' rs' F' G'
          have hh := List.append_eq_nil_iff.mp hE.symm
          obtain ⟨rfl, rfl⟩ := hh
          exact Tms.cons (F := []) h (ih t)
    exact ⟨⟨F, _, B, g1, app (tmsImm h2 hz.2), g3, eO⟩, R.nd, R.out, R.lv, R.kl⟩
theorem gv_tupN {n : Nat} {d : PyData} {ds : List PyData} (e : d = .tuple ds) (hl : ds.length = n) (h : GVs Γ gs is (ds.map Sl.imm) env m Φ) : GV Γ (gTup Γ.K n gs) is (.imm d) env m Φ := by
  intro o e1 e2 σ w v vs us ts bs Z R X kk
  obtain ⟨a, xs, rfl, h1, h2, R'⟩ := R.spread (n := n) e
  exact ⟨a, xs, rfl, h1, h2.trans hl, h o e1 e2 σ w xs vs us ts bs Z R' (by simp [h2]) X kk⟩
theorem gv_tup2 {d : PyData} {kk : PyData × PyData → R β} (hm : m = (unpk2 d).bind kk) (h : ∀ p : PyData × PyData, GVs Γ gs is [.imm p.1, .imm p.2] env (kk p) Φ) : GV Γ (gTup Γ.K 2 gs) is (.imm d) env m Φ := by
  intro o e1 e2
  match d, hm with
  | .tuple [a, b], hm => exact gv_tupN (ds := [a, b]) rfl rfl (hm ▸ h (a, b)) o e1 e2
  | .none, hm => rw [hm] at e1; exact absurd e1.symm e2
  | .bool _, hm => rw [hm] at e1; exact absurd e1.symm e2
  | .int _, hm => rw [hm] at e1; exact absurd e1.symm e2
  | .str _, hm => rw [hm] at e1; exact absurd e1.symm e2
  | .list _, hm => rw [hm] at e1; exact absurd e1.symm e2
  | .dict _, hm => rw [hm] at e1; exact absurd e1.symm e2
  | .tuple [], hm => rw [hm] at e1; exact absurd e1.symm e2
  | .tuple [_], hm => rw [hm] at e1; exact absurd e1.symm e2
  | .tuple (_ :: _ :: _ :: _), hm => rw [hm] at e1; exact absurd e1.symm e2
theorem gv_tup3 {d : PyData} {kk : PyData × PyData × PyData → R β} (hm : m = (unpk3 d).bind kk) (h : ∀ p : PyData × PyData × PyData, GVs Γ gs is [.imm p.1, .imm p.2.1, .imm p.2.2] env (kk p) Φ) : GV Γ (gTup Γ.K 3 gs) is (.imm d) env m Φ := by
  intro o e1 e2
  match d, hm with
  | .tuple [a, b, c], hm => exact gv_tupN (ds := [a, b, c]) rfl rfl (hm ▸ h (a, b, c)) o e1 e2
  | .none, hm => rw [hm] at e1; exact absurd e1.symm e2
  | .bool _, hm => rw [hm] at e1; exact absurd e1.symm e2
  | .int _, hm => rw [hm] at e1; exact absurd e1.symm e2
  | .str _, hm => rw [hm] at e1; exact absurd e1.symm e2
  | .list _, hm => rw [hm] at e1; exact absurd e1.symm e2
  | .dict _, hm => rw [hm] at e1; exact absurd e1.symm e2
  | .tuple [], hm => rw [hm] at e1; exact absurd e1.symm e2
  | .tuple [_], hm => rw [hm] at e1; exact absurd e1.symm e2
  | .tuple [_, _], hm => rw [hm] at e1; exact absurd e1.symm e2
  | .tuple (_ :: _ :: _ :: _ :: _), hm => rw [hm] at e1; exact absurd e1.symm e2
theorem gv_tup4 {d : PyData} {kk : PyData × PyData × PyData × PyData → R β} (hm : m = (unpk4 d).bind kk) (h : ∀ p : PyData × PyData × PyData × PyData, GVs Γ gs is [.imm p.1, .imm p.2.1, .imm p.2.2.1, .imm p.2.2.2] env (kk p) Φ) : GV Γ (gTup Γ.K 4 gs) is (.imm d) env m Φ := by
  intro o e1 e2
  match d, hm with
  | .tuple [a, b, c, q], hm => exact gv_tupN (ds := [a, b, c, q]) rfl rfl (hm ▸ h (a, b, c, q)) o e1 e2
  | .none, hm => rw [hm] at e1; exact absurd e1.symm e2
  | .bool _, hm => rw [hm] at e1; exact absurd e1.symm e2
  | .int _, hm => rw [hm] at e1; exact absurd e1.symm e2
  | .str _, hm => rw [hm] at e1; exact absurd e1.symm e2
  | .list _, hm => rw [hm] at e1; exact absurd e1.symm e2
  | .dict _, hm => rw [hm] at e1; exact absurd e1.symm e2
  | .tuple [], hm => rw [hm] at e1; exact absurd e1.symm e2
  | .tuple [_], hm => rw [hm] at e1; exact absurd e1.symm e2
  | .tuple [_, _], hm => rw [hm] at e1; exact absurd e1.symm e2
  | .tuple [_, _, _], hm => rw [hm] at e1; exact absurd e1.symm e2
  | .tuple (_ :: _ :: _ :: _ :: _ :: _), hm => rw [hm] at e1; exact absurd e1.symm e2
/-! what is read is taken as data without lists -/
def asI (d : PyData) : R PyData := if immD d = true then .ok d else .stuck
theorem asI_eq {d : PyData} (h : immD d = true) : asI d = .ok d := if_pos h
theorem Rel.recast {K : PySem.W.Frag} {w : Wd} {σ : L2.St} {vs us : List V} {bs : List Sl} {v : V} {r : Sl} {d : PyData} (R : Rel K w σ env (v :: vs) (r :: ts) us bs) (s : SlD r d) (h : immD d = true) : ∃ w', w'.H = w.H ∧ Rel K w' σ env (v :: vs) (.imm d :: ts) us bs ∧ Step w w' := by
  obtain ⟨h1, h2⟩ := R.dp s
  exact Rel.take (ws := [v]) (rs := [r]) R rfl Kp.refl fun A _ => ⟨[], ⟨rfl, dpImm h1 h, h2⟩, List.nodup_nil, fun _ q => (List.not_mem_nil q).elim⟩
theorem gv_asI {d : PyData} {kk : PyData → R β} (s : SlD r d) (hm : m = (asI d).bind kk) (h : ∀ d, GV Γ g is (.imm d) env (kk d) Φ) : GV Γ g is r env m Φ := by
  intro o e1 e2 σ w v vs us ts bs Z R X kz
  by_cases c : immD d = true
  · rw [asI_eq c] at hm
    obtain ⟨w', e, R', st⟩ := R.recast s c
    rw [← e]
    exact h d o (by rw [hm] at e1; exact e1) e2 σ w' v vs us ts bs Z R' (X.step st) fun env' m' σ' w2 h2 em R2 s2 q2 => kz env' m' σ' w2 h2 em R2 (st.trans s2) q2
  · rw [show asI d = .stuck from if_neg c] at hm
    rw [hm] at e1
    exact absurd e1.symm e2
/-! statements -/
theorem sv_seq (h : SV Γ t env m { k with N := fun env1 m1 => SV Γ u env1 m1 k }) : SV Γ (tSeq t u) env m k := by
  intro o e1 e2 σ w us bs D R X kN kB kC kT
  refine h o e1 e2 σ w us bs _ R X (fun env1 m1 σ1 w1 h1 em1 R1 s1 => ?_) kB kC kT
  exact h1 o em1 e2 σ1 w1 us bs D R1 (X.step s1) (fun a b c d x y z s => kN a b c d x y z (s1.trans s)) (fun a b c d x y z s => kB a b c d x y z (s1.trans s)) (fun a b c d x y z s => kC a b c d x y z (s1.trans s)) (fun a b c d f g x y z s => kT a b c d f g x y z (s1.trans s))
theorem sv_next (h : k.N env m) : SV Γ tNext env m k := by
  intro o e1 e2 σ w us bs D R X kN kB kC kT
  exact kN _ _ _ w h e1 R Step.refl
theorem sv_brk (h : k.B env m) : SV Γ tBreak env m k := by
  intro o e1 e2 σ w us bs D R X kN kB kC kT
  exact kB _ _ _ w h e1 R Step.refl
theorem sv_cont (h : k.C env m) : SV Γ tCont env m k := by
  intro o e1 e2 σ w us bs D R X kN kB kC kT
  exact kC _ _ _ w h e1 R Step.refl
theorem sv_ret (h : EV Γ te env [] m fun r env1 m1 => k.T r env1 m1) : SV Γ (tRet te) env m k := by
  intro o e1 e2 σ w us bs D R X kN kB kC kT
  exact h o e1 e2 σ w [] us bs _ R X fun r env1 m1 v w1 h1 em1 R1 s1 => kT r env1 m1 σ v w1 h1 em1 R1 s1
theorem sv_retN (h : k.T (.imm .none) env m) : SV Γ tRetN env m k := by
  intro o e1 e2 σ w us bs D R X kN kB kC kT
  exact kT _ _ _ _ .non w h e1 (R.push0 ⟨rfl, .non, trivial⟩) Step.refl
theorem sv_asg (h : EV Γ te env [] m fun r env1 m1 => GV Γ g is r env1 m1 k.N) : SV Γ (tAsg te g) env m k := by
  intro o e1 e2 σ w us bs D R X kN kB kC kT
  refine h o e1 e2 σ w [] us bs _ R X fun r env1 m1 v w1 h1 em1 R1 s1 => ?_
  exact h1 o em1 e2 σ w1 v [] us [] bs _ R1 (X.step s1) fun env2 m2 σ2 w2 h2 em2 R2 s2 _ => kN env2 m2 σ2 w2 h2 em2 R2 (s1.trans s2)
theorem sv_drop (h : EV Γ te env [] m fun r env1 m1 => k.N env1 m1) : SV Γ (tDrop te) env m k := by
  intro o e1 e2 σ w us bs D R X kN kB kC kT
  refine h o e1 e2 σ w [] us bs _ R X fun r env1 m1 v w1 h1 em1 R1 s1 => ?_
  obtain ⟨w2, e, R2, s2⟩ := Rel.pops (ws := [v]) (rs := [r]) R1 rfl
  rw [← e]
  exact kN env1 m1 σ w2 h1 em1 R2 (s1.trans s2)
theorem sv_par {ta : TA} {ri rj : Sl} (h : EA Γ ta env [] m fun rs env1 m1 => ∃ a b r1 r2 env2, rs = [a, b] ∧ env1[j]? = some r1 ∧ (env1.set j b)[i]? = some r2 ∧ (env1.set j b).set i a = env2 ∧ i ≠ j ∧ k.N env2 m1) : SV Γ (tPar i j ta) env m k := by
  intro o e1 e2 σ w us bs D R X kN kB kC kT
  refine h o e1 e2 σ w [] us bs _ R X fun rs env1 m1 ws w1 ⟨a, b, r1, r2, env2, er, h1, h2, h3, hij, h4⟩ em1 R1 el s1 => ?_
  subst er h3
  match ws, el, R1 with
  | [x, y], _, R1 =>
    refine ⟨x, y, rfl, ?_⟩
    obtain ⟨w2, e2', R2, s2⟩ := Rel.store (v := y) (r := b) (vs := [x]) (ts := [a]) R1 h1
    obtain ⟨w3, e3, R3, s3⟩ := Rel.store (v := x) (r := a) (vs := []) (ts := []) R2 h2
    have := kN _ _ _ w3 h4 em1 R3 ((s1.trans s2).trans s3)
    rw [e3, e2', List.set_comm _ _ (Ne.symm hij)] at this
    exact this
theorem sv_if (h : TV Γ tt env [] m fun b env1 m1 => ∃ ma mb, m1 = (bif b then ma else mb) ∧ SV Γ t env1 ma k ∧ SV Γ u env1 mb k) : SV Γ (tIfS tt t u) env m k := by
  intro o e1 e2 σ w us bs D R X kN kB kC kT
  refine h o e1 e2 σ w [] us bs _ R X fun b env1 m1 w1 ⟨ma, mb, em, ha, hb⟩ em1 R1 s1 => ?_
  have X1 := X.step s1
  cases b with
  | true => exact ha o (by rw [← em1, em]; rfl) e2 σ w1 us bs D R1 X1 (fun a b c d x y z s => kN a b c d x y z (s1.trans s)) (fun a b c d x y z s => kB a b c d x y z (s1.trans s)) (fun a b c d x y z s => kC a b c d x y z (s1.trans s)) (fun a b c d f g x y z s => kT a b c d f g x y z (s1.trans s))
  | false => exact hb o (by rw [← em1, em]; rfl) e2 σ w1 us bs D R1 X1 (fun a b c d x y z s => kN a b c d x y z (s1.trans s)) (fun a b c d x y z s => kB a b c d x y z (s1.trans s)) (fun a b c d x y z s => kC a b c d x y z (s1.trans s)) (fun a b c d f g x y z s => kT a b c d f g x y z (s1.trans s))
def nowhere {S : Type} (N : List Sl → R S → Prop) : Ks S := ⟨N, fun _ _ => False, fun _ _ => False, fun _ _ _ => False⟩
/-- both ways of an if come together: S tells what they leave -/
theorem sv_ifj {S : Type} (envOf : S → List Sl) (h : TV Γ tt env [] m fun b env1 m1 => ∃ (ma mb : R S) (kk : S → R β), m1 = (R.bind (bif b then ma else mb) kk) ∧
      SV Γ t env1 ma (nowhere fun e m => ∃ s, m = .ok s ∧ Les e (envOf s)) ∧ SV Γ u env1 mb (nowhere fun e m => ∃ s, m = .ok s ∧ Les e (envOf s)) ∧ ∀ s, k.N (envOf s) (kk s)) : SV Γ (tIfS tt t u) env m k := by
  intro o e1 e2 σ w us bs D R X kN kB kC kT
  refine h o e1 e2 σ w [] us bs _ R X fun b env1 m1 w1 ⟨ma, mb, kk, em, ha, hb, hk⟩ em1 R1 s1 => ?_
  have X1 := X.step s1
  have fin : ∀ (mx : Vl.R S) (tx : TS), mx.bind kk = o → SV Γ tx env1 mx (nowhere fun e m => ∃ s, m = .ok s ∧ Les e (envOf s)) → tx D σ w1.H := by
    intro mx tx emx hx
    refine hx mx rfl (fun z => by rw [z] at emx; exact e2 emx.symm) σ w1 us bs D R1 (fun e he => X1 e (by rw [← emx, he]; rfl)) ?_ (fun _ _ _ _ z => z.elim) (fun _ _ _ _ z => z.elim) (fun _ _ _ _ _ _ z => z.elim)
    rintro env2 m2 σ2 w2 ⟨s, es, l⟩ em2 R2 s2
    obtain ⟨w3, e3, R3, s3⟩ := R2.les l
    rw [← e3]
    exact kN _ _ σ2 w3 (hk s) (by rw [← emx, ← em2, es]; rfl) R3 ((s1.trans s2).trans s3)
  cases b with
  | true => exact fin ma t (by rw [← em1, em]; rfl) ha
  | false => exact fin mb u (by rw [← em1, em]; rfl) hb
/-- one's own list is from now on read only -/
theorem sv_freeze {d : PyData} (hj : env[j]? = some (.own d)) (en : env.set j (.shr d) = env') (h : SV Γ t env' m k) : SV Γ t env m k := by
  intro o e1 e2 σ w us bs D R X kN kB kC kT
  subst en
  obtain ⟨w1, e, R1, s1⟩ := R.freeze hj
  rw [← e]
  exact h o e1 e2 σ w1 us bs D R1 (X.step s1) (fun a b c d x y z s => kN a b c d x y z (s1.trans s)) (fun a b c d x y z s => kB a b c d x y z (s1.trans s)) (fun a b c d x y z s => kC a b c d x y z (s1.trans s)) (fun a b c d f g x y z s => kT a b c d f g x y z (s1.trans s))
theorem sv_forget (l : Les env env') (h : SV Γ t env' m k) : SV Γ t env m k := by
  intro o e1 e2 σ w us bs D R X kN kB kC kT
  obtain ⟨w1, e, R1, s1⟩ := R.les l
  rw [← e]
  exact h o e1 e2 σ w1 us bs D R1 (X.step s1) (fun a b c d x y z s => kN a b c d x y z (s1.trans s)) (fun a b c d x y z s => kB a b c d x y z (s1.trans s)) (fun a b c d x y z s => kC a b c d x y z (s1.trans s)) (fun a b c d f g x y z s => kT a b c d f g x y z (s1.trans s))
/-! lists written -/
def appL (xs : List PyData) (d : PyData) : R (List PyData) := if xs.length < sizeLine then .ok (xs ++ [d]) else .stuck
def setL (xs : List PyData) (i : PyData) (d : PyData) : R (List PyData) := match i with
  | .int n => match ixN xs.length n with
    | some j => .ok (xs.set j d)
    | none => .stuck
  | _ => .stuck
theorem Tms.one {K : PySem.W.Frag} {H : Hp} {Sh : Addr → Prop} {v : V} {r : Sl} {A : List Addr} (h : Tms K H Sh [v] [r] A) : SlR K H Sh v r A := by
  cases h with
  | cons h t => cases t; rw [List.append_nil]; exact h
theorem Owns.snoc {K : PySem.W.Frag} {H : Hp} : ∀ {xs : List V} {ds : List PyData} {F : List Addr} {v : V} {d : PyData} {G : List Addr}, Owns K H xs ds F → Own K H v d G → (∀ a ∈ F, a ∉ G) → Owns K H (xs ++ [v]) (ds ++ [d]) (F ++ G)
  | _, _, _, _, _, G, .nil, h, _ => by
    have := Owns.cons h Owns.nil (fun _ _ => List.not_mem_nil)
    rw [List.append_nil] at this
    exact this
  | _, _, _, _, _, G, .cons h t n, q, dis => by
    rw [List.append_assoc]
    refine .cons h (t.snoc q fun a ha => dis a (List.mem_append_right _ ha)) fun a ha hb => ?_
    rcases List.mem_append.mp hb with z | z
    · exact n a ha z
    · exact dis a (List.mem_append_left _ ha) z
theorem OwnOf.toOwn {K : PySem.W.Frag} {H : Hp} {Sh : Addr → Prop} {v : V} {r : Sl} {d : PyData} {A : List Addr} (h : OwnOf r d) (s : SlR K H Sh v r A) : Own K H v d A ∧ szD d := by
  cases h with
  | imm =>
    obtain ⟨rfl, h1, h2⟩ := s
    exact ⟨.leaf h1, h2⟩
  | own => exact s
theorem szAll_append {xs ys : List PyData} (h1 : szAll xs) (h2 : szAll ys) : szAll (xs ++ ys) := by
  rw [szAll_iff] at *
  intro d hd
  exact (List.mem_append.mp hd).elim (h1 d) (h2 d)
/-- xs.append(e) -/
theorem sv_app {xs0 : List PyData} {r0 : Sl} {mk0 : PyData → Sl} (h0 : env[j]? = some r0) (om0 : OwnSl r0 (.list xs0) mk0)
    (h : EV Γ te env [] m fun r env1 m1 => ∃ d xs r1 mk kk, OwnOf r d ∧ env1[j]? = some r1 ∧ OwnSl r1 (.list xs) mk ∧ m1 = (appL xs d).bind kk ∧ ∀ z, k.N ((env1.map kill).set j (mk (.list z))) (kk z)) :
    SV Γ (tDrop (tBM Γ.K "list" rAppG (tVar j) (tCons te tNil))) env m k := by
  intro o e1 e2 σ w us bs D R X kN kB kC kT
  obtain ⟨a0, xs0', es0, ha0, _⟩ := R.mut h0 om0
  refine ⟨.ref a0, es0, .inl ⟨rfl, _, .of ha0⟩, ?_⟩
  refine h o e1 e2 σ w [] us bs _ R X fun r env1 m1 v w1 ⟨d, xs, r1, mk, kk, ho, hj, om, em, hk⟩ em1 R1 s1 => ?_
  by_cases c : xs.length < sizeLine
  · rw [show appL xs d = .ok (xs ++ [d]) from if_pos c] at em
    obtain ⟨a, vs, es, ha, hl, hz, el, go⟩ := R1.mut hj om
    rw [es0] at es
    cases es
    refine ⟨a0, vs, v, rfl, rfl, ha, by omega, fun H' kp ha' => ?_⟩
    obtain ⟨w2, rfl, R2, s2⟩ := go H' (vs ++ [v]) (xs ++ [d]) kp ha' (fun Fi A oi tm nd na => by
      obtain ⟨o1, o2⟩ := ho.toOwn tm.one
      exact ⟨Fi ++ A, oi.snoc o1 (fun x hx hy => (List.nodup_append.mp nd).2.2 x hx x hy rfl), nd, fun _ z => z⟩) (by rw [List.length_append]; simp; omega) (szAll_append hz ⟨by
        obtain ⟨F, s⟩ := R1.top
        exact (ho.toOwn s).2, trivial⟩)
    exact kN _ _ σ w2 (hk _) (by rw [← em1, em]; rfl) R2 (s1.trans s2)
  · rw [show appL xs d = .stuck from if_neg c] at em
    rw [em] at em1
    exact absurd em1.symm e2
theorem Owns.set {K : PySem.W.Frag} {H : Hp} {v : V} {d : PyData} {G : List Addr} (q : Own K H v d G) : ∀ {xs : List V} {ds : List PyData} {F : List Addr} (n : Nat), Owns K H xs ds F → (F ++ G).Nodup → n < xs.length → ∃ F', Owns K H (xs.set n v) (ds.set n d) F' ∧ F'.Nodup ∧ ∀ x ∈ F', x ∈ F ++ G
  | _, _, _, n, .nil, _, h => by simp at h
  | _, _, _, 0, .cons (F := F) (G := F2) h t dis, nd, _ => by
    have nd2 : (F2 ++ G).Nodup := (List.nodup_append.mp (by rw [List.append_assoc] at nd; exact nd)).2.1
    refine ⟨G ++ F2, .cons q t fun a ha hb => (List.nodup_append.mp nd2).2.2 a hb a ha rfl, ?_, fun x hx => ?_⟩
    · obtain ⟨n1, n2, n3⟩ := List.nodup_append.mp nd2
      exact List.nodup_append.mpr ⟨n2, n1, fun a ha b hb e => n3 b hb a ha e.symm⟩
    · simp only [List.mem_append] at hx ⊢
      rcases hx with z | z
      · exact .inr z
      · exact .inl (.inr z)
  | _, _, _, n + 1, .cons (F := F) (G := F2) h t dis, nd, hl => by
    rw [List.append_assoc] at nd
    obtain ⟨n1, n2, n3⟩ := List.nodup_append.mp nd
    obtain ⟨F', h1, h2, h3⟩ := Owns.set q n t n2 (by simpa using hl)
    refine ⟨F ++ F', .cons h h1 fun a ha hb => n3 a ha a (h3 a hb) rfl, List.nodup_append.mpr ⟨n1, h2, fun a ha b hb => n3 a ha b (h3 b hb)⟩, fun x hx => ?_⟩
    rw [List.append_assoc]
    rcases List.mem_append.mp hx with z | z
    · exact List.mem_append_left _ z
    · exact List.mem_append_right _ (h3 x z)
theorem szAll_set {xs : List PyData} {d : PyData} (h : szAll xs) (hd : szD d) (n : Nat) : szAll (xs.set n d) := by
  rw [szAll_iff] at *
  intro x hx
  rcases List.mem_or_eq_of_mem_set hx with z | z
  · exact h x z
  · exact z ▸ hd
/-- xs[i] = e -/
theorem sv_set {ti : TE} (h : EV Γ te env [] m fun r env1 m1 => ∃ d xs1 r1 mk1, OwnOf r d ∧ env1[j]? = some r1 ∧ OwnSl r1 (.list xs1) mk1 ∧ EV Γ ti env1 [r] m1 fun ri env2 m2 => ∃ n xs r2 mk kk, ri = .imm n ∧ env2[j]? = some r2 ∧ OwnSl r2 (.list xs) mk ∧ m2 = (setL xs n d).bind kk ∧ ∀ z, k.N ((env2.map kill).set j (mk (.list z))) (kk z)) :
    SV Γ (tAsg te (gSub (tVar j) ti rSetLG)) env m k := by
  intro o e1 e2 σ w us bs D R X kN kB kC kT
  refine h o e1 e2 σ w [] us bs _ R X fun r env1 m1 v w1 ⟨d, xs1, r1, mk1, ho, hj1, om1, h1⟩ em1 R1 s1 => ?_
  obtain ⟨a1, vs1, es1, _⟩ := R1.mut hj1 om1
  refine ⟨.ref a1, es1, ?_⟩
  refine h1 o em1 e2 σ w1 [v] us bs _ R1 (X.step s1) fun ri env2 m2 x w2 ⟨n, xs, r2, mk, kk, er, hj, om, em, hk⟩ em2 R2 s2 => ?_
  subst er
  obtain ⟨w2', e2', R2', s2'⟩ := Rel.pops (ws := [x]) (rs := [.imm n]) R2 rfl
  have hx := R2.td.1
  match n, em, hx with
  | .int i, em, hx =>
    have := hx.toInt
    subst this
    obtain ⟨a, vs, es, ha, hl, hz, el, go⟩ := R2'.mut hj om
    rw [es1] at es
    cases es
    unfold setL at em
    dsimp only at em
    cases c : ixN xs.length i with
    | none =>
      rw [c] at em
      rw [em] at em2
      exact absurd em2.symm e2
    | some q =>
      rw [c] at em
      refine ⟨a1, vs, i, q, rfl, rfl, by rw [← e2']; exact ha, by rw [el]; exact c, fun H' kp ha' => ?_⟩
      obtain ⟨w3, rfl, R3, s3⟩ := go H' (vs.set q v) (xs.set q d) (by rw [e2']; exact kp) ha' (fun Fi A oi tm nd na => by
        obtain ⟨o1, o2⟩ := ho.toOwn tm.one
        exact Owns.set o1 q oi nd (by rw [el]; exact (ixN_seq c).2.1)) (by rw [List.length_set]; exact hl) (szAll_set hz (by
          obtain ⟨F, s⟩ := R2'.top
          exact (ho.toOwn s).2) q)
      exact kN _ _ σ w3 (hk _) (by rw [← em2, em]; rfl) R3 (((s1.trans s2).trans s2').trans s3)
  | .none, em, _ => rw [em] at em2; exact absurd em2.symm e2
  | .bool _, em, _ => rw [em] at em2; exact absurd em2.symm e2
  | .str _, em, _ => rw [em] at em2; exact absurd em2.symm e2
  | .tuple _, em, _ => rw [em] at em2; exact absurd em2.symm e2
  | .list _, em, _ => rw [em] at em2; exact absurd em2.symm e2
  | .dict _, em, _ => rw [em] at em2; exact absurd em2.symm e2
end
end Vl
/-! Readings against functions: loops, comprehensions, calls, defs. -/
namespace Vl
open PySem PySem.Spec PyProof.Rows L2 Hw
/-- what is walked, told by roots that lie under -/
structure WalkOn (K : PySem.W.Frag) (J : It) (ws : List V) (rs : List Sl) (ds : List PyData) (md : PyData → Sl) : Prop where
  ex : ∃ (G : Hp → Prop) (Y : Nat → Hp → V → Hp → Prop), Walk J ds.length G Y ∧ (∀ H Sh F, Tms K H Sh ws rs F → G H) ∧
    ∀ i d H Sh F x H', ds[i]? = some d → Tms K H Sh ws rs F → (∀ a, Sh a → H a ≠ none) → Y i H x H' → Kp Non H H' ∧ SlR K H' Sh x (md d) []
  kl : rs.map kill = rs
  le : ws.length = rs.length
  sz : ds.length ≤ sizeLine
def IV (Γ : Ctx) {β : Type} (wi : TI) (env ts : List Sl) (m : R β) (Φ : List PyData → (PyData → Sl) → List Sl → R β → Prop) : Prop :=
  ∀ (o : R β), m = o → o ≠ .stuck → ∀ (σ : L2.St) (w : Wd) (vs us : List V) (bs : List Sl) (Z : It → Hp → Prop), Rel Γ.K w σ env vs ts us bs → XOk Γ o w us bs →
    (∀ J ds md rs ws env' m' w', Φ ds md env' m' → m' = o → WalkOn Γ.K J ws rs ds md → Rel Γ.K w' σ env' vs ts (ws ++ us) (rs ++ bs) → Step w w' → Z J w'.H) → wi σ w.H Z
section
variable {Γ : Ctx} {β : Type} {m : R β} {env env' ts : List Sl} {te : TE} {ta : TA} {tt : TT} {t tb : TS} {i j : Nat} {g : TG} {is : List Nat} {k : Ks β} {wi : TI} {Φ : Sl → List Sl → R β → Prop} {Ψ : List PyData → (PyData → Sl) → List Sl → R β → Prop}
theorem Rel.under1 {K : PySem.W.Frag} {w : Wd} {σ : L2.St} {env : List Sl} {vs us ws : List V} {ts bs rs : List Sl} (R : Rel K w σ env vs ts (ws ++ us) (rs ++ bs)) (el : ws.length = rs.length) : ∃ A, Tms K w.H w.Sh ws rs A := by
  obtain ⟨F, G, B, h1, h2, h3, e⟩ := R.ex
  obtain ⟨A, B', eB, ha, h3⟩ := h3.split el
  exact ⟨A, ha⟩
/-- a for: the general form. S tells what one turn leaves to the next -/
theorem sv_forC {S ρ : Type} (envOf : S → List Sl)
    (h : IV Γ wi env [] m fun ds md env1 m1 => ∃ (s0 : S) (body : PyData → S → R (Ctl S ρ)) (kk : Sum S ρ → R β), m1 = (loopR ds s0 body).bind kk ∧ Les env1 (envOf s0) ∧
      (∀ d s, d ∈ ds → GV Γ g is (md d) (envOf s) (body d s) fun env2 m2 => SV Γ tb env2 m2
        ⟨fun e m => ∃ s, m = .ok (.go s) ∧ Les e (envOf s), fun e m => ∃ s, m = .ok (.brk s) ∧ Les e (envOf s), fun e m => ∃ s, m = .ok (.go s) ∧ Les e (envOf s), fun r e m => ∃ z, m = .ok (.ret z) ∧ k.T r e (kk (.inr z))⟩) ∧
      ∀ s, k.N (envOf s) (kk (.inl s))) : SV Γ (tFor wi g tb) env m k := by
  intro o e1 e2 σ w us bs D R X kN kB kC kT
  refine h o e1 e2 σ w [] us bs _ R X fun J ds md rs ws env1 m1 w1 ⟨s0, body, kk, em, l0, hb, hk⟩ em1 W R1 st1 => ?_
  obtain ⟨Gh, Y, wk, wG, wY⟩ := W.ex
  have fin : ∀ σ2 H2, (∃ w2 s, w2.H = H2 ∧ Rel Γ.K w2 σ2 (envOf s) [] [] (ws ++ us) (rs ++ bs) ∧ Step w1 w2 ∧ kk (.inl s) = o) → D.nx σ2 H2 := by
    rintro σ2 H2 ⟨w2, s, rfl, R2, st2, eo⟩
    obtain ⟨w3, e3, R3, st3⟩ := R2.unbase W.le
    rw [← e3]
    exact kN _ _ σ2 w3 (hk s) eo R3 ((st1.trans st2).trans st3)
  refine for_it wk (fun i σ2 H2 => ∃ w2 s, w2.H = H2 ∧ Rel Γ.K w2 σ2 (envOf s) [] [] (ws ++ us) (rs ++ bs) ∧ Step w1 w2 ∧ (loopR (ds.drop i) s body).bind kk = o) ?_ ?_ ?_ ?_
  · obtain ⟨w2, e3, R2, st2⟩ := R1.les l0
    exact ⟨w2, s0, e3, R2, st2, by rw [List.drop_zero, ← em, em1]⟩
  · rintro i σ2 H2 _ ⟨w2, s, rfl, R2, _⟩
    obtain ⟨A, ha⟩ := R2.under1 W.le
    exact wG _ _ _ ha
  · rintro i x σ2 H2 H3 hi ⟨w2, s, rfl, R2, st2, eo⟩ y
    obtain ⟨A, ha⟩ := R2.under1 W.le
    have ed : ds[i]? = some ds[i] := List.getElem?_eq_getElem hi
    obtain ⟨kp, sr⟩ := wY i _ _ _ _ _ _ ed ha R2.lv y
    rw [List.drop_eq_getElem_cons hi] at eo
    have R3 := (R2.non kp).push0 sr
    have s3 : Step w2 { w2 with H := H3 } := Step.non kp
    have X3 := X.step ((st1.trans st2).trans s3)
    generalize hbd : body ds[i] s = ob at *
    have eo2 : (ob.bind fun | .go s => loopR (ds.drop (i + 1)) s body | .brk s => .ok (.inl s) | .ret r => .ok (.inr r)).bind kk = o := by
      rw [← eo, ← hbd]; rfl
    have Xb : XOk Γ ob { w2 with H := H3 } (ws ++ us) (rs ++ bs) := fun e he => (X3.lay W.le) e (by rw [← eo2, he]; rfl)
    have nb : ob ≠ .stuck := fun z => by rw [z] at eo2; exact e2 eo2.symm
    refine hb ds[i] s (List.getElem_mem hi) ob hbd nb σ2 { w2 with H := H3 } x [] (ws ++ us) [] (rs ++ bs) _ R3 Xb fun env2 m2 σ3 w3 h2 em2 R4 s4 _ => ?_
    have bas := (st2.trans s3).trans s4
    refine h2 ob em2 nb σ3 w3 (ws ++ us) (rs ++ bs) _ R4 (Xb.step s4) ?_ ?_ ?_ ?_
    · rintro env3 m3 σ4 w4 ⟨s', es, l⟩ em3 R5 s5
      obtain ⟨w5, e5, R6, s6⟩ := R5.les l
      refine ⟨w5, s', e5, R6, (bas.trans s5).trans s6, ?_⟩
      rw [← eo2, ← em3, es]; rfl
    · rintro env3 m3 σ4 w4 ⟨s', es, l⟩ em3 R5 s5
      obtain ⟨w5, e5, R6, s6⟩ := R5.les l
      refine fin _ _ ⟨w5, s', e5, R6, (bas.trans s5).trans s6, ?_⟩
      rw [← eo2, ← em3, es]; rfl
    · rintro env3 m3 σ4 w4 ⟨s', es, l⟩ em3 R5 s5
      obtain ⟨w5, e5, R6, s6⟩ := R5.les l
      refine ⟨w5, s', e5, R6, (bas.trans s5).trans s6, ?_⟩
      rw [← eo2, ← em3, es]; rfl
    · rintro r env3 m3 σ4 v w4 ⟨z, es, ht⟩ em3 R5 s5
      obtain ⟨w5, e5, R6, s6⟩ := R5.unbase W.le
      rw [← e5]
      refine kT _ _ _ σ4 v w5 ht ?_ R6 (((st1.trans bas).trans s5).trans s6)
      rw [← eo2, ← em3, es]; rfl
  · rintro σ2 H2 ⟨w2, s, rfl, R2, st2, eo⟩
    rw [List.drop_of_length_le (Nat.le_refl _)] at eo
    exact fin σ2 _ ⟨w2, s, rfl, R2, st2, eo⟩
theorem foldR_loop {α S : Type} (f : α → S → R S) : ∀ (xs : List α) (s : S) (kk : S → R β), (foldR xs s f).bind kk = (loopR (ρ := Empty) xs s fun x s => (f x s).bind fun s => .ok (.go s)).bind fun z => match z with | .inl s => kk s | .inr r => r.elim
  | [], s, kk => rfl
  | x :: xs, s, kk => by
    unfold foldR loopR
    dsimp only
    cases f x s with
    | ok y => exact foldR_loop f xs y kk
    | exc e => rfl
    | stuck => rfl
/-- what comes behind a bind -/
def Ks.pre {α : Type} (kk : α → R β) (k : Ks β) : Ks α := ⟨fun e m => k.N e (m.bind kk), fun e m => k.B e (m.bind kk), fun e m => k.C e (m.bind kk), fun r e m => k.T r e (m.bind kk)⟩
/-- a run whose end is told may be told of a run with something behind -/
theorem sv_bind {α : Type} {mx : R α} {kk : α → R β} {kx : Ks α} (h : SV Γ t env mx kx) (hm : m = mx.bind kk) (hN : ∀ e m', kx.N e m' → k.N e (m'.bind kk)) (hB : ∀ e m', kx.B e m' → k.B e (m'.bind kk)) (hC : ∀ e m', kx.C e m' → k.C e (m'.bind kk)) (hT : ∀ r e m', kx.T r e m' → k.T r e (m'.bind kk)) : SV Γ t env m k := by
  intro o e1 e2 σ w us bs D R X kN kB kC kT
  have eo : mx.bind kk = o := by rw [← hm, e1]
  refine h mx rfl (fun z => by rw [z] at eo; exact e2 eo.symm) σ w us bs D R (fun e he => X e (by rw [← eo, he]; rfl)) (fun env' m' σ' w' q em R' s => kN env' _ σ' w' (hN _ _ q) (by rw [em, eo]) R' s)
    (fun env' m' σ' w' q em R' s => kB env' _ σ' w' (hB _ _ q) (by rw [em, eo]) R' s) (fun env' m' σ' w' q em R' s => kC env' _ σ' w' (hC _ _ q) (by rw [em, eo]) R' s) (fun r env' m' σ' v w' q em R' s => kT r env' _ σ' v w' (hT _ _ _ q) (by rw [em, eo]) R' s)
theorem gv_bind {α : Type} {mx : R α} {kk : α → R β} {r : Sl} {Φx : List Sl → R α → Prop} {Φy : List Sl → R β → Prop} (h : GV Γ g is r env mx Φx) (hm : m = mx.bind kk) (hN : ∀ e m', Φx e m' → Φy e (m'.bind kk)) : GV Γ g is r env m Φy := by
  intro o e1 e2 σ w v vs us ts bs Z R X kz
  have eo : mx.bind kk = o := by rw [← hm, e1]
  exact h mx rfl (fun z => by rw [z] at eo; exact e2 eo.symm) σ w v vs us ts bs Z R (fun e he => X e (by rw [← eo, he]; rfl)) (fun env' m' σ' w' q em R' s q2 => kz env' _ σ' w' (hN _ _ q) (by rw [em, eo]) R' s q2)
/-- a for without break or return -/
theorem sv_for {S : Type} (envOf : S → List Sl)
    (h : IV Γ wi env [] m fun ds md env1 m1 => ∃ (s0 : S) (body : PyData → S → R S) (kk : S → R β), m1 = (foldR ds s0 body).bind kk ∧ Les env1 (envOf s0) ∧
      (∀ d s, d ∈ ds → GV Γ g is (md d) (envOf s) (body d s) fun env2 m2 => SV Γ tb env2 m2
        ⟨fun e m => ∃ s, m = .ok s ∧ Les e (envOf s), fun _ _ => False, fun e m => ∃ s, m = .ok s ∧ Les e (envOf s), fun _ _ _ => False⟩) ∧
      ∀ s, k.N (envOf s) (kk s)) : SV Γ (tFor wi g tb) env m k := by
  refine sv_forC (S := S) (ρ := Empty) (is := is) envOf ?_
  intro o e1 e2 σ w vs us bs Z R X kk0
  refine h o e1 e2 σ w vs us bs Z R X fun J ds md rs ws env1 m1 w1 ⟨s0, body, kk, em, l0, hb, hk⟩ em1 W R1 st1 => ?_
  refine kk0 J ds md rs ws env1 m1 w1 ⟨s0, fun x s => (body x s).bind fun s => .ok (.go s), fun z => match z with | .inl s => kk s | .inr r => r.elim, by rw [em]; exact foldR_loop body ds s0 kk, l0, fun d s hd => ?_, hk⟩ em1 W R1 st1
  refine gv_bind (hb d s hd) rfl fun e2 m2 h2 => ?_
  refine sv_bind h2 rfl ?_ ?_ ?_ ?_
  · rintro e3 m3 ⟨s', rfl, l⟩; exact ⟨s', rfl, l⟩
  · intro _ _ z; exact z.elim
  · rintro e3 m3 ⟨s', rfl, l⟩; exact ⟨s', rfl, l⟩
  · intro _ _ _ z; exact z.elim
/-- a while: n is the most turns that are looked at -/
theorem sv_while {S ρ : Type} (envOf : S → List Sl) (n : Nat) (s0 : S) (step : S → R (Ctl S ρ)) (kk : Sum S ρ → R β) (hm : m = (whileR n s0 step).bind kk) (l0 : Les env (envOf s0))
    (hb : ∀ s, TV Γ tt (envOf s) [] (step s) fun b env1 m1 => ∃ ma mb, m1 = (bif b then ma else mb) ∧ (∃ s, mb = .ok (.brk s) ∧ Les env1 (envOf s)) ∧ SV Γ tb env1 ma
      ⟨fun e m => ∃ s, m = .ok (.go s) ∧ Les e (envOf s), fun e m => ∃ s, m = .ok (.brk s) ∧ Les e (envOf s), fun e m => ∃ s, m = .ok (.go s) ∧ Les e (envOf s), fun r e m => ∃ z, m = .ok (.ret z) ∧ k.T r e (kk (.inr z))⟩)
    (hk : ∀ s, k.N (envOf s) (kk (.inl s))) : SV Γ (tWhile tt tb) env m k := by
  intro o e1 e2 σ w us bs D R X kN kB kC kT
  obtain ⟨w1, ew1, R1, st1⟩ := R.les l0
  rw [← ew1]
  refine ⟨fun j σ2 H2 => ∃ w2 s, w2.H = H2 ∧ Rel Γ.K w2 σ2 (envOf s) [] [] us bs ∧ Step w w2 ∧ (whileR j s step).bind kk = o, ⟨n, w1, s0, rfl, R1, st1, by rw [← hm, e1]⟩, ?_⟩
  rintro j σ2 H2 ⟨w2, s, rfl, R2, st2, eo⟩
  match j, eo with
  | 0, eo => exact absurd eo.symm e2
  | j + 1, eo =>
    generalize hbd : step s = ob at *
    have eo2 : (ob.bind fun | .go s => whileR j s step | .brk s => .ok (.inl s) | .ret r => .ok (.inr r)).bind kk = o := by
      rw [← eo, ← hbd]; rfl
    have X2 := X.step st2
    have Xb : XOk Γ ob w2 us bs := fun e he => X2 e (by rw [← eo2, he]; rfl)
    have nb : ob ≠ .stuck := fun z => by rw [z] at eo2; exact e2 eo2.symm
    refine hb s ob hbd nb σ2 w2 [] us bs _ R2 Xb fun b env1 m1 w3 ⟨ma, mb, em, ⟨sx, ex, lx⟩, hs⟩ em1 R3 s3 => ?_
    cases b with
    | false =>
      obtain ⟨w5, e5, R6, s6⟩ := R3.les lx
      rw [if_neg (by decide), ← e5]
      refine kN _ _ σ2 w5 (hk sx) ?_ R6 ((st2.trans s3).trans s6)
      rw [← eo2, ← em1, em]
      rw [show (bif false then ma else mb) = mb from rfl, ex]; rfl
    | true =>
      rw [if_pos rfl]
      refine ⟨fun σ4 H4 => ∃ w4 s, w4.H = H4 ∧ Rel Γ.K w4 σ4 (envOf s) [] [] us bs ∧ Step w w4 ∧ (whileR j s step).bind kk = o, fun σ4 H4 q => ⟨j, Nat.lt_succ_self j, q⟩, ?_⟩
      have bas := st2.trans s3
      refine hs ob (by rw [← em1, em]; rfl) nb σ2 w3 us bs _ R3 (Xb.step s3) ?_ ?_ ?_ ?_
      · rintro env3 m3 σ4 w4 ⟨s', es, l⟩ em3 R5 s5
        obtain ⟨w5, e5, R6, s6⟩ := R5.les l
        refine ⟨w5, s', e5, R6, (bas.trans s5).trans s6, ?_⟩
        rw [← eo2, ← em3, es]; rfl
      · rintro env3 m3 σ4 w4 ⟨s', es, l⟩ em3 R5 s5
        obtain ⟨w5, e5, R6, s6⟩ := R5.les l
        rw [← e5]
        refine kN _ _ σ4 w5 (hk s') ?_ R6 ((bas.trans s5).trans s6)
        rw [← eo2, ← em3, es]; rfl
      · rintro env3 m3 σ4 w4 ⟨s', es, l⟩ em3 R5 s5
        obtain ⟨w5, e5, R6, s6⟩ := R5.les l
        refine ⟨w5, s', e5, R6, (bas.trans s5).trans s6, ?_⟩
        rw [← eo2, ← em3, es]; rfl
      · rintro r env3 m3 σ4 v w4 ⟨z, es, ht⟩ em3 R5 s5
        refine kT _ _ _ σ4 v w4 ht ?_ R5 (bas.trans s5)
        rw [← eo2, ← em3, es]; rfl
/-! ### comprehensions -/
/-- the list that a comprehension makes, on top; what is next is laid behind it -/
theorem Rel.grow {K : PySem.W.Frag} {w : Wd} {σ : L2.St} {D : Addr} {xs : List V} {ds : List PyData} {vs us : List V} {bs : List Sl} {v : V} {r : Sl} {d : PyData} (R : Rel K w σ env (v :: vs) (r :: ts) (.ref D :: us) (.own (.list ds) :: bs)) (ho : OwnOf r d) (hD : w.H D = some (.lst xs)) (hl : ds.length < sizeLine) (kl : ts.map kill = ts) (ke : env.map kill = env) :
    ∃ w', w'.H = upd w.H D (.lst (xs ++ [v])) ∧ Rel K w' σ env vs ts (.ref D :: us) (.own (.list (ds ++ [d])) :: bs) ∧ Step w w' := by
  obtain ⟨F, G, B, h1, h2, h3, e⟩ := R.ex
  cases h2 with
  | cons hv h2 =>
    rename_i Fv G
    cases h3 with
    | cons hd h3 =>
      rename_i Fd B
      obtain ⟨hd1, hd2⟩ := hd
      cases hd1 with
      | leaf h => cases h
      | lst ha hi na =>
        rename_i xs2 Fi
        rw [hD] at ha
        cases ha
        obtain ⟨o1, o2⟩ := ho.toOwn hv
        have nd := R.nd
        rw [e] at nd
        have p1 : List.Perm (F ++ ((Fv ++ G) ++ ((D :: Fi) ++ B))) ((D :: (Fi ++ Fv)) ++ (F ++ G ++ B)) := by
          refine List.perm_iff_count.mpr fun b => ?_
          simp only [List.count_append, List.count_cons]
          omega
        have nd1 := p1.nodup_iff.mp nd
        obtain ⟨n1, n2, n3⟩ := List.nodup_append.mp nd1
        obtain ⟨n4, n5⟩ := List.nodup_cons.mp n1
        have memO : ∀ b, b ∈ w.O ↔ b ∈ (D :: (Fi ++ Fv)) ++ (F ++ G ++ B) := fun b => by rw [e]; exact p1.mem_iff
        have off : ∀ b ∈ F ++ G ++ B, b ≠ D := fun b hb z => n3 D List.mem_cons_self b hb z.symm
        have kp : Kp (At D) w.H (upd w.H D (.lst (xs ++ [v]))) := Kp.putL hD
        have shOff : ∀ b, w.Sh b → ¬ At D b := fun b q z => R.out D ((memO D).mpr (List.mem_append_left _ List.mem_cons_self)) (z ▸ q)
        have s1 := h1.tr (Tr.kp kp shOff (fun b hb => off b (List.mem_append_left _ (List.mem_append_left _ hb))))
        have s2 := h2.tr (Tr.kp kp shOff (fun b hb => off b (List.mem_append_left _ (List.mem_append_right _ hb))))
        have s3 := h3.tr (Tr.kp kp shOff (fun b hb => off b (List.mem_append_right _ hb)))
        have klB : bs.map kill = bs := by have := R.kl; simp at this; exact this.2
        rw [ke] at s1
        rw [kl] at s2
        rw [klB] at s3
        have oi := (hi.snoc o1 (fun x hx hy => (List.nodup_append.mp n5).2.2 x hx x hy rfl)).kp kp (fun b hb z => n4 (z ▸ hb))
        have p2 : List.Perm (F ++ (G ++ ((D :: (Fi ++ Fv)) ++ B))) ((D :: (Fi ++ Fv)) ++ (F ++ G ++ B)) := by
          refine List.perm_iff_count.mpr fun b => ?_
          simp only [List.count_append, List.count_cons]
          omega
        refine ⟨⟨_, w.Sh, F ++ (G ++ ((D :: (Fi ++ Fv)) ++ B))⟩, rfl, ⟨⟨F, G, _, s1, s2, .cons ⟨.lst upd_same oi n4, by rw [List.length_append]; simp; omega, szAll_append hd2.2 ⟨o2, trivial⟩⟩ s3, rfl⟩, p2.nodup_iff.mpr nd1, fun b hb => R.out b ((memO b).mpr (p2.mem_iff.mp hb)), fun b q z => R.lv b q (kp.live b z), by rw [List.map_cons, klB]; rfl⟩, ⟨?_, fun b hb => .inl ((memO b).mpr (p2.mem_iff.mp hb)), fun _ q => q, fun _ q => .inl q⟩⟩
        exact kp.wide fun b z => by rw [show b = D from z]; exact (memO D).mpr (List.mem_append_left _ List.mem_cons_self)
theorem killKill : ∀ r : Sl, kill (kill r) = kill r
  | .no => rfl
  | .imm _ => rfl
  | .shr _ => rfl
  | .own _ => rfl
  | .iow _ _ => rfl
  | .bor _ => rfl
  | .itT _ _ _ => rfl
  | .itL _ _ _ => rfl
  | .itS _ _ _ => rfl
  | .itP _ _ _ => rfl
  | .exc _ _ _ _ => rfl
  | .fdo _ => rfl
  | .fdw _ _ => rfl
theorem Sls.wipe {K : PySem.W.Frag} {H : Hp} {Sh : Addr → Prop} {σ : L2.St} {env : List Sl} {F : List Addr} (h : Sls K H Sh σ env F) : ∀ {vs : List Nat}, (∀ i ∈ vs, ∀ r, env[i]? = some r → r = .no) → Sls K H Sh (L2.wipe σ vs) env F
  | [], _ => h
  | v :: vs, hv => by
    have ih := Sls.wipe h (vs := vs) fun i hi => hv i (List.mem_cons_of_mem _ hi)
    unfold L2.wipe
    cases e : env[v]? with
    | none =>
      have : (L2.wipe σ vs).length ≤ v := by
        rw [ih.len]; exact List.getElem?_eq_none_iff.mp e
      rw [List.set_eq_of_length_le this]
      exact ih
    | some r =>
      have er := hv v List.mem_cons_self r e
      subst er
      obtain ⟨ov, F1, F2, F3, es, hs, eF, go⟩ := ih.split e
      rcases hs with ⟨_, rfl⟩ | ⟨x, rfl, hs⟩
      · have := go none .no [] (Tr.non (Sh := Sh) Kp.refl) (.inl ⟨rfl, rfl⟩)
        rw [mapId] at this
        have e2 : env.set v .no = env := by
          obtain ⟨hh, q⟩ := List.getElem?_eq_some_iff.mp e
          rw [← q]; exact List.set_getElem_self hh
        rw [e2] at this
        rw [eF]
        exact this
      · have hs : F2 = [] := hs
        subst hs
        have := go none .no [] (Tr.non (Sh := Sh) Kp.refl) (.inl ⟨rfl, rfl⟩)
        rw [mapId] at this
        have e2 : env.set v .no = env := by
          obtain ⟨hh, q⟩ := List.getElem?_eq_some_iff.mp e
          rw [← q]; exact List.set_getElem_self hh
        rw [e2] at this
        rw [eF]
        exact this
theorem Sls.unwipe {K : PySem.W.Frag} {H : Hp} {Sh : Addr → Prop} : ∀ {vs : List Nat} {σ : L2.St} {env : List Sl} {F : List Addr}, Sls K H Sh (L2.wipe σ vs) env F → (∀ i ∈ vs, ∀ r, env[i]? = some r → r = .no) → Sls K H Sh σ env F
  | [], σ, env, F, h, _ => h
  | v :: vs, σ, env, F, h, hv => by
    unfold L2.wipe at h
    refine Sls.unwipe (vs := vs) ?_ fun i hi => hv i (List.mem_cons_of_mem _ hi)
    cases e : env[v]? with
    | none =>
      have l1 := h.len
      rw [List.length_set] at l1
      have : (L2.wipe σ vs).length ≤ v := by rw [l1]; exact List.getElem?_eq_none_iff.mp e
      rw [List.set_eq_of_length_le this] at h
      exact h
    | some r =>
      have er := hv v List.mem_cons_self r e
      subst er
      obtain ⟨ov, F1, F2, F3, es, hs, eF, go⟩ := h.split e
      have hF : F2 = [] := by
        rcases hs with ⟨_, q⟩ | ⟨x, _, hs⟩
        · exact q
        · exact hs
      subst hF
      have hv2 : v < (L2.wipe σ vs).length := by
        have := (List.getElem?_eq_some_iff.mp es).1
        rwa [List.length_set] at this
      have := go ((L2.wipe σ vs)[v]) .no [] (Tr.non (Sh := Sh) Kp.refl) (.inl ⟨rfl, rfl⟩)
      rw [mapId, List.set_set, List.set_getElem_self] at this
      have e2 : env.set v .no = env := by
        obtain ⟨hh, q⟩ := List.getElem?_eq_some_iff.mp e
        rw [← q]; exact List.set_getElem_self hh
      rw [e2] at this
      rw [eF]
      exact this
/-- a comprehension: the general form. In a turn: the target, the test, the item -/
theorem ev_lc {S : Type} {vs : List Nat} (envOf : S → List Sl) (hno : ∀ s, ∀ i ∈ vs, ∀ r, (envOf s)[i]? = some r → r = .no) (hkl : ∀ s, (envOf s).map kill = envOf s) (his : ∀ i ∈ is, i ∈ vs) (ktl : ts.map kill = ts)
    (h : IV Γ wi env ts m fun ds md env1 m1 => ∃ (s0 : S) (body : PyData → S → R (Option PyData × S)) (kk : List PyData × S → R β), m1 = (lcR ds s0 body).bind kk ∧ Les env1 (envOf s0) ∧
      (∀ d s, d ∈ ds → GV Γ g is (md d) (envOf s) (body d s) fun env2 m2 => TV Γ tt env2 ts m2 fun b env3 m3 => ∃ ma mb, m3 = (bif b then ma else mb) ∧
        (b = true → EV Γ te env3 ts ma fun r env4 m4 => ∃ s y, m4 = .ok (some y, s) ∧ OwnOf r y ∧ Les env4 (envOf s)) ∧ (b = false → ∃ s, mb = .ok (Option.none, s) ∧ Les env3 (envOf s))) ∧
      ∀ p, Φ (.own (.list p.1)) (envOf p.2) (kk p)) : EV Γ (tLc wi g tt te vs) env ts m Φ := by
  intro o e1 e2 σ w vs0 us bs Q R X kz
  refine h o e1 e2 σ w vs0 us bs _ R X fun J ds md rs ws env1 m1 w1 ⟨s0, body, kk, em, l0, hb, hk⟩ em1 W R1 st1 => ?_
  obtain ⟨Gh, Y, wk, wG, wY⟩ := W.ex
  intro D nD
  -- the list so far, xs and its data; wiped slots
  let Pv : Nat → Hp → Prop := fun i H2 => ∃ w2 s acc xs, w2.H = H2 ∧ H2 D = some (.lst xs) ∧ Rel Γ.K w2 σ (envOf s) vs0 ts (.ref D :: (ws ++ us)) (.own (.list acc) :: (rs ++ bs)) ∧ Step w1 w2 ∧ acc.length ≤ i ∧ ((lcR (ds.drop i) s body).bind fun q => .ok (acc ++ q.1, q.2)).bind kk = o
  refine lc_it wk Pv ?_ ?_ ?_ ?_
  · obtain ⟨w2, e3, R2, st2⟩ := R1.les l0
    have nD2 : w2.H D = none := by rw [e3]; exact nD
    obtain ⟨w3, e4, R3, st3⟩ := Rel.res (ws := []) (rs := []) (v := .ref D) (r := .own (.list [])) R2 rfl (Kp.new (o := .lst []) nD2) (.own (F := [D]) (.lst upd_same .nil (by simp)) (fun a ha => by rw [List.mem_singleton.mp ha]; exact nD2) ⟨Nat.zero_le _, trivial⟩)
    obtain ⟨w4, e5, R4, st4⟩ := Rel.base (ws := [.ref D]) (rs := [.own (.list [])]) R3 rfl rfl
    refine ⟨w4, s0, [], [], by rw [e5, e4, e3], upd_same, R4, (st2.trans st3).trans st4, Nat.zero_le _, ?_⟩
    rw [List.drop_zero, ← em1, em]
    cases lcR ds s0 body <;> rfl
  · rintro i H2 _ ⟨w2, s, acc, xs, rfl, _, R2, _⟩
    obtain ⟨A, ha⟩ := Rel.under1 (ws := V.ref D :: ws) (rs := .own (.list acc) :: rs) (us := us) (bs := bs) R2 (by simp [W.le])
    cases ha with
    | cons _ ha => exact wG _ _ _ ha
  · rintro i x H2 H3 hi ⟨w2, s, acc, xs, rfl, hD, R2, st2, hac, eo⟩ y
    obtain ⟨A, ha⟩ := Rel.under1 (ws := V.ref D :: ws) (rs := .own (.list acc) :: rs) (us := us) (bs := bs) R2 (by simp [W.le])
    cases ha with
    | cons hDr ha =>
    have xl : xs.length = acc.length ∧ szAll acc := by
      obtain ⟨q1, q2⟩ := hDr
      cases q1 with
      | leaf z => cases z
      | lst z1 z2 _ =>
        rw [hD] at z1
        cases z1
        refine ⟨?_, q2.2⟩
        have dl : ∀ {xs : List V} {ds : List PyData} {F : List Addr}, Owns Γ.K w2.H xs ds F → xs.length = ds.length := by
          intro xs
          induction xs with
          | nil => intro ds F h; cases h; rfl
          | cons x xs ih => intro ds F h; cases h with
            | cons h q _ => simp [ih q]
        exact dl z2
    have ed : ds[i]? = some ds[i] := List.getElem?_eq_getElem hi
    obtain ⟨kp, sr⟩ := wY i _ _ _ _ _ _ ed ha R2.lv y
    rw [List.drop_eq_getElem_cons hi] at eo
    have hD3 : H3 D = some (.lst xs) := kp.same _ _ (fun z => z) hD
    have R2w : Rel Γ.K w2 (wipe σ vs) (envOf s) vs0 ts (.ref D :: (ws ++ us)) (.own (.list acc) :: (rs ++ bs)) := by
      obtain ⟨F, G, B, h1, h2, h3, e⟩ := R2.ex
      exact ⟨⟨F, G, B, h1.wipe (hno s), h2, h3, e⟩, R2.nd, R2.out, R2.lv, R2.kl⟩
    have R3 := (R2w.non kp).push0 sr
    have s3 : Step w2 { w2 with H := H3 } := Step.non kp
    have X3 := X.step ((st1.trans st2).trans s3)
    generalize hbd : body ds[i] s = ob at *
    have eo2 : ((ob.bind fun p => (lcR (ds.drop (i + 1)) p.2 body).bind fun q => .ok (p.1.toList ++ q.1, q.2)).bind fun q => .ok (acc ++ q.1, q.2)).bind kk = o := by
      rw [← eo, ← hbd]; rfl
    have Xb : XOk Γ ob { w2 with H := H3 } (.ref D :: (ws ++ us)) (.own (.list acc) :: (rs ++ bs)) := fun e he => (X3.lay (ws := .ref D :: ws) (rs := .own (.list acc) :: rs) (congrArg (· + 1) W.le)) e (by rw [← eo2, he]; rfl)
    have nb : ob ≠ .stuck := fun z => by rw [z] at eo2; exact e2 eo2.symm
    -- D stands apart from all that may be written
    have keepD : ∀ (wa : Wd), Step { w2 with H := H3 } wa → True := fun _ _ => trivial
    refine hb ds[i] s (List.getElem_mem hi) ob hbd nb (wipe σ vs) { w2 with H := H3 } x vs0 (.ref D :: (ws ++ us)) ts (.own (.list acc) :: (rs ++ bs)) _ R3 Xb fun env2 m2 σ3 w3 h2 em2 R4 s4 q4 => ?_
    refine ⟨(q4 vs his).trans (by refine List.ext_getElem? fun n => ?_; simp only [wipeGet, wipe_length]; split <;> rfl), ?_⟩
    have wσ : wipe σ3 vs = wipe σ vs := (q4 vs his).trans (by refine List.ext_getElem? fun n => ?_; simp only [wipeGet, wipe_length]; split <;> rfl)
    refine h2 ob em2 nb σ3 w3 vs0 (.ref D :: (ws ++ us)) (.own (.list acc) :: (rs ++ bs)) _ R4 (Xb.step s4) fun b env3 m3 w5 ⟨ma, mb, em3, ha3, hb3⟩ em4 R5 s5 => ?_
    have bas := ((st2.trans s3).trans s4).trans s5
    have back : ∀ {wz : Wd} {e : List Sl} {s' : S} {acc' : List PyData}, Rel Γ.K wz σ3 e vs0 ts (.ref D :: (ws ++ us)) (.own (.list acc') :: (rs ++ bs)) → Les e (envOf s') → ∃ wy, wy.H = wz.H ∧ Rel Γ.K wy σ (envOf s') vs0 ts (.ref D :: (ws ++ us)) (.own (.list acc') :: (rs ++ bs)) ∧ Step wz wy := by
      intro wz e s' acc' Rz l
      obtain ⟨wy, ey, Ry, sy⟩ := Rz.les l
      refine ⟨wy, ey, ?_, sy⟩
      obtain ⟨F, G, B, h1, h2, h3, e⟩ := Ry.ex
      have h1' := h1.wipe (hno s')
      rw [wσ] at h1'
      exact ⟨⟨F, G, B, h1'.unwipe (hno s'), h2, h3, e⟩, Ry.nd, Ry.out, Ry.lv, Ry.kl⟩
    have hDof : ∀ {wz : Wd} {σz : L2.St} {e : List Sl} {tz : List Sl} {vz : List V} {acc' : List PyData}, Rel Γ.K wz σz e vz tz (.ref D :: (ws ++ us)) (.own (.list acc') :: (rs ++ bs)) → ∃ zs, wz.H D = some (.lst zs) ∧ zs.length = acc'.length := by
      intro wz σz e tz vz acc' Rz
      obtain ⟨A, ha⟩ := Rel.under1 (ws := V.ref D :: ws) (rs := .own (.list acc') :: rs) (us := us) (bs := bs) Rz (by simp [W.le])
      cases ha with
      | cons hh _ =>
        obtain ⟨q1, q2⟩ := hh
        cases q1 with
        | leaf z => cases z
        | lst z1 z2 _ =>
          have dl : ∀ {xs : List V} {ds : List PyData} {F : List Addr}, Owns Γ.K wz.H xs ds F → xs.length = ds.length := by
            intro xs
            induction xs with
            | nil => intro ds F h; cases h; rfl
            | cons x xs ih => intro ds F h; cases h with
              | cons h q _ => simp [ih q]
          exact ⟨_, z1, dl z2⟩
    cases b with
    | false =>
      rw [if_neg (by decide)]
      obtain ⟨s', es, l⟩ := hb3 rfl
      obtain ⟨wy, ey, Ry, sy⟩ := back R5 l
      obtain ⟨zs, hz, _⟩ := hDof Ry
      refine ⟨wy, s', acc, zs, ey, by rw [← ey]; exact hz, Ry, bas.trans sy, by omega, ?_⟩
      have : ob = .ok (none, s') := by rw [← em4, em3, ← es]; rfl
      rw [← eo2, this]
      simp only [Vl.R.bind_ok]
      cases lcR (ds.drop (i + 1)) s' body <;> rfl
    | true =>
      rw [if_pos rfl]
      refine ha3 rfl ob (by rw [← em4, em3]; rfl) nb σ3 w5 vs0 (.ref D :: (ws ++ us)) (.own (.list acc) :: (rs ++ bs)) _ R5 ((Xb.step s4).step s5) fun r env4 m4 v w6 ⟨s', y2, es, ho, l⟩ em5 R6 s6 => ?_
      obtain ⟨zs, hz, hzl⟩ := hDof R6
      have hsz := W.sz
      have hsl : acc.length < sizeLine := by omega
      refine ⟨zs, hz, by omega, ?_⟩
      -- first the slots, then the list
      obtain ⟨w7, e7, R7, s7⟩ := R6.les l
      have R7w : Rel Γ.K w7 σ (envOf s') (v :: vs0) (r :: ts) (.ref D :: (ws ++ us)) (.own (.list acc) :: (rs ++ bs)) := by
        obtain ⟨F, G, B, h1, h2, h3, e⟩ := R7.ex
        have h1' := h1.wipe (hno s')
        rw [wσ] at h1'
        exact ⟨⟨F, G, B, h1'.unwipe (hno s'), h2, h3, e⟩, R7.nd, R7.out, R7.lv, R7.kl⟩
      obtain ⟨w8, e8, R8, s8⟩ := R7w.grow ho (by rw [e7]; exact hz) hsl ktl (hkl s')
      refine ⟨w8, s', acc ++ [y2], zs ++ [v], by rw [e8, e7], upd_same, R8, ((bas.trans s6).trans s7).trans s8, by rw [List.length_append]; simp; omega, ?_⟩
      rw [← eo2, ← em5, es]
      simp only [Vl.R.bind_ok]
      cases lcR (ds.drop (i + 1)) s' body with
      | ok q => simp
      | exc e => rfl
      | stuck => rfl
  · rintro H2 ⟨w2, s, acc, xs, rfl, hD, R2, st2, hac, eo⟩
    rw [List.drop_of_length_le (Nat.le_refl _)] at eo
    -- the list comes on top
    have R3 : ∃ w3, w3.H = w2.H ∧ Rel Γ.K w3 σ (envOf s) (.ref D :: vs0) (.own (.list acc) :: ts) us bs ∧ Step w2 w3 := by
      obtain ⟨F, G, B, h1, h2, h3, e⟩ := R2.ex
      cases h3 with
      | cons hh h3 =>
        rename_i Fd B
        obtain ⟨A, B', eB, _, g3⟩ := h3.split W.le
        subst eB
        have sub : List.Sublist (F ++ ((G ++ []) ++ (Fd ++ B'))) w.O ∨ True := .inr trivial
        have p : List.Perm (F ++ (G ++ (Fd ++ (A ++ B')))) (A ++ (F ++ ((Fd ++ G) ++ B'))) := by
          refine List.perm_iff_count.mpr fun b => ?_
          simp only [List.count_append]
          omega
        have nd := R2.nd
        rw [e] at nd
        have nd2 := (List.nodup_append.mp (p.nodup_iff.mp nd)).2.1
        have sb : ∀ a ∈ F ++ ((Fd ++ G) ++ B'), a ∈ w2.O := fun a ha => by rw [e]; exact p.mem_iff.mpr (List.mem_append_right _ ha)
        have klb : bs.map kill = bs := by
          have := R2.kl
          simp only [List.map_cons, List.map_append, List.cons.injEq] at this
          exact (List.append_inj this.2 (List.length_map _)).2
        exact ⟨⟨w2.H, w2.Sh, F ++ ((Fd ++ G) ++ B')⟩, rfl, ⟨⟨F, Fd ++ G, B', h1, .cons hh h2, g3, rfl⟩, nd2, fun a ha => R2.out a (sb a ha), R2.lv, klb⟩, ⟨Kp.refl, fun a ha => .inl (sb a ha), fun _ q => q, fun _ q => .inl q⟩⟩
    obtain ⟨w3, e3, R3, s3⟩ := R3
    rw [← e3]
    refine kz _ _ _ _ w3 (hk (acc, s)) ?_ R3 ((st1.trans st2).trans s3)
    rw [← eo]
    simp [lcR]
end
end Vl
/-! Readings against functions: what a def promises, a def by its body, its calls. -/
namespace Vl
open PySem PySem.Spec PyProof.Rows L2 Hw
/-- how a parameter is handed: data without lists; data read only; a list lent to be written -/
inductive Pm where
  | imm
  | shr
  | io
  | fd
section
variable (K : PySem.W.Frag) (H : Hp) (Sh : Addr → Prop)
inductive ArgsR : List Pm → List V → List PyData → List Addr → Prop
  | nil : ArgsR [] [] [] []
  | imm {v : V} {d : PyData} {ps : List Pm} {vs : List V} {ds : List PyData} {O : List Addr} : TD K H v d → szD d → ArgsR ps vs ds O → ArgsR (.imm :: ps) (v :: vs) (d :: ds) O
  | shr {v : V} {d : PyData} {ps : List Pm} {vs : List V} {ds : List PyData} {O : List Addr} : Shd K H Sh v d → szD d → ArgsR ps vs ds O → ArgsR (.shr :: ps) (v :: vs) (d :: ds) O
  | io {v : V} {d : PyData} {ps : List Pm} {vs : List V} {ds : List PyData} {F O : List Addr} : Own K H v d F → szD d → ArgsR ps vs ds O → ArgsR (.io :: ps) (v :: vs) (d :: ds) (F ++ O)
  | fd {v : V} {d : PyData} {ps : List Pm} {vs : List V} {ds : List PyData} {F O : List Addr} : FdR H v d F → ArgsR ps vs ds O → ArgsR (.fd :: ps) (v :: vs) (d :: ds) (F ++ O)
/-- what was lent, behind -/
inductive IoR : List Pm → List V → List PyData → List Addr → Prop
  | nil : IoR [] [] [] []
  | imm {v : V} {ps : List Pm} {vs : List V} {ds : List PyData} {O : List Addr} : IoR ps vs ds O → IoR (.imm :: ps) (v :: vs) ds O
  | shr {v : V} {ps : List Pm} {vs : List V} {ds : List PyData} {O : List Addr} : IoR ps vs ds O → IoR (.shr :: ps) (v :: vs) ds O
  | io {v : V} {d : PyData} {ps : List Pm} {vs : List V} {ds : List PyData} {F O : List Addr} : Own K H v d F → szD d → IoR ps vs ds O → IoR (.io :: ps) (v :: vs) (d :: ds) (F ++ O)
  | fd {v : V} {d : PyData} {ps : List Pm} {vs : List V} {ds : List PyData} {F O : List Addr} : FdR H v d F → IoR ps vs ds O → IoR (.fd :: ps) (v :: vs) (d :: ds) (F ++ O)
end
/-- what is owned stands apart from what is shared; what is shared is there -/
def Wd.Ok (w : Wd) : Prop := (∀ x ∈ w.O, ¬ w.Sh x) ∧ ∀ x, w.Sh x → w.H x ≠ none
/-- the promise: f of the data -/
def spV (K : PySem.W.Frag) (cm : Str → Option Addr) {α ω : Type} (ps : List Pm) (enc : α → List PyData) (f : α → R ω) (rm : ω → Sl) (io : ω → List PyData) : Sp := fun vs H Q E =>
  ∃ (a : α) (Sh : Addr → Prop) (O : List Addr), ArgsR K H Sh ps vs (enc a) O ∧ O.Nodup ∧ (∀ x ∈ O, ¬ Sh x) ∧ (∀ x, Sh x → H x ≠ none) ∧ f a ≠ .stuck ∧
    (∀ z, f a = .ok z → ∀ v w', Step ⟨H, Sh, O⟩ w' → (∃ F G, IoR K w'.H ps vs (io z) F ∧ SlR K w'.H w'.Sh v (rm z) G ∧ w'.O = F ++ G) → w'.O.Nodup → w'.Ok → Q v w'.H) ∧
    (∀ e, f a = .exc e → ∀ C d H', cm e.cls = some C → ExcAt K H' d e → Kp (· ∈ O) H H' → (∀ x, d = some x → H x = none) → E (.ref C) d H')
theorem ArgsR.len {K : PySem.W.Frag} {H : Hp} {Sh : Addr → Prop} {ps : List Pm} {vs : List V} {ds : List PyData} {O : List Addr} (h : ArgsR K H Sh ps vs ds O) : vs.length = ps.length := by
  induction h with
  | nil => rfl
  | imm _ _ _ ih => simp [ih]
  | shr _ _ _ ih => simp [ih]
  | io _ _ _ ih => simp [ih]
  | fd _ _ ih => simp [ih]
theorem spV_len {K : PySem.W.Frag} {cm : Str → Option Addr} {α ω : Type} {ps : List Pm} {enc : α → List PyData} {f : α → R ω} {rm : ω → Sl} {io : ω → List PyData} {vs : List V} {H : Hp} {Q : VK} {E : XK} (h : spV K cm ps enc f rm io vs H Q E) : vs.length = ps.length := by
  obtain ⟨a, Sh, O, h, _⟩ := h
  exact h.len
/-- slots at a def's entry -/
def env0 : List Pm → List V → List PyData → Nat → List Sl
  | .imm :: ps, _ :: vs, d :: ds, n => .imm d :: env0 ps vs ds n
  | .shr :: ps, _ :: vs, d :: ds, n => .shr d :: env0 ps vs ds n
  | .io :: ps, v :: vs, d :: ds, n => .iow v d :: env0 ps vs ds n
  | .fd :: ps, v :: vs, d :: ds, n => .fdw v d :: env0 ps vs ds n
  | _, _, _, n => List.replicate n .no
/-- what was lent, as the slots tell it at the end -/
inductive IosE : List Pm → List V → List Sl → List PyData → Prop
  | nil {env : List Sl} : IosE [] [] env []
  | imm {v : V} {ps : List Pm} {vs : List V} {r : Sl} {env : List Sl} {ds : List PyData} : IosE ps vs env ds → IosE (.imm :: ps) (v :: vs) (r :: env) ds
  | shr {v : V} {ps : List Pm} {vs : List V} {r : Sl} {env : List Sl} {ds : List PyData} : IosE ps vs env ds → IosE (.shr :: ps) (v :: vs) (r :: env) ds
  | io {v : V} {d : PyData} {ps : List Pm} {vs : List V} {env : List Sl} {ds : List PyData} : IosE ps vs env ds → IosE (.io :: ps) (v :: vs) (.iow v d :: env) (d :: ds)
  | fd {v : V} {d : PyData} {ps : List Pm} {vs : List V} {env : List Sl} {ds : List PyData} : IosE ps vs env ds → IosE (.fd :: ps) (v :: vs) (.fdw v d :: env) (d :: ds)
def retK {ω : Type} (ps : List Pm) (vs : List V) (rm : ω → Sl) (io : ω → List PyData) : Ks ω where
  N := fun env m => ∃ z, m = .ok z ∧ rm z = .imm .none ∧ IosE ps vs env (io z)
  B := fun _ _ => False
  C := fun _ _ => False
  T := fun r env m => ∃ z, m = .ok z ∧ r = rm z ∧ IosE ps vs env (io z)
section
variable {K : PySem.W.Frag} {H : Hp} {Sh : Addr → Prop}
theorem slsNo : ∀ n : Nat, Sls K H Sh (List.replicate n none) (List.replicate n .no) []
  | 0 => .nil
  | n + 1 => Sls.cons (F := []) (.inl ⟨rfl, rfl⟩) (slsNo n)
theorem slsStart : ∀ {ps : List Pm} {vs : List V} {ds : List PyData} {O : List Addr} (n : Nat), ArgsR K H Sh ps vs ds O → Sls K H Sh (vs.map some ++ List.replicate n none) (env0 ps vs ds n) O
  | _, _, _, _, n, .nil => slsNo n
  | _, _, _, _, n, .imm h z q => Sls.cons (F := []) (.inr ⟨_, rfl, rfl, h, z⟩) (slsStart n q)
  | _, _, _, _, n, .shr h z q => Sls.cons (F := []) (.inr ⟨_, rfl, rfl, h, z⟩) (slsStart n q)
  | _, _, _, _, n, .io h z q => Sls.cons (.inr ⟨_, rfl, ⟨h, z⟩, rfl⟩) (slsStart n q)
  | _, _, _, _, n, .fd h q => Sls.cons (.inr ⟨_, rfl, h, rfl⟩) (slsStart n q)
theorem iosEnd : ∀ {ps : List Pm} {vs : List V} {env : List Sl} {ds : List PyData} {σ : L2.St} {F : List Addr}, IosE ps vs env ds → Sls K H Sh σ env F → ∃ F', IoR K H ps vs ds F' ∧ F'.Sublist F
  | _, _, _, _, _, _, .nil, _ => ⟨[], .nil, List.nil_sublist _⟩
  | _, _, _, _, _, _, .imm h, .cons (F := F) _ q => by
    obtain ⟨F', h1, h2⟩ := iosEnd h q
    exact ⟨F', .imm h1, h2.trans (List.sublist_append_right _ _)⟩
  | _, _, _, _, _, _, .shr h, .cons (F := F) _ q => by
    obtain ⟨F', h1, h2⟩ := iosEnd h q
    exact ⟨F', .shr h1, h2.trans (List.sublist_append_right _ _)⟩
  | _, _, _, _, _, _, .io h, .cons (F := F) so q => by
    obtain ⟨F', h1, h2⟩ := iosEnd h q
    rcases so with ⟨z, _⟩ | ⟨v, rfl, so⟩
    · cases z
    · obtain ⟨⟨o1, o2⟩, rfl⟩ := so
      exact ⟨F ++ F', .io o1 o2 h1, List.Sublist.append (List.Sublist.refl _) h2⟩
  | _, _, _, _, _, _, .fd h, .cons (F := F) so q => by
    obtain ⟨F', h1, h2⟩ := iosEnd h q
    rcases so with ⟨z, _⟩ | ⟨v, rfl, so⟩
    · cases z
    · obtain ⟨o1, rfl⟩ := so
      exact ⟨F ++ F', .fd o1 h1, List.Sublist.append (List.Sublist.refl _) h2⟩
end
/-- a def by its body -/
theorem spV_body {K : PySem.W.Frag} {cm : Str → Option Addr} {α ω : Type} {ps : List Pm} {enc : α → List PyData} {f : α → R ω} {rm : ω → Sl} {io : ω → List PyData} {vs : List V} {H : Hp} {Q : VK} {E : XK} {t : TS} {N : List Str} {n : Nat}
    (h : spV K cm ps enc f rm io vs H Q E) (hn : N.length - ps.length = n) (sv : ∀ a vs, vs.length = ps.length → SV (ctxF K cm E) t (env0 ps vs (enc a) n) (f a) (retK ps vs rm io)) : t { nx := fun _ H' => Q .non H', rt := Q } (L2.start N vs) H := by
  obtain ⟨a, Sh, O, hA, nd, out, lv, ns, hok, hex⟩ := h
  have hl := hA.len
  have R0 : Rel K ⟨H, Sh, O⟩ (L2.start N vs) (env0 ps vs (enc a) n) [] [] [] [] := by
    refine ⟨⟨O, [], [], ?_, .nil, .nil, by simp⟩, nd, out, lv, rfl⟩
    unfold L2.start
    rw [hl, hn]
    exact slsStart n hA
  refine sv a vs hl (f a) rfl ns (L2.start N vs) ⟨H, Sh, O⟩ [] [] _ R0 (fun e he C d H' hc hx hk fr => hex e he C d H' hc hx hk fr) ?_ (fun _ _ _ _ z => z.elim) (fun _ _ _ _ z => z.elim) ?_
  · rintro env' m' σ' w' ⟨z, em, er, hio⟩ e2 R' s'
    obtain ⟨F, G, B, h1, h2, h3, eO⟩ := R'.ex
    obtain ⟨F', q1, q2⟩ := iosEnd hio h1
    cases h2
    cases h3
    have sub : F'.Sublist w'.O := by rw [eO]; exact q2.trans (List.sublist_append_left _ _)
    refine hok z (by rw [← em, e2]) .non ⟨w'.H, w'.Sh, F' ++ []⟩ ?_ ⟨F', [], q1, by rw [er]; exact ⟨rfl, .non, trivial⟩, rfl⟩ (by rw [List.append_nil]; exact sub.nodup R'.nd) ⟨fun x hx => R'.out x (sub.subset (by rwa [List.append_nil] at hx)), R'.lv⟩
    exact ⟨s'.kp, fun x hx => s'.own x (sub.subset (by rwa [List.append_nil] at hx)), s'.sh, s'.sn⟩
  · rintro r env' m' σ' v w' ⟨z, em, er, hio⟩ e2 R' s'
    subst er
    obtain ⟨F, G, B, h1, h2, h3, eO⟩ := R'.ex
    obtain ⟨F', q1, q2⟩ := iosEnd hio h1
    cases h3
    cases h2 with
    | cons hv h2 =>
      cases h2
      rename_i G
      have sub : (F' ++ G).Sublist w'.O := by
        rw [eO]
        exact List.Sublist.append q2 (by simp)
      refine hok z (by rw [← em, e2]) v ⟨w'.H, w'.Sh, F' ++ G⟩ ?_ ⟨F', G, q1, hv, rfl⟩ (sub.nodup R'.nd) ⟨fun x hx => R'.out x (sub.subset hx), R'.lv⟩
      exact ⟨s'.kp, fun x hx => s'.own x (sub.subset hx), s'.sh, s'.sn⟩
/-! ### calls -/
inductive Arg where
  | val (r : Sl)
  | al (j : Nat)
def vals : List Arg → List Sl
  | [] => []
  | .val r :: as => r :: vals as
  | .al _ :: as => vals as
inductive Fits (σ : L2.St) : List Arg → List V → List V → Prop
  | nil : Fits σ [] [] []
  | val {r : Sl} {v : V} {as : List Arg} {all ws : List V} : Fits σ as all ws → Fits σ (.val r :: as) (v :: all) (v :: ws)
  | al {j : Nat} {v : V} {as : List Arg} {all ws : List V} : σ[j]? = some (some v) → Fits σ as all ws → Fits σ (.al j :: as) (v :: all) ws
def EX (Γ : Ctx) {β : Type} (t : TA) (env ts : List Sl) (m : R β) (Φ : List Arg → List Sl → R β → Prop) : Prop :=
  ∀ (o : R β), m = o → o ≠ .stuck → ∀ (σ : L2.St) (w : Wd) (vs us : List V) (bs : List Sl) (Q : List V → Hp → Prop), Rel Γ.K w σ env vs ts us bs → XOk Γ o w us bs →
    (∀ as env' m' all ws w', Φ as env' m' → m' = o → Rel Γ.K w' σ env' (ws.reverse ++ vs) ((vals as).reverse ++ ts) us bs → ws.length = (vals as).length → Fits σ as all ws → Step w w' → Q all w'.H) → t σ w.H Q
section
variable {Γ : Ctx} {β : Type} {m : R β} {env env' ts : List Sl} {te : TE} {ta : TA} {i j : Nat} {Φ : Sl → List Sl → R β → Prop} {Ω : List Arg → List Sl → R β → Prop}
theorem ex_nil (h : Ω [] env m) : EX Γ tNil env ts m Ω := by
  intro o e1 e2 σ w vs us bs Q R X kk
  exact kk [] env m [] [] w h e1 R rfl .nil Step.refl
theorem ex_val (h : EV Γ te env ts m fun r env1 m1 => EX Γ ta env1 (r :: ts) m1 fun as env2 m2 => Ω (.val r :: as) env2 m2) : EX Γ (tCons te ta) env ts m Ω := by
  intro o e1 e2 σ w vs us bs Q R X kk
  refine h o e1 e2 σ w vs us bs _ R X fun r1 env1 m1 x w1 h1 em1 R1 s1 => ?_
  refine h1 o em1 e2 σ w1 (x :: vs) us bs _ R1 (X.step s1) fun as env2 m2 all ws w2 h2 em2 R2 el ft s2 => ?_
  refine kk (.val r1 :: as) env2 m2 (x :: all) (x :: ws) w2 h2 em2 ?_ (by simp [vals, el]) (.val ft) (s1.trans s2)
  show Rel Γ.K w2 σ env2 ((x :: ws).reverse ++ vs) ((r1 :: vals as).reverse ++ ts) us bs
  rw [List.reverse_cons, List.reverse_cons, List.append_assoc, List.append_assoc]
  exact R2
theorem ex_al {r : Sl} (e : env[j]? = some r) (n : r ≠ .no) (h : EX Γ ta env ts m fun as env2 m2 => Ω (.al j :: as) env2 m2) : EX Γ (tCons (tVar j) ta) env ts m Ω := by
  intro o e1 e2 σ w vs us bs Q R X kk
  obtain ⟨F, G, B, h1, h2, h3, eO⟩ := R.ex
  obtain ⟨ov, F1, F2, F3, es, hs, _, _⟩ := h1.split e
  rcases hs with ⟨z, _⟩ | ⟨v, rfl, hs⟩
  · exact absurd z n
  · refine ⟨v, es, h o e1 e2 σ w vs us bs _ R X fun as env2 m2 all ws w2 h2 em2 R2 el ft s2 => ?_⟩
    exact kk (.al j :: as) env2 m2 (v :: all) ws w2 h2 em2 R2 el (.al es ft) s2
/-- args that fit the params of a call that writes nothing lent: all are told -/
inductive FitP (env : List Sl) : List Pm → List Arg → List PyData → Prop
  | nil : FitP env [] [] []
  | imm {d : PyData} {ps : List Pm} {as : List Arg} {ds : List PyData} : FitP env ps as ds → FitP env (.imm :: ps) (.val (.imm d) :: as) (d :: ds)
  | shr {r : Sl} {d : PyData} {ps : List Pm} {as : List Arg} {ds : List PyData} : SlD r d → FitP env ps as ds → FitP env (.shr :: ps) (.val r :: as) (d :: ds)
  | al {r : Sl} {j : Nat} {d : PyData} {ps : List Pm} {as : List Arg} {ds : List PyData} : env[j]? = some r → SlD r d → FitP env ps as ds → FitP env (.shr :: ps) (.al j :: as) (d :: ds)
theorem fitArgs {K : PySem.W.Frag} {w : Wd} {σ : L2.St} {env : List Sl} {F : List Addr} (hs : Sls K w.H w.Sh σ env F) (lv : ∀ a, w.Sh a → w.H a ≠ none) : ∀ {ps : List Pm} {as : List Arg} {ds : List PyData} {all ws : List V} {A : List Addr},
    FitP env ps as ds → Fits σ as all ws → Tms K w.H w.Sh ws (vals as) A → ArgsR K w.H (fun a => w.H a ≠ none) ps all ds []
  | _, _, _, _, _, _, .nil, .nil, _ => .nil
  | _, _, _, _, _, _, .imm q, .val f, .cons h t => .imm h.2.1 h.2.2 (fitArgs hs lv q f t)
  | _, _, _, _, _, _, .shr s q, .val f, .cons h t => by
    obtain ⟨h1, h2⟩ := h.bd s lv
    exact .shr h1 h2 (fitArgs hs lv q f t)
  | _, _, _, _, _, _, .al e s q, .al es f, t => by
    obtain ⟨ov, F1, F2, F3, es2, so, _, _⟩ := hs.split e
    rw [es] at es2
    cases es2
    rcases so with ⟨z, _⟩ | ⟨v, hv, so⟩
    · subst z; cases s
    · cases hv
      obtain ⟨h1, h2⟩ := so.bd s lv
      exact .shr h1 h2 (fitArgs hs lv q f t)
/-- results that a call may give -/
inductive RetOk : Sl → Prop
  | imm (d : PyData) : RetOk (.imm d)
  | own (d : PyData) : RetOk (.own d)
  | bor (d : PyData) : RetOk (.bor d)
  | fdo (d : PyData) : RetOk (.fdo d)
/-- a call that writes nothing lent -/
theorem tCall_S {sp : Sp} {E : XK} {ta : TA} : tCall sp [] E ta = tCallS sp (fun _ => E) ta := by
  funext σ H Q
  unfold tCall tCallS
  simp only [List.append_nil]
theorem ev_callPX {α ω : Type} {ps : List Pm} {enc : α → List PyData} {f : α → R ω} {rm : ω → Sl} {io : ω → List PyData}
    (h : EX Γ ta env ts m fun as env1 m1 => ∃ a, FitP env1 ps as (enc a) ∧ Γ.L env1 ∧ ∃ kk : ω → R β, m1 = (f a).bind kk ∧ ∀ z, RetOk (rm z) ∧ Φ (rm z) env1 (kk z)) : EV Γ (tCallS (spV Γ.K Γ.cm ps enc f rm io) Γ.E ta) env ts m Φ := by
  intro o e1 e2 σ w vs us bs Q R X kz
  refine h o e1 e2 σ w vs us bs _ R X fun as env1 m1 all ws w1 ⟨a, hf, hL, kk, em, hk⟩ em1 R1 el ft s1 => ?_
  have X1 := X.step s1
  obtain ⟨F, G, B, h1, h2, h3, eO⟩ := R1.ex
  obtain ⟨A, G', eG, ha, h2'⟩ := h2.split (by simp [el])
  obtain ⟨A', ha', _⟩ := ha.unrev
  have eo : (f a).bind kk = o := by rw [← em1, em]
  show spV Γ.K Γ.cm ps enc f rm io all w1.H Q (Γ.E σ)
  refine ⟨a, fun a => w1.H a ≠ none, [], fitArgs h1 R1.lv hf ft ha', List.nodup_nil, fun _ z => (List.not_mem_nil z).elim, fun _ z => z, fun z => by rw [z] at eo; exact e2 eo.symm, fun z hz v w' st ⟨Fz, Gz, q1, q2, q3⟩ nd _ => ?_, fun e he C d H' hc hx hk fr => ?_⟩
  · have kp : Kp Non w1.H w'.H := st.kp.wide fun _ z => (List.not_mem_nil z).elim
    have new : ∀ a ∈ w'.O, w1.H a = none := fun a ha => (st.own a ha).elim (fun z => (List.not_mem_nil z).elim) fun z => z
    obtain ⟨ro, hφ⟩ := hk z
    have rs : Res Γ.K w1.H w'.H v (rm z) := by
      generalize rm z = rz at q2 ro
      cases ro with
      | imm d => exact .imm q2.2.1 q2.2.2
      | own d => exact .own q2.1 (fun a ha => new a (by rw [q3]; exact List.mem_append_right _ ha)) q2.2
      | bor d => exact .bor q2.2.1 q2.2.2
      | fdo d => exact .fdo q2 (fun a ha => new a (by rw [q3]; exact List.mem_append_right _ ha))
    obtain ⟨w2, ew, R2, s2⟩ := Rel.res (ws := ws.reverse) (rs := (vals as).reverse) R1 (by simp [el]) kp rs
    rw [← ew]
    exact kz _ _ _ v w2 hφ (by rw [← eo, hz]; rfl) R2 (s1.trans s2)
  · have kp : Kp Non w1.H H' := hk.wide fun _ z => (List.not_mem_nil z).elim
    exact Γ.go (X1 e (by rw [← eo, he]; rfl)) (Step.non kp) (R1.non kp) hL hc hx fr
theorem ev_callP {K : PySem.W.Frag} {cm : Str → Option Addr} {E : XK} {α ω : Type} {ps : List Pm} {enc : α → List PyData} {f : α → R ω} {rm : ω → Sl} {io : ω → List PyData}
    (h : EX (ctxF K cm E) ta env ts m fun as env1 m1 => ∃ a, FitP env1 ps as (enc a) ∧ ∃ kk : ω → R β, m1 = (f a).bind kk ∧ ∀ z, RetOk (rm z) ∧ Φ (rm z) env1 (kk z)) : EV (ctxF K cm E) (tCall (spV K cm ps enc f rm io) [] E ta) env ts m Φ := by
  rw [tCall_S]
  refine ev_callPX (Γ := ctxF K cm E) ?_
  intro o e1 e2 σ w vs us bs Q R X kk
  exact h o e1 e2 σ w vs us bs Q R X fun as env' m' all ws w' ⟨a, h1, h2⟩ => kk as env' m' all ws w' ⟨a, h1, trivial, h2⟩
/-- a slot that may be looked at while another is lent -/
inductive SlA : Sl → PyData → Prop
  | imm (d : PyData) : SlA (.imm d) d
  | shr (d : PyData) : SlA (.shr d) d
  | own (d : PyData) : SlA (.own d) d
  | iow (a : V) (d : PyData) : SlA (.iow a d) d
inductive FitQ (env : List Sl) (j : Nat) : List Pm → List Arg → List PyData → Prop
  | nil : FitQ env j [] [] []
  | imm {d : PyData} {ps : List Pm} {as : List Arg} {ds : List PyData} : FitQ env j ps as ds → FitQ env j (.imm :: ps) (.val (.imm d) :: as) (d :: ds)
  | shr {d : PyData} {ps : List Pm} {as : List Arg} {ds : List PyData} : FitQ env j ps as ds → FitQ env j (.shr :: ps) (.val (.shr d) :: as) (d :: ds)
  | shi {d : PyData} {ps : List Pm} {as : List Arg} {ds : List PyData} : FitQ env j ps as ds → FitQ env j (.shr :: ps) (.val (.imm d) :: as) (d :: ds)
  | al {r : Sl} {i : Nat} {d : PyData} {ps : List Pm} {as : List Arg} {ds : List PyData} : env[i]? = some r → SlA r d → i ≠ j → FitQ env j ps as ds → FitQ env j (.shr :: ps) (.al i :: as) (d :: ds)
inductive FitI (env : List Sl) : List Pm → List Arg → List PyData → Nat → PyData → (PyData → Sl) → Bool → Prop
  | io {j : Nat} {r : Sl} {d : PyData} {mk : PyData → Sl} {ps : List Pm} {as : List Arg} {ds : List PyData} : env[j]? = some r → OwnSl r d mk → FitQ env j ps as ds → FitI env (.io :: ps) (.al j :: as) (d :: ds) j d mk false
  | fd {j : Nat} {r : Sl} {d : PyData} {mk : PyData → Sl} {ps : List Pm} {as : List Arg} {ds : List PyData} : env[j]? = some r → FdSl r d mk → FitQ env j ps as ds → FitI env (.fd :: ps) (.al j :: as) (d :: ds) j d mk true
  | imm {b : Bool} {j : Nat} {x d : PyData} {mk : PyData → Sl} {ps : List Pm} {as : List Arg} {ds : List PyData} : FitI env ps as ds j x mk b → FitI env (.imm :: ps) (.val (.imm d) :: as) (d :: ds) j x mk b
  | shr {b : Bool} {j : Nat} {x d : PyData} {mk : PyData → Sl} {ps : List Pm} {as : List Arg} {ds : List PyData} : FitI env ps as ds j x mk b → FitI env (.shr :: ps) (.val (.shr d) :: as) (d :: ds) j x mk b
  | shi {b : Bool} {j : Nat} {x d : PyData} {mk : PyData → Sl} {ps : List Pm} {as : List Arg} {ds : List PyData} : FitI env ps as ds j x mk b → FitI env (.shr :: ps) (.val (.imm d) :: as) (d :: ds) j x mk b
  | al {b : Bool} {r : Sl} {i j : Nat} {x d : PyData} {mk : PyData → Sl} {ps : List Pm} {as : List Arg} {ds : List PyData} : env[i]? = some r → SlA r d → i ≠ j → FitI env ps as ds j x mk b → FitI env (.shr :: ps) (.al i :: as) (d :: ds) j x mk b
def AlOk (K : PySem.W.Frag) (H : Hp) (Sh' : Addr → Prop) (σ : L2.St) (env : List Sl) (j : Nat) : Prop := ∀ i r d v, i ≠ j → env[i]? = some r → SlA r d → σ[i]? = some (some v) → Shd K H Sh' v d ∧ szD d
theorem fitQ {K : PySem.W.Frag} {w : Wd} {σ : L2.St} {env : List Sl} {Sh' : Addr → Prop} {j : Nat} (hm : ∀ a, w.Sh a → Sh' a) (ha : AlOk K w.H Sh' σ env j) : ∀ {ps : List Pm} {as : List Arg} {ds : List PyData} {all ws : List V} {A : List Addr},
    FitQ env j ps as ds → Fits σ as all ws → Tms K w.H w.Sh ws (vals as) A → ArgsR K w.H Sh' ps all ds [] ∧ ∀ {H' : Hp} {ios : List PyData} {F : List Addr}, IoR K H' ps all ios F → ios = [] ∧ F = []
  | _, _, _, _, _, _, .nil, .nil, _ => ⟨.nil, fun h => by cases h; exact ⟨rfl, rfl⟩⟩
  | _, _, _, _, _, _, .imm q, .val f, .cons h t => by
    obtain ⟨q1, q2⟩ := fitQ hm ha q f t
    exact ⟨.imm h.2.1 h.2.2 q1, fun z => by cases z with | imm z => exact q2 z⟩
  | _, _, _, _, _, _, .shr q, .val f, .cons h t => by
    obtain ⟨q1, q2⟩ := fitQ hm ha q f t
    exact ⟨.shr (h.2.1.mono hm) h.2.2 q1, fun z => by cases z with | shr z => exact q2 z⟩
  | _, _, _, _, _, _, .shi q, .val f, .cons h t => by
    obtain ⟨q1, q2⟩ := fitQ hm ha q f t
    exact ⟨.shr (.leaf h.2.1) h.2.2 q1, fun z => by cases z with | shr z => exact q2 z⟩
  | _, _, _, _, _, _, .al e s n q, .al es f, t => by
    obtain ⟨q1, q2⟩ := fitQ hm ha q f t
    obtain ⟨h1, h2⟩ := ha _ _ _ _ n e s es
    exact ⟨.shr h1 h2 q1, fun z => by cases z with | shr z => exact q2 z⟩
/-- what is lent to be written -/
def WrR (K : PySem.W.Frag) (b : Bool) (H : Hp) (v : V) (d : PyData) (F : List Addr) : Prop := match b with
  | false => Own K H v d F ∧ szD d
  | true => FdR H v d F
def WrSl (b : Bool) (r : Sl) (d : PyData) (mk : PyData → Sl) : Prop := match b with
  | false => OwnSl r d mk
  | true => FdSl r d mk
theorem fitI {b : Bool} {K : PySem.W.Frag} {w : Wd} {σ : L2.St} {env : List Sl} {Sh' : Addr → Prop} {j : Nat} (hm : ∀ a, w.Sh a → Sh' a) (ha : AlOk K w.H Sh' σ env j) : ∀ {ps : List Pm} {as : List Arg} {ds : List PyData} {x : PyData} {mk : PyData → Sl} {all ws : List V} {A F2 : List Addr} {v : V},
    FitI env ps as ds j x mk b → Fits σ as all ws → Tms K w.H w.Sh ws (vals as) A → σ[j]? = some (some v) → WrR K b w.H v x F2 →
    ArgsR K w.H Sh' ps all ds F2 ∧ ∀ {H' : Hp} {ios : List PyData} {F : List Addr}, IoR K H' ps all ios F → ∃ d', ios = [d'] ∧ WrR K b H' v d' F
  | _, _, _, _, _, _, _, _, F2, _, .io e om q, .al es f, t, ej, ho => by
    rw [es] at ej
    cases ej
    obtain ⟨q1, q2⟩ := fitQ hm ha q f t
    refine ⟨by have := ArgsR.io ho.1 ho.2 q1; rwa [List.append_nil] at this, fun z => ?_⟩
    cases z with
    | io z1 z2 z3 =>
      obtain ⟨rfl, rfl⟩ := q2 z3
      exact ⟨_, rfl, by rw [List.append_nil]; exact ⟨z1, z2⟩⟩
  | _, _, _, _, _, _, _, _, F2, _, .fd e om q, .al es f, t, ej, ho => by
    rw [es] at ej
    cases ej
    obtain ⟨q1, q2⟩ := fitQ hm ha q f t
    refine ⟨by have := ArgsR.fd ho q1; rwa [List.append_nil] at this, fun z => ?_⟩
    cases z with
    | fd z1 z3 =>
      obtain ⟨rfl, rfl⟩ := q2 z3
      exact ⟨_, rfl, by rw [List.append_nil]; exact z1⟩
  | _, _, _, _, _, _, _, _, _, _, .imm q, .val f, .cons h t, ej, ho => by
    obtain ⟨q1, q2⟩ := fitI hm ha q f t ej ho
    exact ⟨.imm h.2.1 h.2.2 q1, fun z => by cases z with | imm z => exact q2 z⟩
  | _, _, _, _, _, _, _, _, _, _, .shr q, .val f, .cons h t, ej, ho => by
    obtain ⟨q1, q2⟩ := fitI hm ha q f t ej ho
    exact ⟨.shr (h.2.1.mono hm) h.2.2 q1, fun z => by cases z with | shr z => exact q2 z⟩
  | _, _, _, _, _, _, _, _, _, _, .shi q, .val f, .cons h t, ej, ho => by
    obtain ⟨q1, q2⟩ := fitI hm ha q f t ej ho
    exact ⟨.shr (.leaf h.2.1) h.2.2 q1, fun z => by cases z with | shr z => exact q2 z⟩
  | _, _, _, _, _, _, _, _, _, _, .al e s n q, .al es f, t, ej, ho => by
    obtain ⟨q1, q2⟩ := fitI hm ha q f t ej ho
    obtain ⟨h1, h2⟩ := ha _ _ _ _ n e s es
    exact ⟨.shr h1 h2 q1, fun z => by cases z with | shr z => exact q2 z⟩
theorem fitIj {env : List Sl} {ps : List Pm} {as : List Arg} {ds : List PyData} {j : Nat} {x : PyData} {mk : PyData → Sl} {b : Bool} (h : FitI env ps as ds j x mk b) : ∃ r, env[j]? = some r ∧ WrSl b r x mk := by
  induction h with
  | io e om _ => exact ⟨_, e, om⟩
  | fd e om _ => exact ⟨_, e, om⟩
  | imm _ ih => exact ih
  | shr _ ih => exact ih
  | shi _ ih => exact ih
  | al _ _ _ _ ih => exact ih
inductive RetO : Sl → Prop
  | imm (d : PyData) : RetO (.imm d)
  | own (d : PyData) : RetO (.own d)
/-- a call that is lent the list at slot j -/
theorem ev_callIX {α ω : Type} {ps : List Pm} {enc : α → List PyData} {f : α → R ω} {rm : ω → Sl} {io : ω → List PyData} (kt : ts.map kill = ts)
    (h : EX Γ ta env ts m fun as env1 m1 => ∃ a j x mk wb, FitI env1 ps as (enc a) j x mk wb ∧ Γ.L ((env1.map kill).set j .no) ∧ ∃ kk : ω → R β, m1 = (f a).bind kk ∧ ∀ z, ∃ d', io z = [d'] ∧ RetO (rm z) ∧ Φ (rm z) ((env1.map kill).set j (mk d')) (kk z)) :
    EV Γ (tCallS (spV Γ.K Γ.cm ps enc f rm io) Γ.E ta) env ts m Φ := by
  intro o e1 e2 σ w vs us bs Q R X kz
  refine h o e1 e2 σ w vs us bs _ R X fun as env1 m1 all ws w1 ⟨a, j, x, mk, wb, hf, hL, kk, em, hk⟩ em1 R1 el ft s1 => ?_
  have X1 := X.step s1
  obtain ⟨F, G, B, h1, h2, h3, eO⟩ := R1.ex
  obtain ⟨A, G', eG, ha, h2'⟩ := h2.split (by simp [el])
  obtain ⟨A', ha', _⟩ := ha.unrev
  have eo : (f a).bind kk = o := by rw [← em1, em]
  obtain ⟨r0, ej, om⟩ := fitIj hf
  obtain ⟨ov, F1, F2, F3, es, hs, eF, go⟩ := h1.split ej
  rcases hs with ⟨z, _⟩ | ⟨vj, rfl, hs⟩
  · subst z; cases wb <;> cases om
  have hs0 : WrR Γ.K wb w1.H vj x F2 := by
    cases wb with
    | false =>
      cases om with
      | own => exact hs
      | iow => exact hs.1
    | true =>
      cases om with
      | fdo => exact hs
      | fdw => exact hs.1
  have mkR : ∀ {H' : Hp} {F' : List Addr} {d' : PyData}, WrR Γ.K wb H' vj d' F' → SlR Γ.K H' w1.Sh vj (mk d') F' := by
    intro H' F' d' q
    cases wb with
    | false =>
      cases om with
      | own => exact q
      | iow => exact ⟨q, hs.2⟩
    | true =>
      cases om with
      | fdo => exact q
      | fdw => exact ⟨q, hs.2⟩
  have nd0 := R1.nd
  rw [eO, eF, eG] at nd0
  have p : List.Perm ((F1 ++ (F2 ++ F3)) ++ ((A ++ G') ++ B)) (F2 ++ (A ++ ((F1 ++ F3) ++ (G' ++ B)))) := by
    refine List.perm_iff_count.mpr fun b => ?_
    simp only [List.count_append]
    omega
  have nd1 := p.nodup_iff.mp nd0
  have memO : ∀ b, b ∈ w1.O ↔ b ∈ F2 ++ (A ++ ((F1 ++ F3) ++ (G' ++ B))) := fun b => by rw [eO, eF, eG]; exact p.mem_iff
  obtain ⟨n1, n2, n3⟩ := List.nodup_append.mp nd1
  have nrest := (List.nodup_append.mp n2).2.1
  have offR : ∀ b ∈ (F1 ++ F3) ++ (G' ++ B), b ∉ F2 := fun b hb z => n3 b z b (List.mem_append_right _ hb) rfl
  have shOff : ∀ b, w1.Sh b → ¬ (b ∈ F2) := fun b q z => R1.out b ((memO b).mpr (List.mem_append_left _ z)) q
  have hal : AlOk Γ.K w1.H (fun b => w1.H b ≠ none ∧ b ∉ F2) σ env1 j := by
    intro i r d v n e sa ev
    have hno := go (some vj) .no [] (Tr.non Kp.refl) (.inl ⟨rfl, rfl⟩)
    rw [setSome es, mapId] at hno
    obtain ⟨ov2, E1, E2, E3, es2, hs2, eF2, _⟩ := hno.split (i := i) (r := r) (by rw [List.getElem?_set_ne (Ne.symm n)]; exact e)
    rw [ev] at es2
    cases es2
    rcases hs2 with ⟨z, _⟩ | ⟨v2, ev2, hs2⟩
    · subst z; cases sa
    · cases ev2
      have off : ∀ b ∈ E2, b ∉ F2 := fun b hb => offR b (by
        have : b ∈ F1 ++ ([] ++ F3) := by rw [eF2]; exact List.mem_append_right _ (List.mem_append_left _ hb)
        exact List.mem_append_left _ this)
      cases sa with
      | imm => exact ⟨.leaf hs2.2.1, hs2.2.2⟩
      | shr => exact ⟨hs2.2.1.mono fun b q => ⟨R1.lv b q, shOff b q⟩, hs2.2.2⟩
      | own => exact ⟨hs2.1.shd fun b hb => ⟨hs2.1.live b hb, off b hb⟩, hs2.2⟩
      | iow => exact ⟨hs2.1.1.shd fun b hb => ⟨hs2.1.1.live b hb, off b hb⟩, hs2.1.2⟩
  obtain ⟨ar, ioE⟩ := fitI (fun b q => ⟨R1.lv b q, shOff b q⟩) hal hf ft ha' es hs0
  show spV Γ.K Γ.cm ps enc f rm io all w1.H Q (Γ.E σ)
  refine ⟨a, fun b => w1.H b ≠ none ∧ b ∉ F2, F2, ar, n1, fun b z q => q.2 z, fun b q => q.1, fun z => by rw [z] at eo; exact e2 eo.symm, fun z hz v w' st ⟨Fz, Gz, q1, q2, q3⟩ nd _ => ?_, fun e he C d H' hc hx hk2 fr => ?_⟩
  · obtain ⟨d', eio, ro, hφ⟩ := hk z
    obtain ⟨d2, eio2, ow⟩ := ioE q1
    rw [eio] at eio2
    cases eio2
    have kp := st.kp
    have tr : ∀ {L : List Addr}, (∀ b ∈ L, b ∈ (F1 ++ F3) ++ (G' ++ B)) → Tr Γ.K w1.H w'.H w1.Sh w1.Sh L kill := fun hL => Tr.kp kp shOff fun b hb => offR b (hL b hb)
    have s1' := go (some vj) (mk d') Fz (tr fun b hb => List.mem_append_left _ hb) (.inr ⟨vj, rfl, mkR ow⟩)
    rw [setSome es] at s1'
    have t2 := h2'.tr (tr fun b hb => List.mem_append_right _ (List.mem_append_left _ hb))
    have t3 := h3.tr (tr fun b hb => List.mem_append_right _ (List.mem_append_right _ hb))
    rw [kt] at t2
    rw [R1.kl] at t3
    have rv : SlR Γ.K w'.H w1.Sh v (rm z) Gz := by
      generalize rm z = rz at q2 ro
      cases ro with
      | imm d => exact q2
      | own d => exact q2
    have nO := nd
    rw [q3] at nO
    obtain ⟨m1, m2, m3⟩ := List.nodup_append.mp nO
    have ownZ : ∀ b, b ∈ Fz ++ Gz → b ∈ F2 ∨ w1.H b = none := fun b hb => st.own b (by rw [q3]; exact hb)
    have lvR := R1.live
    have apart : ∀ b, b ∈ Fz ++ Gz → b ∉ (F1 ++ F3) ++ (G' ++ B) := fun b hb hc => by
      rcases ownZ b hb with z | z
      · exact offR b hc z
      · exact lvR b ((memO b).mpr (List.mem_append_right _ (List.mem_append_right _ hc))) z
    have p2 : List.Perm ((F1 ++ (Fz ++ F3)) ++ ((Gz ++ G') ++ B)) ((Fz ++ Gz) ++ ((F1 ++ F3) ++ (G' ++ B))) := by
      refine List.perm_iff_count.mpr fun b => ?_
      simp only [List.count_append]
      omega
    have outs : ∀ b ∈ (F1 ++ (Fz ++ F3)) ++ ((Gz ++ G') ++ B), b ∈ w1.O ∨ w1.H b = none := fun b hb => by
      rcases List.mem_append.mp (p2.mem_iff.mp hb) with z | z
      · rcases ownZ b z with y | y
        · exact .inl ((memO b).mpr (List.mem_append_left _ y))
        · exact .inr y
      · exact .inl ((memO b).mpr (List.mem_append_right _ (List.mem_append_right _ z)))
    have R2 : Rel Γ.K ⟨w'.H, w1.Sh, (F1 ++ (Fz ++ F3)) ++ ((Gz ++ G') ++ B)⟩ σ ((env1.map kill).set j (mk d')) (v :: vs) (rm z :: ts) us bs := by
      refine ⟨⟨_, Gz ++ G', B, s1', .cons rv t2, t3, rfl⟩, p2.nodup_iff.mpr (List.nodup_append.mpr ⟨nO, nrest, fun b hb c hc e => apart b hb (e ▸ hc)⟩), fun b hb q => ?_, fun b q z => R1.lv b q (kp.live b z), R1.kl⟩
      rcases outs b hb with y | y
      · exact R1.out b y q
      · exact R1.lv b q y
    refine kz _ _ _ v ⟨w'.H, w1.Sh, (F1 ++ (Fz ++ F3)) ++ ((Gz ++ G') ++ B)⟩ hφ (by rw [← eo, hz]; rfl) R2 (s1.trans ⟨kp.wide fun b z => (memO b).mpr (List.mem_append_left _ z), outs, fun _ q => q, fun _ q => .inl q⟩)
  · have tr : ∀ {L : List Addr}, (∀ b ∈ L, b ∈ (F1 ++ F3) ++ (G' ++ B)) → Tr Γ.K w1.H H' w1.Sh w1.Sh L kill := fun hL => Tr.kp hk2 shOff fun b hb => offR b (hL b hb)
    have s1' := go (some vj) .no [] (tr fun b hb => List.mem_append_left _ hb) (.inl ⟨rfl, rfl⟩)
    rw [setSome es] at s1'
    have t2 := h2'.tr (tr fun b hb => List.mem_append_right _ (List.mem_append_left _ hb))
    have t3 := h3.tr (tr fun b hb => List.mem_append_right _ (List.mem_append_right _ hb))
    rw [kt] at t2
    rw [R1.kl] at t3
    have p2 : List.Perm ((F1 ++ ([] ++ F3)) ++ (G' ++ B)) ((F1 ++ F3) ++ (G' ++ B)) := List.Perm.refl _
    have outs : ∀ b ∈ (F1 ++ ([] ++ F3)) ++ (G' ++ B), b ∈ w1.O := fun b hb => (memO b).mpr (List.mem_append_right _ (List.mem_append_right _ hb))
    have R2 : Rel Γ.K ⟨H', w1.Sh, (F1 ++ ([] ++ F3)) ++ (G' ++ B)⟩ σ ((env1.map kill).set j .no) vs ts us bs :=
      ⟨⟨_, G', B, s1', t2, t3, rfl⟩, nrest, fun b hb q => R1.out b (outs b hb) q, fun b q z => R1.lv b q (hk2.live b z), R1.kl⟩
    have st : Step w1 ⟨H', w1.Sh, (F1 ++ ([] ++ F3)) ++ (G' ++ B)⟩ := ⟨hk2.wide fun b z => (memO b).mpr (List.mem_append_left _ z), fun b hb => .inl (outs b hb), fun _ q => q, fun _ q => .inl q⟩
    exact Γ.go (X1 e (by rw [← eo, he]; rfl)) st R2 hL hc hx fr
theorem ev_callI {K : PySem.W.Frag} {cm : Str → Option Addr} {E : XK} {α ω : Type} {ps : List Pm} {enc : α → List PyData} {f : α → R ω} {rm : ω → Sl} {io : ω → List PyData} (kt : ts.map kill = ts)
    (h : EX (ctxF K cm E) ta env ts m fun as env1 m1 => ∃ a j x mk wb, FitI env1 ps as (enc a) j x mk wb ∧ ∃ kk : ω → R β, m1 = (f a).bind kk ∧ ∀ z, ∃ d', io z = [d'] ∧ RetO (rm z) ∧ Φ (rm z) ((env1.map kill).set j (mk d')) (kk z)) :
    EV (ctxF K cm E) (tCall (spV K cm ps enc f rm io) [] E ta) env ts m Φ := by
  rw [tCall_S]
  refine ev_callIX (Γ := ctxF K cm E) kt ?_
  intro o e1 e2 σ w vs us bs Q R X kk
  exact h o e1 e2 σ w vs us bs Q R X fun as env' m' all ws w' ⟨a, j, x, mk, wb, h1, h2⟩ => kk as env' m' all ws w' ⟨a, j, x, mk, wb, h1, trivial, h2⟩
end
end Vl
/-! Operators and built-ins as functions of data. -/
namespace Vl
open PySem PySem.Spec PyProof.Rows L2 Hw
/-! ### rules by data -/
def rImm2 (K : PySem.W.Frag) (g : PyData → PyData → R PyData) : R2 := fun x y H Q => ∃ d e z, TD K H x d ∧ TD K H y e ∧ szD d ∧ szD e ∧ g d e = .ok z ∧ ∀ v H', Kp Non H H' → TD K H' v z → szD z → Q v H'
def rDat2 (K : PySem.W.Frag) (g : PyData → PyData → R Bool) : R2 := fun x y H Q => ∃ d e b, Dp K H x d ∧ Dp K H y e ∧ szD d ∧ szD e ∧ g d e = .ok b ∧ Q (.bl b) H
def rImm1 (K : PySem.W.Frag) (g : PyData → R PyData) : V → Hp → VK → Prop := fun x H Q => ∃ d z, TD K H x d ∧ szD d ∧ g d = .ok z ∧ ∀ v H', Kp Non H H' → TD K H' v z → szD z → Q v H'
def rDat1 (K : PySem.W.Frag) (g : PyData → R PyData) : V → Hp → VK → Prop := fun x H Q => ∃ d z, Dp K H x d ∧ szD d ∧ g d = .ok z ∧ ∀ v H', Kp Non H H' → TD K H' v z → szD z → Q v H'
/-- the arguments of a built-in: one, two -/
def arg1 (q : V → Hp → VK → Prop) : List V → Hp → VK → Prop := fun vs H Q => ∃ x, vs = [x] ∧ q x H Q
def arg2 (q : R2) : List V → Hp → VK → Prop := fun vs H Q => ∃ x y, vs = [x, y] ∧ q x y H Q
section
variable {K : PySem.W.Frag} {d e : PyData} {r1 r2 : Sl}
theorem opS_imm2 {g : PyData → PyData → R PyData} : OpS K (rImm2 K g) (.imm d) (.imm e) (g d e) .imm := by
  intro H Sh x y F1 F2 a Q s1 s2 hg k
  exact ⟨d, e, a, s1.2.1, s2.2.1, s1.2.2, s2.2.2, hg, fun v H' kp ht hz => k v H' kp (.imm ht hz)⟩
theorem opS_dat2 {g : PyData → PyData → R Bool} (h1 : SlD r1 d) (h2 : SlD r2 e) : OpS K (rDat2 K g) r1 r2 (g d e) (fun b => .imm (.bool b)) := by
  intro H Sh x y F1 F2 a Q s1 s2 hg k
  obtain ⟨p1, p2⟩ := s1.dp h1
  obtain ⟨q1, q2⟩ := s2.dp h2
  exact ⟨d, e, a, p1, q1, p2, q2, hg, k _ _ Kp.refl (.imm (.bl _) trivial)⟩
theorem unS_imm1 {g : PyData → R PyData} : UnS K (rImm1 K g) (.imm d) (g d) .imm := by
  intro H Sh x F1 a Q s1 hg k
  exact ⟨d, a, s1.2.1, s1.2.2, hg, fun v H' kp ht hz => k v H' kp (.imm ht hz)⟩
theorem unS_dat1 {g : PyData → R PyData} (h1 : SlD r1 d) : UnS K (rDat1 K g) r1 (g d) .imm := by
  intro H Sh x F1 a Q s1 hg k
  obtain ⟨p1, p2⟩ := s1.dp h1
  exact ⟨d, a, p1, p2, hg, fun v H' kp ht hz => k v H' kp (.imm ht hz)⟩
theorem unS_arg1 {α : Type} {q : V → Hp → VK → Prop} {g : R α} {md : α → Sl} (h : UnS K q r1 g md) : UnS K (fun x => arg1 q [x]) r1 g md := by
  intro H Sh x F1 a Q s1 hg k
  exact ⟨x, rfl, h s1 hg k⟩
theorem opS_arg2 {α : Type} {q : R2} {g : R α} {md : α → Sl} (h : OpS K q r1 r2 g md) : OpS K (fun x y => arg2 q [x, y]) r1 r2 g md := by
  intro H Sh x y F1 F2 a Q s1 s2 hg k
  exact ⟨x, y, rfl, h s1 s2 hg k⟩
end
/-! ### numbers -/
def addV : PyData → PyData → R PyData
  | .int a, .int b => .ok (.int (a + b))
  | .tuple a, .tuple b => if a.length + b.length ≤ sizeLine then .ok (.tuple (a ++ b)) else .stuck
  | .str a, .str b => if a.length + b.length ≤ sizeLine then .ok (.str (a ++ b)) else .stuck
  | _, _ => .stuck
def subV : PyData → PyData → R PyData
  | .int a, .int b => .ok (.int (a - b))
  | _, _ => .stuck
def mulOk (a b : Int) : Bool := decide (a.natAbs.log2 + b.natAbs.log2 < 1000000)
def mulV : PyData → PyData → R PyData
  | .int a, .int b => if mulOk a b then .ok (.int (a * b)) else .stuck
  | .tuple a, .int k => if a ≠ [] ∧ 0 ≤ k ∧ k ≤ 1000 ∧ a.length ≤ 1000 then .ok (.tuple (List.replicate k.toNat a).flatten) else .stuck
  | _, _ => .stuck
def divV : PyData → PyData → R PyData
  | .int a, .int b => if 0 < b ∧ b.natAbs.log2 < 9000 then .ok (.int (a / b)) else .stuck
  | _, _ => .stuck
def modV : PyData → PyData → R PyData
  | .int a, .int b => if 0 < b then .ok (.int (a % b)) else .stuck
  | _, _ => .stuck
def powV : PyData → PyData → R PyData
  | .int a, .int b => if 0 ≤ b ∧ b ≤ 1000000 ∧ a.natAbs < 2 ^ 64 then .ok (.int (a ^ b.toNat)) else .stuck
  | _, _ => .stuck
def negV : PyData → R PyData
  | .int a => .ok (.int (-a))
  | _ => .stuck
def absV : PyData → R PyData
  | .int a => .ok (.int (if a < 0 then -a else a))
  | _ => .stuck
@[simp] theorem addV_int (a b : Int) : addV (.int a) (.int b) = .ok (.int (a + b)) := rfl
@[simp] theorem subV_int (a b : Int) : subV (.int a) (.int b) = .ok (.int (a - b)) := rfl
theorem mulV_int {a b : Int} (h : mulOk a b = true) : mulV (.int a) (.int b) = .ok (.int (a * b)) := if_pos h
theorem divV_int {a b : Int} (h : 0 < b) (h2 : b.natAbs.log2 < 9000) : divV (.int a) (.int b) = .ok (.int (a / b)) := if_pos ⟨h, h2⟩
theorem modV_int {a b : Int} (h : 0 < b) : modV (.int a) (.int b) = .ok (.int (a % b)) := if_pos h
@[simp] theorem negV_int (a : Int) : negV (.int a) = .ok (.int (-a)) := rfl
@[simp] theorem absV_int (a : Int) : absV (.int a) = .ok (.int (if a < 0 then -a else a)) := rfl
section
variable {X : Cx}
theorem tdSz {K : PySem.W.Frag} {H : Hp} {a : Addr} {xs : List V} {ds : List PyData} (h1 : SqT K H a xs) (h2 : TDs K H xs ds) (l : ds.length ≤ sizeLine) (z : szAll ds) : TD K H (.ref a) (.tuple ds) ∧ szD (.tuple ds) := ⟨.tup h1 h2, l, z⟩
theorem op_addV : OpR X (binaryOp .Add) (rImm2 X.K addV) := by
  intro pins s σ H x y v u Q I rx ry ⟨d, e, z, hd, he, zd, ze, hg, q⟩
  cases hd with
  | int i =>
    cases he with
    | int j =>
      cases hg
      exact op_add pins s σ H _ _ v u Q I rx ry ⟨i, j, rfl, rfl, q _ _ Kp.refl (.int _) trivial⟩
    | _ => cases hg
  | str i =>
    cases he with
    | str j =>
      have hg : (if i.length + j.length ≤ sizeLine then R.ok (PyData.str (i ++ j)) else .stuck) = .ok z := hg
      split at hg
      · rename_i c
        cases hg
        refine op_add_str pins s σ H _ _ v u Q I rx ry ⟨i, j, rfl, rfl, c, q _ _ Kp.refl (.str _) ?_⟩
        show (i ++ j).length ≤ sizeLine
        have : (i ++ j).length = i.length + j.length := by
          show ((i.cps ++ j.cps).size) = _
          rw [Array.size_append]; rfl
        omega
      · cases hg
    | _ => cases hg
  | tup h1 h2 =>
    rename_i a1 xs1 ds1
    cases he with
    | tup g1 g2 =>
      rename_i a2 xs2 ds2
      have hg : (if ds1.length + ds2.length ≤ sizeLine then R.ok (PyData.tuple (ds1 ++ ds2)) else .stuck) = .ok z := hg
      split at hg
      · rename_i c
        cases hg
        refine op_catG pins s σ H _ _ v u Q I rx ry ⟨_, _, _, _, rfl, rfl, h1, g1, by rw [h2.length, g2.length]; exact c, fun p H' kp hp => ?_⟩
        exact q _ H' kp (.tup hp ((h2.kp kp).append (g2.kp kp))) ⟨by rw [List.length_append]; exact c, szAll_append zd.2 ze.2⟩
      · cases hg
    | _ => cases hg
  | _ => cases he <;> cases hg
theorem op_subV : OpR X (binaryOp .Sub) (rImm2 X.K subV) := by
  intro pins s σ H x y v u Q I rx ry ⟨d, e, z, hd, he, zd, ze, hg, q⟩
  cases hd with
  | int i =>
    cases he with
    | int j =>
      cases hg
      exact op_sub pins s σ H _ _ v u Q I rx ry ⟨i, j, rfl, rfl, q _ _ Kp.refl (.int _) trivial⟩
    | _ => cases hg
  | _ => cases he <;> cases hg
theorem szRep {ds : List PyData} (z : szAll ds) : ∀ n : Nat, szAll (List.replicate n ds).flatten
  | 0 => trivial
  | n + 1 => by
    rw [List.replicate_succ, List.flatten_cons]
    exact szAll_append z (szRep z n)
theorem tdsRep {K : PySem.W.Frag} {H : Hp} {xs : List V} {ds : List PyData} (h : TDs K H xs ds) : ∀ n : Nat, TDs K H (List.replicate n xs).flatten (List.replicate n ds).flatten
  | 0 => .nil
  | n + 1 => by
    rw [List.replicate_succ, List.flatten_cons, List.replicate_succ, List.flatten_cons]
    exact h.append (tdsRep h n)
theorem repLen {α : Type} (n : Nat) (xs : List α) : (List.replicate n xs).flatten.length = n * xs.length := by
  induction n with
  | zero => simp
  | succ n ih => rw [List.replicate_succ, List.flatten_cons, List.length_append, ih, Nat.add_mul, Nat.one_mul, Nat.add_comm]
theorem op_mulV : OpR X (binaryOp .Mult) (rImm2 X.K mulV) := by
  intro pins s σ H x y v u Q I rx ry ⟨d, e, z, hd, he, zd, ze, hg, q⟩
  cases hd with
  | int i =>
    cases he with
    | int j =>
      have hg : (if mulOk i j = true then R.ok (PyData.int (i * j)) else .stuck) = .ok z := hg
      split at hg
      · rename_i c
        cases hg
        have c : i.natAbs.log2 + j.natAbs.log2 < 1000000 := of_decide_eq_true c
        exact op_mulW pins s σ H _ _ v u Q I rx ry ⟨i, j, rfl, rfl, c, q _ _ Kp.refl (.int _) trivial⟩
      · cases hg
    | _ => cases hg
  | tup h1 h2 =>
    rename_i a1 xs1 ds1
    cases he with
    | int k =>
      have hg : (if ds1 ≠ [] ∧ 0 ≤ k ∧ k ≤ 1000 ∧ ds1.length ≤ 1000 then R.ok (PyData.tuple (List.replicate k.toNat ds1).flatten) else .stuck) = .ok z := hg
      split at hg
      · rename_i c
        cases hg
        obtain ⟨c1, c2, c3, c4⟩ := c
        refine op_repTG pins s σ H _ _ v u Q I rx ry ⟨_, k, _, rfl, rfl, h1, fun z => c1 (List.length_eq_zero_iff.mp (by rw [← h2.length, z]; rfl)), c2, c3, by rw [h2.length]; exact c4, fun p H' kp hp => ?_⟩
        refine q _ H' kp (.tup hp (tdsRep (h2.kp kp) _)) ⟨?_, szRep zd.2 _⟩
        rw [repLen]
        refine Nat.le_trans (Nat.mul_le_mul (by omega : k.toNat ≤ 1000) c4) ?_
        rw [sizeLine_eq]; decide
      · cases hg
    | _ => cases hg
  | _ => cases he <;> cases hg
theorem op_divV : OpR X (binaryOp .FloorDiv) (rImm2 X.K divV) := by
  intro pins s σ H x y v u Q I rx ry ⟨d, e, z, hd, he, zd, ze, hg, q⟩
  cases hd with
  | int i =>
    cases he with
    | int j =>
      have hg : (if 0 < j ∧ j.natAbs.log2 < 9000 then R.ok (PyData.int (i / j)) else .stuck) = .ok z := hg
      split at hg
      · rename_i c
        cases hg
        exact op_fdivW pins s σ H _ _ v u Q I rx ry ⟨i, j, rfl, rfl, c, q _ _ Kp.refl (.int _) trivial⟩
      · cases hg
    | _ => cases hg
  | _ => cases he <;> cases hg
theorem op_modV : OpR X (binaryOp .Mod) (rImm2 X.K modV) := by
  intro pins s σ H x y v u Q I rx ry ⟨d, e, z, hd, he, zd, ze, hg, q⟩
  cases hd with
  | int i =>
    cases he with
    | int j =>
      have hg : (if 0 < j then R.ok (PyData.int (i % j)) else .stuck) = .ok z := hg
      split at hg
      · rename_i c
        cases hg
        exact op_mod pins s σ H _ _ v u Q I rx ry ⟨i, j, rfl, rfl, c, q _ _ Kp.refl (.int _) trivial⟩
      · cases hg
    | _ => cases hg
  | _ => cases he <;> cases hg
theorem op_powV : OpR X (binaryOp .Pow) (rImm2 X.K powV) := by
  intro pins s σ H x y v u Q I rx ry ⟨d, e, z, hd, he, zd, ze, hg, q⟩
  cases hd with
  | int i =>
    cases he with
    | int j =>
      have hg : (if 0 ≤ j ∧ j ≤ 1000000 ∧ i.natAbs < 2 ^ 64 then R.ok (PyData.int (i ^ j.toNat)) else .stuck) = .ok z := hg
      split at hg
      · rename_i c
        cases hg
        exact op_pow pins s σ H _ _ v u Q I rx ry ⟨i, j, rfl, rfl, c, q _ _ Kp.refl (.int _) trivial⟩
      · cases hg
    | _ => cases hg
  | _ => cases he <;> cases hg
theorem un_negV : UnR X (unaryOp .USub) (rImm1 X.K negV) := by
  intro pins s σ H x v Q I rx ⟨d, z, hd, zd, hg, q⟩
  cases hd with
  | int i =>
    cases hg
    exact un_neg pins s σ H _ v Q I rx ⟨i, rfl, q _ _ Kp.refl (.int _) trivial⟩
  | _ => cases hg
theorem call_absV : CallR X (.builtin "abs") (arg1 (rImm1 X.K absV)) := by
  intro pins s σ H vs us Q I r ⟨x, e, d, z, hd, zd, hg, q⟩
  subst e
  cases hd with
  | int i =>
    cases hg
    exact call_abs pins s σ H _ us Q I r ⟨i, rfl, q _ _ Kp.refl (.int _) trivial⟩
  | _ => cases hg
end
/-! ### comparisons -/
def eqOk : PyData → PyData → Bool
  | .str _, .str _ => true
  | d, e => SeqAt.shaped d && SeqAt.shaped e
theorem eqOk_cases {d e : PyData} (h : eqOk d e = true) : (∃ x y, d = .str x ∧ e = .str y) ∨ (SeqAt.shaped d = true ∧ SeqAt.shaped e = true) := by
  cases d <;> cases e <;> first | exact .inl ⟨_, _, rfl, rfl⟩ | exact .inr (Bool.and_eq_true_iff.mp h)
theorem eqOk_of {d e : PyData} (h1 : SeqAt.shaped d = true) (h2 : SeqAt.shaped e = true) : eqOk d e = true := by
  have : (SeqAt.shaped d && SeqAt.shaped e) = true := by rw [h1, h2]; rfl
  cases d <;> cases e <;> first | rfl | exact this
def eqV (d e : PyData) : R Bool := if eqOk d e = true then .ok (PyData.eqv d e) else .stuck
def neV (d e : PyData) : R Bool := if eqOk d e = true then .ok (!PyData.eqv d e) else .stuck
def isNone : PyData → Bool
  | .none => true
  | _ => false
def cmpOk (d e : PyData) : Prop := PySem.W.alike d e = true ∧ isNone d = false ∧ d.depth ≤ 60
instance (d e : PyData) : Decidable (cmpOk d e) := inferInstanceAs (Decidable (_ ∧ _ ∧ _))
def ltV (d e : PyData) : R Bool := if cmpOk d e then .ok (PySem.W.dataLt d e) else .stuck
def gtV (d e : PyData) : R Bool := if cmpOk d e then .ok (PySem.W.dataLt e d) else .stuck
def leV (d e : PyData) : R Bool := if cmpOk d e then .ok (!PySem.W.dataLt e d) else .stuck
def geV (d e : PyData) : R Bool := if cmpOk d e then .ok (!PySem.W.dataLt d e) else .stuck
@[simp] theorem cmpOk_int (a b : Int) : cmpOk (.int a) (.int b) := ⟨rfl, rfl, Nat.zero_le _⟩
@[simp] theorem ltV_int (a b : Int) : ltV (.int a) (.int b) = .ok (decide (a < b)) := by unfold ltV; rw [if_pos (cmpOk_int a b), PySem.W.dataLt_int]
@[simp] theorem gtV_int (a b : Int) : gtV (.int a) (.int b) = .ok (decide (b < a)) := by unfold gtV; rw [if_pos (cmpOk_int a b), PySem.W.dataLt_int]
@[simp] theorem leV_int (a b : Int) : leV (.int a) (.int b) = .ok (decide (a ≤ b)) := by
  unfold leV; rw [if_pos (cmpOk_int a b), PySem.W.dataLt_int]
  congr 1
  by_cases h : b < a
  · simp [h, Int.not_le.mpr h]
  · simp [h, Int.not_lt.mp h]
@[simp] theorem geV_int (a b : Int) : geV (.int a) (.int b) = .ok (decide (b ≤ a)) := by
  unfold geV; rw [if_pos (cmpOk_int a b), PySem.W.dataLt_int]
  congr 1
  by_cases h : a < b
  · simp [h, Int.not_le.mpr h]
  · simp [h, Int.not_lt.mp h]
theorem eqV_of {d e : PyData} (h1 : SeqAt.shaped d = true) (h2 : SeqAt.shaped e = true) : eqV d e = .ok (PyData.eqv d e) := if_pos (eqOk_of h1 h2)
theorem neV_of {d e : PyData} (h1 : SeqAt.shaped d = true) (h2 : SeqAt.shaped e = true) : neV d e = .ok (!PyData.eqv d e) := if_pos (eqOk_of h1 h2)
@[simp] theorem sh_int (a : Int) : SeqAt.shaped (.int a) = true := rfl
@[simp] theorem sh_bool (a : Bool) : SeqAt.shaped (.bool a) = true := rfl
@[simp] theorem sh_none : SeqAt.shaped .none = true := rfl
@[simp] theorem eqV_int (a b : Int) : eqV (.int a) (.int b) = .ok (decide (a = b)) := by rw [eqV_of rfl rfl, eqv_ints]
@[simp] theorem neV_int (a b : Int) : neV (.int a) (.int b) = .ok (!decide (a = b)) := by rw [neV_of rfl rfl, eqv_ints]
theorem eqv_str (a b : Str) : PyData.eqv (.str a) (.str b) = decide (a = b) := by
  unfold PyData.eqv
  by_cases h : a = b
  · subst h; simp
  · simp [h]
@[simp] theorem eqV_str (a b : Str) : eqV (.str a) (.str b) = .ok (decide (a = b)) := by rw [show eqV (.str a) (.str b) = .ok (PyData.eqv (.str a) (.str b)) from rfl, eqv_str]
@[simp] theorem neV_str (a b : Str) : neV (.str a) (.str b) = .ok (!decide (a = b)) := by rw [show neV (.str a) (.str b) = .ok (!PyData.eqv (.str a) (.str b)) from rfl, eqv_str]
theorem eqv_bool (a b : Bool) : PyData.eqv (.bool a) (.bool b) = decide (a = b) := by cases a <;> cases b <;> rfl
@[simp] theorem eqV_bool (a b : Bool) : eqV (.bool a) (.bool b) = .ok (decide (a = b)) := by rw [eqV_of rfl rfl, eqv_bool]
@[simp] theorem neV_bool (a b : Bool) : neV (.bool a) (.bool b) = .ok (!decide (a = b)) := by rw [neV_of rfl rfl, eqv_bool]
/-- x in t, x in xs -/
def inV (d e : PyData) : R Bool := match e with
  | .tuple ds => if SeqAt.shaped d = true ∧ SeqAt.shaped e = true then .ok (ds.any fun z => PyData.eqv z d) else .stuck
  | .list ds => if SeqAt.shaped d = true ∧ SeqAt.shaped e = true then .ok (ds.any fun z => PyData.eqv z d) else .stuck
  | _ => .stuck
def ninV (d e : PyData) : R Bool := (inV d e).bind fun b => .ok (!b)
/-- is None -/
def isV (d e : PyData) : R Bool := match e with
  | .none => .ok (isNone d)
  | _ => .stuck
def nisV (d e : PyData) : R Bool := (isV d e).bind fun b => .ok (!b)
section
variable {X : Cx}
theorem op_eqVd (hu : X.A.units + 64 < cLine) : OpR X (compareOp .Eq) (rDat2 X.K eqV) := by
  intro pins s σ H x y v u Q I rx ry ⟨d, e, b, hd, he, zd, ze, hg, q⟩
  unfold eqV at hg
  split at hg
  · rename_i c
    cases hg
    rcases eqOk_cases c with ⟨x1, y1, rfl, rfl⟩ | c
    · cases hd; cases he
      rw [eqv_str] at q
      exact op_eq pins s σ H _ _ v u Q I rx ry (sEqS q)
    · exact op_eqD hu pins s σ H x y v u Q I rx ry ⟨d, e, hd, he, c.1, c.2, q⟩
  · cases hg
theorem op_neVd (hu : X.A.units + 64 < cLine) : OpR X (compareOp .NotEq) (rDat2 X.K neV) := by
  intro pins s σ H x y v u Q I rx ry ⟨d, e, b, hd, he, zd, ze, hg, q⟩
  unfold neV at hg
  split at hg
  · rename_i c
    cases hg
    rcases eqOk_cases c with ⟨x1, y1, rfl, rfl⟩ | c
    · cases hd; cases he
      rw [eqv_str] at q
      exact op_ne pins s σ H _ _ v u Q I rx ry (sNeS q)
    · exact op_neD hu pins s σ H x y v u Q I rx ry ⟨d, e, hd, he, c.1, c.2, q⟩
  · cases hg
theorem cmpRoom {d e : PyData} (hu : X.A.units + 160 < cLine) (c : cmpOk d e) : X.A.units + min d.depth e.depth < cLine := by
  have := c.2.2
  omega
theorem cmpNn {d e : PyData} (c : cmpOk d e) : d ≠ .none := fun z => by have := c.2.1; rw [z] at this; cases this
theorem op_ltVd (hu : X.A.units + 160 < cLine) : OpR X (compareOp .Lt) (rDat2 X.K ltV) := by
  intro pins s σ H x y v u Q I rx ry ⟨d, e, b, hd, he, zd, ze, hg, q⟩
  unfold ltV at hg
  split at hg
  · rename_i c
    cases hg
    obtain ⟨as, r1⟩ := Dp.reads I d x v hd rx
    obtain ⟨bs, r2⟩ := Dp.reads I e y u he ry
    exact PySem.W.lt_data r1 r2 c.1 (cmpNn c) (cmpRoom hu c) ⟨.bl _, H, I, rfl, q⟩
  · cases hg
theorem op_gtVd (hu : X.A.units + 160 < cLine) : OpR X (compareOp .Gt) (rDat2 X.K gtV) := by
  intro pins s σ H x y v u Q I rx ry ⟨d, e, b, hd, he, zd, ze, hg, q⟩
  unfold gtV at hg
  split at hg
  · rename_i c
    cases hg
    obtain ⟨as, r1⟩ := Dp.reads I d x v hd rx
    obtain ⟨bs, r2⟩ := Dp.reads I e y u he ry
    exact PySem.W.gt_data r1 r2 c.1 (cmpNn c) (cmpRoom hu c) ⟨.bl _, H, I, rfl, q⟩
  · cases hg
theorem op_leVd (hu : X.A.units + 160 < cLine) : OpR X (compareOp .LtE) (rDat2 X.K leV) := by
  intro pins s σ H x y v u Q I rx ry ⟨d, e, b, hd, he, zd, ze, hg, q⟩
  unfold leV at hg
  split at hg
  · rename_i c
    cases hg
    obtain ⟨as, r1⟩ := Dp.reads I d x v hd rx
    obtain ⟨bs, r2⟩ := Dp.reads I e y u he ry
    exact PySem.W.le_data r1 r2 c.1 (cmpNn c) (cmpRoom hu c) ⟨.bl _, H, I, rfl, q⟩
  · cases hg
theorem op_geVd (hu : X.A.units + 160 < cLine) : OpR X (compareOp .GtE) (rDat2 X.K geV) := by
  intro pins s σ H x y v u Q I rx ry ⟨d, e, b, hd, he, zd, ze, hg, q⟩
  unfold geV at hg
  split at hg
  · rename_i c
    cases hg
    obtain ⟨as, r1⟩ := Dp.reads I d x v hd rx
    obtain ⟨bs, r2⟩ := Dp.reads I e y u he ry
    exact PySem.W.ge_data r1 r2 c.1 (cmpNn c) (cmpRoom hu c) ⟨.bl _, H, I, rfl, q⟩
  · cases hg
theorem op_inVd (hu : X.A.units + 160 < cLine) : OpR X (compareOp .In) (rDat2 X.K inV) := by
  intro pins s σ H x y v u Q I rx ry ⟨d, e, b, hd, he, zd, ze, hg, q⟩
  obtain ⟨as, r1⟩ := Dp.reads I d x v hd rx
  obtain ⟨bs, r2⟩ := Dp.reads I e y u he ry
  cases e with
  | tuple ds =>
    unfold inV at hg
    dsimp only at hg
    split at hg
    · rename_i c
      cases hg
      exact SeqAt.in_tuple_reads r2 r1 (SeqAt.canLay_of_shaped c.2) (SeqAt.canLay_of_shaped c.1) (by
        have := of_decide_eq_true (Bool.and_eq_true_iff.mp c.1).2
        omega) ⟨.bl _, H, I, rfl, q⟩
    · cases hg
  | list ds =>
    unfold inV at hg
    dsimp only at hg
    split at hg
    · rename_i c
      cases hg
      exact SeqAt.in_list_reads r2 r1 (SeqAt.canLay_of_shaped c.2) (SeqAt.canLay_of_shaped c.1) (by
        have := of_decide_eq_true (Bool.and_eq_true_iff.mp c.1).2
        omega) ⟨.bl _, H, I, rfl, q⟩
    · cases hg
  | _ => cases hg
theorem op_ninVd (hu : X.A.units + 160 < cLine) : OpR X (compareOp .NotIn) (rDat2 X.K ninV) := by
  intro pins s σ H x y v u Q I rx ry ⟨d, e, b, hd, he, zd, ze, hg, q⟩
  obtain ⟨as, r1⟩ := Dp.reads I d x v hd rx
  obtain ⟨bs, r2⟩ := Dp.reads I e y u he ry
  unfold ninV at hg
  cases e with
  | tuple ds =>
    unfold inV at hg
    dsimp only at hg
    split at hg
    · rename_i c
      cases hg
      exact SeqAt.notIn_tuple_reads r2 r1 (SeqAt.canLay_of_shaped c.2) (SeqAt.canLay_of_shaped c.1) (by
        have := of_decide_eq_true (Bool.and_eq_true_iff.mp c.1).2
        omega) ⟨.bl _, H, I, rfl, q⟩
    · cases hg
  | list ds =>
    unfold inV at hg
    dsimp only at hg
    split at hg
    · rename_i c
      cases hg
      exact SeqAt.notIn_list_reads r2 r1 (SeqAt.canLay_of_shaped c.2) (SeqAt.canLay_of_shaped c.1) (by
        have := of_decide_eq_true (Bool.and_eq_true_iff.mp c.1).2
        omega) ⟨.bl _, H, I, rfl, q⟩
    · cases hg
  | _ => cases hg
theorem op_isV : OpR X (compareOp .Is) (rDat2 X.K isV) := by
  intro pins s σ H x y v u Q I rx ry ⟨d, e, b, hd, he, zd, ze, hg, q⟩
  cases he with
  | non =>
    cases hg
    refine op_isN pins s σ H _ _ v u Q I rx ry ⟨rfl, ?_⟩
    have : decide (x = V.non) = isNone d := by cases hd <;> rfl
    rw [this]; exact q
  | _ => cases hg
theorem op_nisV : OpR X (compareOp .IsNot) (rDat2 X.K nisV) := by
  intro pins s σ H x y v u Q I rx ry ⟨d, e, b, hd, he, zd, ze, hg, q⟩
  cases he with
  | non =>
    cases hg
    refine op_notN pins s σ H _ _ v u Q I rx ry ⟨rfl, ?_⟩
    have : decide (x = V.non) = isNone d := by cases hd <;> rfl
    rw [this]; exact q
  | _ => cases hg
end
/-! ### places and parts -/
def ixV (d e : PyData) : R PyData := match e with
  | .int n => match d with
    | .tuple ds => match atI ds n with
      | some z => .ok z
      | none => .stuck
    | .str w => match atI w.cps.toList n with
      | some c => .ok (.str ⟨#[c]⟩)
      | none => .stuck
    | .list ds => match atI ds n with
      | some z => asI z
      | none => .stuck
    | _ => .stuck
  | _ => .stuck
def rIxV (K : PySem.W.Frag) : R2 := fun x y H Q => ∃ d e z, Dp K H x d ∧ TD K H y e ∧ szD d ∧ ixV d e = .ok z ∧ (immD d = true ∨ ∃ ds, d = .list ds) ∧ ∀ v, TD K H v z → szD z → Q v H
theorem atI_map {α β : Type} {xs : List α} {ys : List β} (h : xs.length = ys.length) {n : Int} {z : β} (e : atI ys n = some z) : ∃ j v, ixN ys.length n = some j ∧ xs[j]? = some v ∧ ys[j]? = some z ∧ atI xs n = some v := by
  unfold atI at e
  cases c : ixN ys.length n with
  | none => rw [c] at e; cases e
  | some j =>
    rw [c] at e
    have e : ys[j]? = some z := e
    have hj := (List.getElem?_eq_some_iff.mp e).1
    refine ⟨j, xs[j]'(by omega), rfl, List.getElem?_eq_getElem _, e, ?_⟩
    unfold atI
    rw [show ixN xs.length n = some j from h ▸ c]
    exact List.getElem?_eq_getElem _
theorem szAt {ds : List PyData} {j : Nat} {z : PyData} (h : szAll ds) (e : ds[j]? = some z) : szD z := szAll_iff.mp h z (List.mem_of_getElem? e)
theorem ix_V {X : Cx} : IxR X (rIxV X.K) := by
  intro value slice pins s σ H x y v u Q I rx ry ⟨d, e, z, hd, he, zd, hg, hi, q⟩ hs
  cases he with
  | int n =>
    cases hd with
    | tup h1 h2 =>
      rename_i ds
      have h2 : DpAll X.K H _ _ := h2
      have hi2 : immD (.tuple ds) = true := by
        rcases hi with z | ⟨_, z⟩
        · exact z
        · cases z
      have ht := dpsImm h2 (by rw [immD] at hi2; exact hi2)
      unfold ixV at hg
      dsimp only at hg
      split at hg
      · rename_i z' e'
        cases hg
        obtain ⟨j, w, e1, e2, e3, e4⟩ := atI_map ht.length e'
        obtain ⟨d', g1, g2⟩ := ht.get e2
        rw [e3] at g1
        cases g1
        exact ix_tup value slice pins s σ H _ _ v u Q I rx ry ⟨_, _, n, w, rfl, rfl, h1, e4, q w g2 (szAt zd.2 e3)⟩ hs
      · cases hg
    | lst h1 h2 =>
      rename_i ds
      have h2 : DpAll X.K H _ _ := h2
      unfold ixV at hg
      dsimp only at hg
      split at hg
      · rename_i z' e'
        unfold asI at hg
        split at hg
        · rename_i im
          cases hg
          have len : ∀ {xs : List V} {ds : List PyData}, DpAll X.K H xs ds → xs.length = ds.length := by
            intro xs
            induction xs with
            | nil => intro ds h; cases h; rfl
            | cons x xs ih => intro ds h; cases h with
              | cons _ h => simp [ih h]
          have get : ∀ {xs : List V} {ds : List PyData}, DpAll X.K H xs ds → ∀ {j : Nat} {w : V} {d : PyData}, xs[j]? = some w → ds[j]? = some d → Dp X.K H w d := by
            intro xs
            induction xs with
            | nil => intro ds h j w d e; simp at e
            | cons x xs ih => intro ds h; cases h with
              | cons h0 h => intro j w d e1 e2; cases j with
                | zero => simp at e1 e2; subst e1 e2; exact h0
                | succ j => exact ih h (by simpa using e1) (by simpa using e2)
          obtain ⟨j, w, e1, e2, e3, e4⟩ := atI_map (len h2) e'
          exact ix_list value slice pins s σ H _ _ v u Q I rx ry ⟨_, _, n, w, rfl, rfl, h1, e4, q w (dpImm (get h2 e2 e3) im) (szAt zd.2 e3)⟩ hs
        · cases hg
      · cases hg
    | str w =>
      unfold ixV at hg
      dsimp only at hg
      split at hg
      · rename_i c e'
        cases hg
        exact ix_str value slice pins s σ H _ _ v u Q I rx ry ⟨w, n, c, rfl, rfl, zd, e', q _ (.str _) (by show 1 ≤ sizeLine; rw [sizeLine_eq]; decide)⟩ hs
      · cases hg
    | _ => cases hg
  | _ => cases hg
end Vl
/-! What is walked; built-ins over lists and tuples. -/
namespace Vl
open PySem PySem.Spec PyProof.Rows L2 Hw
section
variable {Γ : Ctx} {β : Type} {m : R β} {env env' ts : List Sl} {te : TE} {ta : TA} {i j : Nat} {Φ : Sl → List Sl → R β → Prop} {Ψ : List PyData → (PyData → Sl) → List Sl → R β → Prop}
def itemsT : PyData → R (List PyData)
  | .tuple ds => .ok ds
  | _ => .stuck
@[simp] theorem itemsT_t (ds : List PyData) : itemsT (.tuple ds) = .ok ds := rfl
/-- items of a list, as data without lists -/
def itemsI (ds : List PyData) : R (List PyData) := if immAll ds = true then .ok ds else .stuck
theorem itemsI_eq {ds : List PyData} (h : immAll ds = true) : itemsI ds = .ok ds := if_pos h
theorem TDs.getD' {K : PySem.W.Frag} {H : Hp} {xs : List V} {ds : List PyData} (h : TDs K H xs ds) {i : Nat} {x : V} {d : PyData} (e1 : xs[i]? = some x) (e2 : ds[i]? = some d) : TD K H x d := by
  obtain ⟨d', g1, g2⟩ := h.get e1
  rw [e2] at g1
  cases g1
  exact g2
/-- the top root becomes what is walked -/
theorem Rel.toIt {K : PySem.W.Frag} {w : Wd} {σ : L2.St} {vs us : List V} {bs : List Sl} {v : V} {r r' : Sl} (R : Rel K w σ env (v :: vs) (r :: ts) us bs) (kl : kill r' = r') (h : ∀ F, SlR K w.H w.Sh v r F → SlR K w.H w.Sh v r' F) :
    ∃ w', w'.H = w.H ∧ Rel K w' σ env vs ts (v :: us) (r' :: bs) ∧ Step w w' := by
  obtain ⟨F, G, B, h1, h2, h3, e⟩ := R.ex
  cases h2 with
  | cons hv h2 =>
    have R2 : Rel K w σ env ([v] ++ vs) ([r'] ++ ts) us bs := ⟨⟨F, _, B, h1, .cons (h _ hv) h2, h3, e⟩, R.nd, R.out, R.lv, R.kl⟩
    exact Rel.base (ws := [v]) (rs := [r']) R2 rfl (by rw [List.map_cons, kl]; rfl)
theorem walkT {K : PySem.W.Frag} {a : Addr} {xs : List V} {ds : List PyData} {v : V} (l : xs.length = ds.length) (z : ds.length ≤ sizeLine) : WalkOn K (Itt K a) [v] [.itT a xs ds] ds .imm := by
  refine ⟨⟨fun H => SqT K H a xs, YAt xs, l ▸ walk_tup, fun H Sh F h => (h.one).2.1, fun i d H Sh F x H' ed ht lv y => ?_⟩, rfl, rfl, z⟩
  obtain ⟨rfl, ex⟩ := y
  obtain ⟨_, h1, h2, h3⟩ := ht.one
  exact ⟨Kp.refl, rfl, TDs.getD' h2 ex ed, szAt h3 ed⟩
theorem iv_tup (h : EV Γ te env ts m fun r env1 m1 => ∃ d kk, r = .imm d ∧ m1 = (itemsT d).bind kk ∧ ∀ ds, Ψ ds .imm env1 (kk ds)) : IV Γ (iTup Γ.K te) env ts m Ψ := by
  intro o e1 e2 σ w vs us bs Z R X kz
  refine h o e1 e2 σ w vs us bs _ R X fun r env1 m1 v w1 ⟨d, kk, er, em, hk⟩ em1 R1 s1 => ?_
  subst er
  match d, em, R1 with
  | .tuple ds, em, R1 =>
    obtain ⟨ht, hz⟩ := R1.td
    obtain ⟨a, xs, rfl, h1, h2⟩ := ht.ref
    obtain ⟨w2, e2', R2, s2⟩ := R1.toIt (r' := .itT a xs ds) rfl fun F hF => ⟨hF.1, h1, h2, hz.2⟩
    refine ⟨a, rfl, ⟨xs, h1⟩, ?_⟩
    rw [← e2']
    exact kz _ ds .imm _ _ env1 _ w2 (hk ds) (by rw [← em1, em]; rfl) (walkT h2.length hz.1) R2 (s1.trans s2)
  | .none, em, _ => rw [em] at em1; exact absurd em1.symm e2
  | .bool _, em, _ => rw [em] at em1; exact absurd em1.symm e2
  | .int _, em, _ => rw [em] at em1; exact absurd em1.symm e2
  | .str _, em, _ => rw [em] at em1; exact absurd em1.symm e2
  | .list _, em, _ => rw [em] at em1; exact absurd em1.symm e2
  | .dict _, em, _ => rw [em] at em1; exact absurd em1.symm e2
theorem ownsLen {K : PySem.W.Frag} {H : Hp} : ∀ {xs : List V} {ds : List PyData} {F : List Addr}, Owns K H xs ds F → xs.length = ds.length
  | _, _, _, .nil => rfl
  | _, _, _, .cons _ t _ => congrArg (· + 1) (ownsLen t)
theorem shdsLen {K : PySem.W.Frag} {H : Hp} {Sh : Addr → Prop} : ∀ {xs : List V} {ds : List PyData}, Shds K H Sh xs ds → xs.length = ds.length
  | _, _, .nil => rfl
  | _, _, .cons _ t => congrArg (· + 1) (shdsLen t)
theorem ownsAt {K : PySem.W.Frag} {H : Hp} : ∀ {xs : List V} {ds : List PyData} {F : List Addr}, Owns K H xs ds F → ∀ {i : Nat} {x : V} {d : PyData}, xs[i]? = some x → ds[i]? = some d → ∃ G, Own K H x d G
  | _, _, _, .nil, i, x, d, e, _ => by simp at e
  | _, _, _, .cons h t _, 0, x, d, e1, e2 => by simp at e1 e2; subst e1 e2; exact ⟨_, h⟩
  | _, _, _, .cons h t _, i + 1, x, d, e1, e2 => ownsAt t (i := i) (by simpa using e1) (by simpa using e2)
theorem shdsAt {K : PySem.W.Frag} {H : Hp} {Sh : Addr → Prop} : ∀ {xs : List V} {ds : List PyData}, Shds K H Sh xs ds → ∀ {i : Nat} {x : V} {d : PyData}, xs[i]? = some x → ds[i]? = some d → Shd K H Sh x d
  | _, _, .nil, i, x, d, e, _ => by simp at e
  | _, _, .cons h t, 0, x, d, e1, e2 => by simp at e1 e2; subst e1 e2; exact h
  | _, _, .cons h t, i + 1, x, d, e1, e2 => shdsAt t (i := i) (by simpa using e1) (by simpa using e2)
theorem walkLB {K : PySem.W.Frag} {a : Addr} {xs : List V} {ds : List PyData} {v : V} (l : xs.length = ds.length) (z : ds.length ≤ sizeLine) : WalkOn K (Itl K a) [v] [.itL a xs ds] ds .bor := by
  refine ⟨⟨fun H => SqL K H a xs, YAt xs, l ▸ walk_list, fun H Sh F h => ?_, fun i d H Sh F x H' ed ht lv y => ?_⟩, rfl, rfl, z⟩
  · obtain ⟨_, _, h1, _⟩ := h.one
    exact .inl (.inl h1)
  · obtain ⟨rfl, ex⟩ := y
    obtain ⟨_, _, h1, h2, _, h4⟩ := ht.one
    obtain ⟨G, g⟩ := ownsAt h2 ex ed
    exact ⟨Kp.refl, rfl, g.shd g.live, szAt h4 ed⟩
theorem walkSB {K : PySem.W.Frag} {a : Addr} {xs : List V} {ds : List PyData} {v : V} (l : xs.length = ds.length) (z : ds.length ≤ sizeLine) : WalkOn K (Itl K a) [v] [.itS a xs ds] ds .bor := by
  refine ⟨⟨fun H => SqL K H a xs, YAt xs, l ▸ walk_list, fun H Sh F h => (h.one).2.1, fun i d H Sh F x H' ed ht lv y => ?_⟩, rfl, rfl, z⟩
  obtain ⟨rfl, ex⟩ := y
  obtain ⟨_, h1, h2, h3, h4⟩ := ht.one
  exact ⟨Kp.refl, rfl, (shdsAt h3 ex ed).mono lv, szAt h4 ed⟩
/-- items read as shared -/
theorem walkSS {K : PySem.W.Frag} {a : Addr} {xs : List V} {ds : List PyData} {v : V} (l : xs.length = ds.length) (z : ds.length ≤ sizeLine) : WalkOn K (Itl K a) [v] [.itS a xs ds] ds .shr := by
  refine ⟨⟨fun H => SqL K H a xs, YAt xs, l ▸ walk_list, fun H Sh F h => (h.one).2.1, fun i d H Sh F x H' ed ht lv y => ?_⟩, rfl, rfl, z⟩
  obtain ⟨rfl, ex⟩ := y
  obtain ⟨_, h1, h2, h3, h4⟩ := ht.one
  exact ⟨Kp.refl, rfl, shdsAt h3 ex ed, szAt h4 ed⟩
theorem WalkOn.toImm {K : PySem.W.Frag} {J : It} {ws : List V} {rs : List Sl} {ds : List PyData} {md : PyData → Sl} (W : WalkOn K J ws rs ds md) (hd : ∀ d, SlD (md d) d) (h : immAll ds = true) : WalkOn K J ws rs ds .imm := by
  obtain ⟨G, Y, h1, h2, h3⟩ := W.ex
  refine ⟨⟨G, Y, h1, h2, fun i d H Sh F x H' ed ht lv y => ?_⟩, W.kl, W.le, W.sz⟩
  obtain ⟨k, s⟩ := h3 i d H Sh F x H' ed ht lv y
  obtain ⟨q1, q2⟩ := s.dp (hd d)
  exact ⟨k, rfl, dpImm q1 (immAll_iff.mp h d (List.mem_of_getElem? ed)), q2⟩
/-- roots that may be walked as lists -/
inductive LiSl : Sl → List PyData → Prop
  | own (ds : List PyData) : LiSl (.own (.list ds)) ds
  | shr (ds : List PyData) : LiSl (.shr (.list ds)) ds
theorem Rel.lay {K : PySem.W.Frag} {w : Wd} {σ : L2.St} {vs us : List V} {bs : List Sl} {v : V} {r : Sl} {ds : List PyData} (R : Rel K w σ env (v :: vs) (r :: ts) us bs) (s : LiSl r ds) :
    ∃ a xs r' w', v = .ref a ∧ SqL K w.H a xs ∧ w'.H = w.H ∧ Rel K w' σ env vs ts (v :: us) (r' :: bs) ∧ Step w w' ∧ WalkOn K (Itl K a) [v] [r'] ds .bor := by
  obtain ⟨F, hF⟩ := R.top
  cases s with
  | own =>
    obtain ⟨h, hz⟩ := hF
    cases h with
    | leaf h => cases h
    | lst ha hi na =>
      rename_i a xs Fi
      obtain ⟨w2, e2, R2, s2⟩ := R.toIt (r' := .itL a xs ds) rfl fun F2 hF2 => by
        obtain ⟨h, hz⟩ := hF2
        cases h with
        | leaf z => cases z
        | lst ha2 hi2 na2 =>
          rw [ha] at ha2
          cases ha2
          exact ⟨_, rfl, ha, hi2, na2, hz.2⟩
      exact ⟨a, xs, _, w2, rfl, .inl (.inl ha), e2, R2, s2, walkLB (ownsLen hi) hz.1⟩
  | shr =>
    obtain ⟨_, h, hz⟩ := hF
    cases h with
    | leaf h => cases h
    | lst ha hs hi =>
      rename_i a xs
      obtain ⟨w2, e2, R2, s2⟩ := R.toIt (r' := .itS a xs ds) rfl fun F2 hF2 => ⟨hF2.1, ha, hs, hi, hz.2⟩
      exact ⟨a, xs, _, w2, rfl, ha, e2, R2, s2, walkSB (shdsLen hi) hz.1⟩
/-- a list walked, its items read just then -/
theorem iv_lstB (h : EV Γ te env ts m fun r env1 m1 => ∃ ds, LiSl r ds ∧ Ψ ds .bor env1 m1) : IV Γ (iList Γ.K te) env ts m Ψ := by
  intro o e1 e2 σ w vs us bs Z R X kz
  refine h o e1 e2 σ w vs us bs _ R X fun r env1 m1 v w1 ⟨ds, s, hk⟩ em1 R1 s1 => ?_
  obtain ⟨a, xs, r', w2, rfl, hs, e2', R2, s2, W⟩ := R1.lay s
  refine ⟨a, rfl, ⟨xs, hs⟩, ?_⟩
  rw [← e2']
  exact kz _ ds .bor [r'] [_] env1 m1 w2 hk em1 W R2 (s1.trans s2)
theorem iv_lstI (h : EV Γ te env ts m fun r env1 m1 => ∃ ds kk, LiSl r ds ∧ m1 = (itemsI ds).bind kk ∧ ∀ ds, Ψ ds .imm env1 (kk ds)) : IV Γ (iList Γ.K te) env ts m Ψ := by
  intro o e1 e2 σ w vs us bs Z R X kz
  refine h o e1 e2 σ w vs us bs _ R X fun r env1 m1 v w1 ⟨ds, kk, s, em, hk⟩ em1 R1 s1 => ?_
  obtain ⟨a, xs, r', w2, rfl, hs, e2', R2, s2, W⟩ := R1.lay s
  refine ⟨a, rfl, ⟨xs, hs⟩, ?_⟩
  by_cases c : immAll ds = true
  · rw [← e2']
    exact kz _ ds .imm [r'] [_] env1 _ w2 (hk ds) (by rw [← em1, em, itemsI_eq c]; rfl) (W.toImm (fun d => .bor d) c) R2 (s1.trans s2)
  · rw [show itemsI ds = .stuck from if_neg c] at em
    rw [em] at em1
    exact absurd em1.symm e2
/-- a list read only, its items too -/
theorem iv_lstS (h : EV Γ te env ts m fun r env1 m1 => ∃ ds, r = .shr (.list ds) ∧ Ψ ds .shr env1 m1) : IV Γ (iList Γ.K te) env ts m Ψ := by
  intro o e1 e2 σ w vs us bs Z R X kz
  refine h o e1 e2 σ w vs us bs _ R X fun r env1 m1 v w1 ⟨ds, er, hk⟩ em1 R1 s1 => ?_
  subst er
  obtain ⟨F, hF⟩ := R1.top
  obtain ⟨_, h, hz⟩ := hF
  cases h with
  | leaf h => cases h
  | lst ha hs hi =>
    rename_i a xs
    obtain ⟨w2, e2', R2, s2⟩ := R1.toIt (r' := .itS a xs ds) rfl fun F2 hF2 => ⟨hF2.1, ha, hs, hi, hz.2⟩
    refine ⟨a, rfl, ⟨xs, ha⟩, ?_⟩
    rw [← e2']
    exact kz _ ds .shr [_] [_] env1 m1 w2 hk em1 (walkSS (shdsLen hi) hz.1) R2 (s1.trans s2)
/-! ranges -/
def rgD (lo : Int) (n : Nat) : List PyData := (List.range n).map fun i : Nat => .int (lo + (i : Int))
def rngOk (a b : Int) : Prop := -(2 ^ 40) ≤ a ∧ a ≤ 2 ^ 20 ∧ -(2 ^ 40) ≤ b ∧ b ≤ 2 ^ 20 ∧ (b - a).toNat ≤ sizeLine
instance (a b : Int) : Decidable (rngOk a b) := inferInstanceAs (Decidable (_ ∧ _ ∧ _ ∧ _ ∧ _))
def range2 : PyData → PyData → R (List PyData)
  | .int a, .int b => if rngOk a b then .ok (rgD a (b - a).toNat) else .stuck
  | _, _ => .stuck
def range1 (d : PyData) : R (List PyData) := range2 (.int 0) d
theorem walkR {K : PySem.W.Frag} {lo : Int} {n : Nat} (z : n ≤ sizeLine) : WalkOn K (Itr lo n) [] [] (rgD lo n) .imm := by
  have l : (rgD lo n).length = n := by unfold rgD; rw [List.length_map, List.length_range]
  refine ⟨⟨fun _ => True, YFn fun i => .int (lo + i), by rw [l]; exact walk_range, fun _ _ _ _ => trivial, fun i d H Sh F x H' ed ht lv y => ?_⟩, rfl, rfl, by rw [l]; exact z⟩
  obtain ⟨rfl, rfl⟩ := y
  have hi : i < n := by rw [← l]; exact (List.getElem?_eq_some_iff.mp ed).1
  unfold rgD at ed
  rw [List.getElem?_map, List.getElem?_range hi] at ed
  cases ed
  exact ⟨Kp.refl, rfl, .int _, trivial⟩
theorem iv_range1 (h : EA Γ ta env ts m fun rs env1 m1 => ∃ d kk, rs = [.imm d] ∧ m1 = (range1 d).bind kk ∧ ∀ ds, Ψ ds .imm env1 (kk ds)) : IV Γ (iRng1 ta) env ts m Ψ := by
  intro o e1 e2 σ w vs us bs Z R X kz
  refine h o e1 e2 σ w vs us bs _ R X fun rs env1 m1 ws w1 ⟨d, kk, er, em, hk⟩ em1 R1 el s1 => ?_
  subst er
  match ws, el, R1 with
  | [x], _, R1 =>
    obtain ⟨ht, hz⟩ := Rel.td (v := x) (vs := vs) (ts := ts) R1
    match d, em, ht with
    | .int b, em, ht =>
      have := ht.toInt
      subst this
      by_cases c : rngOk 0 b
      · have er : range1 (.int b) = .ok (rgD 0 (b - 0).toNat) := if_pos c
        obtain ⟨w2, e2', R2, s2⟩ := Rel.pops (ws := [V.int b]) (rs := [.imm (.int b)]) R1 rfl
        obtain ⟨c1, c2, c3, c4, c5⟩ := c
        refine ⟨b, rfl, by omega, by omega, ?_⟩
        rw [← e2']
        rw [er] at em
        rw [Int.sub_zero] at c5 em
        exact kz _ _ .imm [] [] env1 _ w2 (hk _) (by rw [← em1, em]; rfl) (walkR c5) R2 (s1.trans s2)
      · rw [show range1 (.int b) = .stuck from if_neg c] at em
        rw [em] at em1
        exact absurd em1.symm e2
    | .none, em, _ => rw [em] at em1; exact absurd em1.symm e2
    | .bool _, em, _ => rw [em] at em1; exact absurd em1.symm e2
    | .str _, em, _ => rw [em] at em1; exact absurd em1.symm e2
    | .tuple _, em, _ => rw [em] at em1; exact absurd em1.symm e2
    | .list _, em, _ => rw [em] at em1; exact absurd em1.symm e2
    | .dict _, em, _ => rw [em] at em1; exact absurd em1.symm e2
theorem range2_int {a b : PyData} {kk : List PyData → R β} {o : R β} (h : (range2 a b).bind kk = o) (n : o ≠ .stuck) : ∃ i j, a = .int i ∧ b = .int j ∧ rngOk i j ∧ kk (rgD i (j - i).toNat) = o := by
  cases a with
  | int i =>
    cases b with
    | int j =>
      by_cases c : rngOk i j
      · rw [show range2 (.int i) (.int j) = .ok (rgD i (j - i).toNat) from if_pos c] at h
        exact ⟨i, j, rfl, rfl, c, h⟩
      · rw [show range2 (.int i) (.int j) = .stuck from if_neg c] at h
        exact absurd h.symm n
    | _ => exact absurd h.symm n
  | _ => cases b <;> exact absurd h.symm n
theorem iv_range2 (h : EA Γ ta env ts m fun rs env1 m1 => ∃ d e kk, rs = [.imm d, .imm e] ∧ m1 = (range2 d e).bind kk ∧ ∀ ds, Ψ ds .imm env1 (kk ds)) : IV Γ (iRng2 ta) env ts m Ψ := by
  intro o e1 e2 σ w vs us bs Z R X kz
  refine h o e1 e2 σ w vs us bs _ R X fun rs env1 m1 ws w1 ⟨d, e, kk, er, em, hk⟩ em1 R1 el s1 => ?_
  subst er
  match ws, el, R1 with
  | [x, y], _, R1 =>
    obtain ⟨i, j, rfl, rfl, c, eo⟩ := range2_int (em ▸ em1) e2
    obtain ⟨F1, t1⟩ := Rel.top (v := y) (vs := x :: vs) (ts := .imm (.int i) :: ts) R1
    obtain ⟨F2, t2⟩ := Rel.under (v1 := y) (v := x) (vs := vs) (ts := ts) R1
    have ex := t2.2.1.toInt
    have ey := t1.2.1.toInt
    subst ex ey
    obtain ⟨w2, e2', R2, s2⟩ := Rel.pops (ws := [V.int j, V.int i]) (rs := [.imm (.int j), .imm (.int i)]) R1 rfl
    obtain ⟨c1, c2, c3, c4, c5⟩ := c
    refine ⟨i, j, rfl, ⟨by omega, by omega, by omega, by omega⟩, ?_⟩
    rw [← e2']
    exact kz _ _ .imm [] [] env1 _ w2 (hk _) eo (walkR c5) R2 (s1.trans s2)
/-! enumerate -/
def enumD (ds : List PyData) : List PyData := (List.range ds.length).map fun i : Nat => .tuple [.int (i : Int), ds.getD i .none]
theorem enumLen (ds : List PyData) : (enumD ds).length = ds.length := by unfold enumD; rw [List.length_map, List.length_range]
theorem enumAt {ds : List PyData} {i : Nat} {d : PyData} (h : (enumD ds)[i]? = some d) : ∃ x, ds[i]? = some x ∧ d = .tuple [.int (i : Int), x] := by
  have hi : i < ds.length := by rw [← enumLen ds]; exact (List.getElem?_eq_some_iff.mp h).1
  unfold enumD at h
  rw [List.getElem?_map, List.getElem?_range hi] at h
  cases h
  exact ⟨ds.getD i .none, by rw [List.getD_eq_getElem?_getD, List.getElem?_eq_getElem hi]; rfl, rfl⟩
theorem two_le : 2 ≤ sizeLine := by rw [sizeLine_eq]; decide
theorem tmsOne {K : PySem.W.Frag} {H : Hp} {Sh : Addr → Prop} {v : V} {r : Sl} {A : List Addr} (h : Tms K H Sh [v] [r] A) : SlR K H Sh v r A := h.one
theorem iv_enumT (h : EA Γ ta env ts m fun rs env1 m1 => ∃ d kk, rs = [.imm d] ∧ m1 = (itemsT d).bind kk ∧ ∀ ds, Ψ (enumD ds) .imm env1 (kk ds)) : IV Γ (iEnumT Γ.K ta) env ts m Ψ := by
  intro o e1 e2 σ w vs us bs Z R X kz
  refine h o e1 e2 σ w vs us bs _ R X fun rs env1 m1 ws w1 ⟨d, kk, er, em, hk⟩ em1 R1 el s1 => ?_
  subst er
  match ws, el, R1 with
  | [x], _, R1 =>
    have R1 : Rel Γ.K w1 σ env1 (x :: vs) (.imm d :: ts) us bs := R1
    match d, em, R1 with
    | .tuple ds, em, R1 =>
      obtain ⟨ht, hz⟩ := R1.td
      obtain ⟨a, xs, rfl, h1, h2⟩ := ht.ref
      obtain ⟨w2, e2', R2, s2⟩ := R1.toIt (r' := .itT a xs ds) rfl fun F hF => ⟨hF.1, h1, h2, hz.2⟩
      refine ⟨a, xs, rfl, h1, ?_⟩
      rw [← e2']
      refine kz _ (enumD ds) .imm [_] [_] env1 _ w2 (hk ds) (by rw [← em1, em]; rfl) ⟨⟨fun H => SqT Γ.K H a xs, _, by rw [enumLen, ← h2.length]; exact walkEnumT, fun H Sh F (h : Tms Γ.K H Sh [V.ref a] [.itT a xs ds] F) => (h.one).2.1, fun i d H Sh F y H' ed ht2 lv yy => ?_⟩, rfl, rfl, by rw [enumLen]; exact hz.1⟩ R2 (s1.trans s2)
      obtain ⟨T, y1, y2, rfl, nT, rfl, q1, q2⟩ := yy
      cases q1
      obtain ⟨x2, ex, rfl⟩ := enumAt ed
      obtain ⟨_, g1, g2, g3⟩ := ht2.one
      have kp := Kp.new (S := Non) (o := .tup [V.int (i : Int), y2]) nT
      exact ⟨kp, rfl, .tup (.of upd_same) (.cons (.int _) (.cons ((TDs.getD' g2 q2 ex).kp kp) .nil)), two_le, trivial, szAt g3 ex, trivial⟩
    | .none, em, _ => rw [em] at em1; exact absurd em1.symm e2
    | .bool _, em, _ => rw [em] at em1; exact absurd em1.symm e2
    | .int _, em, _ => rw [em] at em1; exact absurd em1.symm e2
    | .str _, em, _ => rw [em] at em1; exact absurd em1.symm e2
    | .list _, em, _ => rw [em] at em1; exact absurd em1.symm e2
    | .dict _, em, _ => rw [em] at em1; exact absurd em1.symm e2
theorem iv_enumL (h : EA Γ ta env ts m fun rs env1 m1 => ∃ r ds kk, rs = [r] ∧ LiSl r ds ∧ m1 = (itemsI ds).bind kk ∧ ∀ ds, Ψ (enumD ds) .imm env1 (kk ds)) : IV Γ (iEnum Γ.K ta) env ts m Ψ := by
  intro o e1 e2 σ w vs us bs Z R X kz
  refine h o e1 e2 σ w vs us bs _ R X fun rs env1 m1 ws w1 ⟨r, ds, kk, er, s, em, hk⟩ em1 R1 el s1 => ?_
  subst er
  match ws, el, R1 with
  | [x], _, R1 =>
    have R1 : Rel Γ.K w1 σ env1 (x :: vs) (r :: ts) us bs := R1
    by_cases c : immAll ds = true
    · have fin : ∀ (a : Addr) (xs : List V) (r' : Sl) (w2 : Wd), SqL Γ.K w1.H a xs → x = .ref a → w2.H = w1.H → Rel Γ.K w2 σ env1 vs ts (x :: us) (r' :: bs) → Step w1 w2 → kill r' = r' → ds.length ≤ sizeLine → xs.length = ds.length →
          (∀ H Sh F, SlR Γ.K H Sh x r' F → (∀ a, Sh a → H a ≠ none) → SqL Γ.K H a xs ∧ DpAll Γ.K H xs ds ∧ szAll ds) → (∀ H Sh F, SlR Γ.K H Sh x r' F → SqL Γ.K H a xs) → ∃ a xs, [x] = [V.ref a] ∧ SqL Γ.K w1.H a xs ∧ Z (Ite Γ.K a) w1.H := by
        intro a xs r' w2 hs ex ew R2 s2 kr hz hl hr hg
        refine ⟨a, xs, by rw [ex], hs, ?_⟩
        rw [← ew]
        refine kz _ (enumD ds) .imm [r'] [x] env1 _ w2 (hk ds) (by rw [← em1, em, itemsI_eq c]; rfl) ⟨⟨fun H => SqL Γ.K H a xs, _, by rw [enumLen, ← hl]; exact walk_enum, fun H Sh F h => hg H Sh F h.one, fun i d H Sh F y H' ed ht2 lv yy => ?_⟩, by rw [List.map_cons, kr]; rfl, rfl, by rw [enumLen]; exact hz⟩ R2 (s1.trans s2)
        obtain ⟨T, y1, y2, rfl, nT, rfl, q1, q2⟩ := yy
        cases q1
        obtain ⟨x2, ex2, rfl⟩ := enumAt ed
        obtain ⟨_, g2, g3⟩ := hr H Sh F ht2.one lv
        have kp := Kp.new (S := Non) (o := .tup [V.int (i : Int), y2]) nT
        exact ⟨kp, rfl, .tup (.of upd_same) (.cons (.int _) (.cons ((TDs.getD' (dpsImm g2 c) q2 ex2).kp kp) .nil)), two_le, trivial, szAt g3 ex2, trivial⟩
      obtain ⟨F, hF⟩ := R1.top
      cases s with
      | own =>
        obtain ⟨h, hz⟩ := hF
        cases h with
        | leaf h => cases h
        | @lst a xs _ Fi ha hi na =>
          obtain ⟨w2, e2', R2, s2⟩ := R1.toIt (r' := .itL a xs ds) rfl fun F2 hF2 => by
            obtain ⟨h, hz⟩ := hF2
            cases h with
            | leaf z => cases z
            | lst ha2 hi2 na2 =>
              rw [ha] at ha2
              cases ha2
              exact ⟨_, rfl, ha, hi2, na2, hz.2⟩
          refine fin a xs _ w2 (.inl (.inl ha)) rfl e2' R2 s2 rfl hz.1 (ownsLen hi) (fun H Sh F h lv => ?_) (fun H Sh F h => ?_)
          · obtain ⟨_, _, h1, h2, _, h4⟩ := h
            exact ⟨.inl (.inl h1), ((h2.shds (Sh := fun _ => True) fun _ _ => trivial).dp), h4⟩
          · obtain ⟨_, _, h1, _⟩ := h
            exact .inl (.inl h1)
      | shr =>
        obtain ⟨_, h, hz⟩ := hF
        cases h with
        | leaf h => cases h
        | @lst a xs _ ha hs hi =>
          obtain ⟨w2, e2', R2, s2⟩ := R1.toIt (r' := .itS a xs ds) rfl fun F2 hF2 => ⟨hF2.1, ha, hs, hi, hz.2⟩
          exact fin a xs _ w2 ha rfl e2' R2 s2 rfl hz.1 (shdsLen hi) (fun H Sh F h lv => ⟨h.2.1, h.2.2.2.1.dp, h.2.2.2.2⟩) (fun H Sh F h => h.2.1)
    · rw [show itemsI ds = .stuck from if_neg c] at em
      rw [em] at em1
      exact absurd em1.symm e2
end
/-! ### built-ins -/
section
variable {K : PySem.W.Frag} {r : Sl} {d : PyData}
def lenV : PyData → R PyData
  | .tuple ds => .ok (.int ds.length)
  | .list ds => .ok (.int ds.length)
  | .str s => .ok (.int s.length)
  | _ => .stuck
@[simp] theorem lenV_t (ds : List PyData) : lenV (.tuple ds) = .ok (.int ds.length) := rfl
@[simp] theorem lenV_l (ds : List PyData) : lenV (.list ds) = .ok (.int ds.length) := rfl
@[simp] theorem lenV_s (s : Str) : lenV (.str s) = .ok (.int s.length) := rfl
theorem dpsLen {H : Hp} : ∀ {xs : List V} {ds : List PyData}, DpAll K H xs ds → xs.length = ds.length
  | _, _, .nil => rfl
  | _, _, .cons _ t => congrArg (· + 1) (dpsLen t)
theorem call_lenV {X : Cx} : CallR X (.builtin "len") (arg1 (rDat1 X.K lenV)) := by
  intro pins s σ H vs us Q I r0 ⟨x, e, d, z, hd, zd, hg, q⟩
  subst e
  cases hd with
  | tup h1 h2 => 
    cases hg
    have h2 : DpAll X.K H _ _ := h2
    exact call_lenG pins s σ H _ us Q I r0 (sLenT h1 (by rw [dpsLen h2]; exact q _ _ Kp.refl (.int _) trivial))
  | lst h1 h2 =>
    cases hg
    have h2 : DpAll X.K H _ _ := h2
    exact call_lenG pins s σ H _ us Q I r0 (sLenL h1 (by rw [dpsLen h2]; exact q _ _ Kp.refl (.int _) trivial))
  | str w =>
    cases hg
    exact call_lenG pins s σ H _ us Q I r0 ⟨_, w.length, rfl, ⟨zd, rfl⟩, q _ _ Kp.refl (.int _) trivial⟩
  | _ => cases hg
/-- whole numbers -/
def intsOf : List PyData → Option (List Int)
  | [] => some []
  | .int i :: r => (intsOf r).map (i :: ·)
  | _ :: _ => none
theorem intsOf_dp {H : Hp} : ∀ {xs : List V} {ds : List PyData} {ns : List Int}, DpAll K H xs ds → intsOf ds = some ns → xs = ns.map V.int
  | _, _, _, .nil, e => by cases e; rfl
  | _, _, _, .cons h t, e => by
    cases h with
    | int i =>
      rename_i vs ds
      have e : (intsOf ds).map (i :: ·) = some _ := e
      cases c : intsOf ds with
      | none => rw [c] at e; cases e
      | some ms =>
        rw [c] at e
        cases e
        rw [intsOf_dp t c]
        rfl
    | _ => cases e
@[simp] theorem intsOf_map (ns : List Int) : intsOf (ns.map PyData.int) = some ns := by
  induction ns with
  | nil => rfl
  | cons n r ih => rw [List.map_cons]; unfold intsOf; rw [ih]; rfl
def sumL (ds : List PyData) : R PyData := match intsOf ds with
  | some ns => .ok (.int ns.sum)
  | none => .stuck
def sumV : PyData → R PyData
  | .list ds => sumL ds
  | .tuple ds => sumL ds
  | _ => .stuck
theorem sumL_eq {ds : List PyData} {ns : List Int} (h : intsOf ds = some ns) : sumL ds = .ok (.int ns.sum) := by unfold sumL; rw [h]
theorem sumV_l {ds : List PyData} {ns : List Int} (h : intsOf ds = some ns) : sumV (.list ds) = .ok (.int ns.sum) := sumL_eq h
theorem sumV_t {ds : List PyData} {ns : List Int} (h : intsOf ds = some ns) : sumV (.tuple ds) = .ok (.int ns.sum) := sumL_eq h
theorem call_sumV {X : Cx} (hc : X.calm = true) : CallR X (.builtin "sum") (arg1 (rDat1 X.K sumV)) := by
  intro pins s σ H vs us Q I r0 ⟨x, e, d, z, hd, zd, hg, q⟩
  subst e
  cases hd with
  | lst h1 h2 =>
    rename_i a xs ds
    have h2 : DpAll X.K H xs ds := h2
    have hg : sumL ds = .ok z := hg
    unfold sumL at hg
    split at hg
    · rename_i ns c
      cases hg
      have := intsOf_dp h2 c
      subst this
      exact cr_sum hc pins s σ H _ us Q I r0 (sSum h1 (q _ _ Kp.refl (.int _) trivial))
    · cases hg
  | tup h1 h2 =>
    rename_i a xs ds
    have h2 : DpAll X.K H xs ds := h2
    have hg : sumL ds = .ok z := hg
    unfold sumL at hg
    split at hg
    · rename_i ns c
      cases hg
      have := intsOf_dp h2 c
      subst this
      obtain ⟨its, rv, ht, hz⟩ := I.tuple h1
      rw [Vals.ref1 r0]
      have hi := rv.ints
      obtain ⟨xs2, hx⟩ := hi.allInts.items
      have hn : numsOf its.toArray.toList = ns := by rw [show its.toArray.toList = its from rfl, hi.numsOf]
      rw [hx] at hn
      rw [nums_intItems] at hn
      have ht2 : s.heap.IsTuple a (intItems xs2) := by rw [← hx]; exact ht
      refine PySem.W.ktm_sumG (I.ok.hd hc) ht2 fun h' tk t' hk => ⟨.int ns.sum, H, I.kept hk, ⟨t', ?_⟩, q _ _ Kp.refl (.int _) trivial⟩
      rw [preSum_eq, List.take_of_length_le (by simp), hn]
    · cases hg
  | _ => cases hg
def boolsOf : List PyData → Option (List Bool)
  | [] => some []
  | .bool i :: r => (boolsOf r).map (i :: ·)
  | _ :: _ => none
theorem boolsOf_dp {H : Hp} : ∀ {xs : List V} {ds : List PyData} {ns : List Bool}, DpAll K H xs ds → boolsOf ds = some ns → xs = ns.map V.bl
  | _, _, _, .nil, e => by cases e; rfl
  | _, _, _, .cons h t, e => by
    cases h with
    | bl i =>
      rename_i vs ds
      have e : (boolsOf ds).map (i :: ·) = some _ := e
      cases c : boolsOf ds with
      | none => rw [c] at e; cases e
      | some ms =>
        rw [c] at e
        cases e
        rw [boolsOf_dp t c]
        rfl
    | _ => cases e
@[simp] theorem boolsOf_map (ns : List Bool) : boolsOf (ns.map PyData.bool) = some ns := by
  induction ns with
  | nil => rfl
  | cons n r ih => rw [List.map_cons]; unfold boolsOf; rw [ih]; rfl
def allV : PyData → R PyData
  | .list ds => match boolsOf ds with
    | some bs => .ok (.bool (bs.all id))
    | none => .stuck
  | _ => .stuck
def anyV : PyData → R PyData
  | .list ds => match boolsOf ds with
    | some bs => .ok (.bool (bs.any id))
    | none => .stuck
  | _ => .stuck
theorem call_allV {X : Cx} (hc : X.calm = true) : CallR X (.builtin "all") (arg1 (rDat1 X.K allV)) := by
  intro pins s σ H vs us Q I r0 ⟨x, e, d, z, hd, zd, hg, q⟩
  subst e
  cases hd with
  | lst h1 h2 =>
    rename_i a xs ds
    have h2 : DpAll X.K H xs ds := h2
    unfold allV at hg
    dsimp only at hg
    split at hg
    · rename_i ns c
      cases hg
      have := boolsOf_dp h2 c
      subst this
      exact cr_all hc pins s σ H _ us Q I r0 (sAll h1 (q _ _ Kp.refl (.bl _) trivial))
    · cases hg
  | _ => cases hg
theorem call_anyV {X : Cx} (hc : X.calm = true) : CallR X (.builtin "any") (arg1 (rDat1 X.K anyV)) := by
  intro pins s σ H vs us Q I r0 ⟨x, e, d, z, hd, zd, hg, q⟩
  subst e
  cases hd with
  | lst h1 h2 =>
    rename_i a xs ds
    have h2 : DpAll X.K H xs ds := h2
    unfold anyV at hg
    dsimp only at hg
    split at hg
    · rename_i ns c
      cases hg
      have := boolsOf_dp h2 c
      subst this
      exact cr_any hc pins s σ H _ us Q I r0 (sAny h1 (q _ _ Kp.refl (.bl _) trivial))
    · cases hg
  | _ => cases hg
/-- int(x), str(x), repr(x) -/
def intV : PyData → R PyData
  | .int i => .ok (.int i)
  | .bool b => .ok (.int (if b then 1 else 0))
  | _ => .stuck
def strV : PyData → R PyData
  | .int i => if i.natAbs.log2 < 1920 ∧ (toString i : Str).length ≤ sizeLine then .ok (.str (toString i)) else .stuck
  | .bool b => .ok (.str (if b then "True" else "False"))
  | _ => .stuck
def reprOk (d : PyData) : Prop := d.showable = true ∧ d.hasDict = false ∧ d.depth ≤ 100 ∧ d.shown.length ≤ sizeLine
instance (d : PyData) : Decidable (reprOk d) := inferInstanceAs (Decidable (_ ∧ _ ∧ _ ∧ _))
def reprV (d : PyData) : R PyData := if reprOk d then .ok (.str d.shown) else .stuck
theorem call_intV {X : Cx} : CallR X (.type "int") (arg1 (rImm1 X.K intV)) := by
  intro pins s σ H vs us Q I r0 ⟨x, e, d, z, hd, zd, hg, q⟩
  subst e
  cases hd with
  | int i => cases hg; exact call_int1 pins s σ H _ us Q I r0 (.inl ⟨i, rfl, q _ _ Kp.refl (.int _) trivial⟩)
  | bl b => cases hg; exact call_int1 pins s σ H _ us Q I r0 (.inr ⟨b, rfl, q _ _ Kp.refl (.int _) trivial⟩)
  | _ => cases hg
theorem call_strV {X : Cx} : CallR X (.type "str") (arg1 (rImm1 X.K strV)) := by
  intro pins s σ H vs us Q I r0 ⟨x, e, d, z, hd, zd, hg, q⟩
  subst e
  cases hd with
  | int i =>
    have hg : (if i.natAbs.log2 < 1920 ∧ (toString i : Str).length ≤ sizeLine then R.ok (PyData.str (toString i)) else .stuck) = .ok z := hg
    split at hg
    · rename_i c
      cases hg
      exact call_str_int pins s σ H _ us Q I r0 ⟨i, rfl, c.1, q _ _ Kp.refl (.str _) c.2⟩
    · cases hg
  | bl b =>
    cases hg
    obtain ⟨u, rfl, r1⟩ := vals1 r0
    cases r1
    refine PySem.P.str_of_bool ⟨.str (if b then "True" else "False"), H, I.tok _, ⟨_, rfl⟩, q _ _ Kp.refl (.str _) ?_⟩
    show (if b then ("True" : Str) else "False").length ≤ sizeLine
    cases b <;> exact Nat.le_of_lt (small1000 (by decide +kernel))
  | _ => cases hg
theorem call_reprV {X : Cx} (hgd : X.A.guards = some []) (hu : X.A.units + 160 < cLine) : CallR X (.builtin "repr") (arg1 (rDat1 X.K reprV)) := by
  intro pins s σ H vs us Q I r0 ⟨x, e, d, z, hd, zd, hg, q⟩
  subst e
  unfold reprV at hg
  split at hg
  · rename_i c
    cases hg
    exact call_repr hgd hu pins s σ H _ us Q I r0 ⟨x, d, rfl, hd, c.1, c.2.1, c.2.2.1, c.2.2.2, q _ _ Kp.refl (.str _) c.2.2.2⟩
  · cases hg
end
end Vl
/-! Lists made of lists and tuples; parts; sorted; isinstance; chains; lists written by methods. -/
namespace Vl
open PySem PySem.Spec PyProof.Rows L2 Hw
/-- a new list of data without lists -/
def NewL (K : PySem.W.Frag) (H H' : Hp) (v : V) (z : List PyData) : Prop := ∃ p xs, v = .ref p ∧ H p = none ∧ H' p = some (.lst xs) ∧ TDs K H' xs z ∧ z.length ≤ sizeLine ∧ szAll z
theorem NewL.res {K : PySem.W.Frag} {H H' : Hp} {v : V} {z : List PyData} (h : NewL K H H' v z) : Res K H H' v (.own (.list z)) := by
  obtain ⟨p, xs, rfl, n, e, t, l, s⟩ := h
  exact .own (F := [p]) (.lst e (Owns.imm t) (fun q => (List.not_mem_nil q).elim)) (fun a ha => by rw [List.mem_singleton.mp ha]; exact n) ⟨l, s⟩
def rLst2 (K : PySem.W.Frag) (g : List PyData → List PyData → R (List PyData)) : R2 := fun x y H Q => ∃ ds es z, Dp K H x (.list ds) ∧ Dp K H y (.list es) ∧ szAll ds ∧ szAll es ∧ g ds es = .ok z ∧ ∀ v H', Kp Non H H' → NewL K H H' v z → Q v H'
def rLst1 (K : PySem.W.Frag) (g : PyData → R (List PyData)) : V → Hp → VK → Prop := fun x H Q => ∃ d z, Dp K H x d ∧ szD d ∧ g d = .ok z ∧ ∀ v H', Kp Non H H' → NewL K H H' v z → Q v H'
def rLstI (K : PySem.W.Frag) (g : List PyData → PyData → R (List PyData)) : R2 := fun x y H Q => ∃ a xs ds k z, x = .ref a ∧ H a = some (.lst xs) ∧ TDs K H xs ds ∧ szAll ds ∧ y = .int k ∧ g ds (.int k) = .ok z ∧ ∀ v H', Kp Non H H' → NewL K H H' v z → Q v H'
section
variable {K : PySem.W.Frag} {r r1 r2 : Sl} {d : PyData} {ds es : List PyData}
theorem opS_lst2 {g : List PyData → List PyData → R (List PyData)} (h1 : SlD r1 (.list ds)) (h2 : SlD r2 (.list es)) : OpS K (rLst2 K g) r1 r2 (g ds es) (fun z => .own (.list z)) := by
  intro H Sh x y F1 F2 a Q s1 s2 hg k
  obtain ⟨p1, p2⟩ := s1.dp h1
  obtain ⟨q1, q2⟩ := s2.dp h2
  exact ⟨ds, es, a, p1, q1, p2.2, q2.2, hg, fun v H' kp n => k v H' kp n.res⟩
theorem unS_lst1 {g : PyData → R (List PyData)} (h1 : SlD r d) : UnS K (rLst1 K g) r (g d) (fun z => .own (.list z)) := by
  intro H Sh x F1 a Q s1 hg k
  obtain ⟨p1, p2⟩ := s1.dp h1
  exact ⟨d, a, p1, p2, hg, fun v H' kp n => k v H' kp n.res⟩
def catL (a b : List PyData) : R (List PyData) := if immAll a = true ∧ immAll b = true ∧ a.length + b.length ≤ sizeLine then .ok (a ++ b) else .stuck
theorem catL_eq {a b : List PyData} (h1 : immAll a = true) (h2 : immAll b = true) (h : a.length + b.length ≤ sizeLine) : catL a b = .ok (a ++ b) := if_pos ⟨h1, h2, h⟩
theorem op_catV {X : Cx} : OpR X (binaryOp .Add) (rLst2 X.K catL) := by
  intro pins s σ H x y v u Q I rx ry ⟨ds, es, z, hd, he, zd, ze, hg, q⟩
  unfold catL at hg
  split at hg
  · rename_i c
    cases hg
    obtain ⟨c1, c2, c3⟩ := c
    cases hd with
    | lst h1 h2 =>
      cases he with
      | lst g1 g2 =>
        cases rx
        cases ry
        obtain ⟨its, rv, ⟨⟨cls, dd, data, sl⟩, n, ho, hc, hdn, hdt⟩, hz⟩ := I.list h1
        obtain ⟨its2, rv2, ⟨⟨cls2, dd2, data2, sl2⟩, n2, ho2, hc2, hdn2, hdt2⟩, hz2⟩ := I.list g1
        simp only at hc hdt hc2 hdt2
        subst hc hdt hc2 hdt2
        have t1 := dpsImm h2 c1
        have t2 := dpsImm g2 c2
        have l1 := rv.length
        have l2 := rv2.length
        have l3 := t1.length
        have l4 := t2.length
        have e : its.toArray ++ its2.toArray = (its ++ its2).toArray := by simp
        refine concat_meets ⟨_, ho, rfl⟩ ⟨_, ho2, rfl⟩ noFill_list_add seq_list_add PySem.F.slot_list_add PySem.F.entry_list_add (PySem.F.args_list_add_2 _ _) (list_addW _ _ its.toArray its2.toArray n n2 dd dd2 sl sl2 (by simp; omega)) ⟨ho, ho2, ?_⟩
        rw [e]
        refine ⟨.ref _, _, I.lnew (t' := s.toks) (rv.append rv2) (by rw [List.length_append]; omega), rfl, q _ _ (Kp.new I.fresh) ⟨_, _, rfl, I.fresh, upd_same, ?_, by rw [List.length_append]; exact c3, szAll_append zd ze⟩⟩
        exact (t1.append t2).kp (Kp.new (S := Non) I.fresh)
  · cases hg
/-- xs * n -/
def repL (ds : List PyData) (k : PyData) : R (List PyData) := match k with
  | .int k => if -(2 ^ 63) ≤ k ∧ k < 2 ^ 63 ∧ ds.length * k.toNat ≤ sizeLine ∧ immAll ds = true then .ok (List.replicate k.toNat ds).flatten else .stuck
  | _ => .stuck
theorem op_repV {X : Cx} : OpR X (binaryOp .Mult) (rLstI X.K repL) := by
  intro pins s σ H x y v u Q I rx ry ⟨a, xs, ds, k, z, ex, ha, ht, zd, ey, hg, q⟩
  have hg : (if -(2 ^ 63) ≤ k ∧ k < 2 ^ 63 ∧ ds.length * k.toNat ≤ sizeLine ∧ immAll ds = true then R.ok (List.replicate k.toNat ds).flatten else .stuck) = .ok z := hg
  split at hg
  · rename_i c
    cases hg
    refine op_repG pins s σ H x y v u Q I rx ry ⟨a, k, xs, ex, ey, ha, c.1, c.2.1, by rw [ht.length]; exact c.2.2.1, fun p H' kp np hp => ?_⟩
    refine q _ H' kp ⟨p, _, rfl, np, hp, tdsRep (ht.kp kp) _, ?_, szRep zd _⟩
    rw [repLen, Nat.mul_comm]
    exact c.2.2.1
  · cases hg
theorem opS_lstI {e : PyData} {g : List PyData → PyData → R (List PyData)} (hg0 : ∀ k, (∀ i, k ≠ .int i) → g ds k = .stuck) (hi : ∀ k z, g ds k = .ok z → immAll ds = true) : OpS K (rLstI K g) (.own (.list ds)) (.imm e) (g ds e) (fun z => .own (.list z)) := by
  intro H Sh x y F1 F2 a Q s1 s2 hg k
  obtain ⟨h, hz⟩ := s1
  cases h with
  | leaf z => cases z
  | lst ha hi2 na =>
    have im := hi _ _ hg
    cases e with
    | int n =>
      have ey := s2.2.1.toInt
      subst ey
      exact ⟨_, _, ds, n, a, rfl, ha, (ownsImm hi2 im).1, hz.2, rfl, hg, fun v H' kp n => k v H' kp n.res⟩
    | _ => rw [hg0 _ (by intro i z; cases z)] at hg; cases hg
theorem opS_repL {e : PyData} : OpS K (rLstI K repL) (.own (.list ds)) (.imm e) (repL ds e) (fun z => .own (.list z)) :=
  opS_lstI (fun k h => by
    cases k with
    | int i => exact absurd rfl (h i)
    | _ => rfl) (fun k z h => by
    cases k with
    | int i =>
      have h : (if -(2 ^ 63) ≤ i ∧ i < 2 ^ 63 ∧ ds.length * i.toNat ≤ sizeLine ∧ immAll ds = true then R.ok (List.replicate i.toNat ds).flatten else .stuck) = .ok z := h
      split at h
      · rename_i c; exact c.2.2.2
      · cases h
    | _ => cases h)
/-! tuple(x), list(x) -/
def tupV : PyData → R PyData
  | .list ds => if immAll ds = true then .ok (.tuple ds) else .stuck
  | .tuple ds => if immAll ds = true then .ok (.tuple ds) else .stuck
  | _ => .stuck
theorem tupV_l {ds : List PyData} (h : immAll ds = true) : tupV (.list ds) = .ok (.tuple ds) := if_pos h
def lstV : PyData → R (List PyData)
  | .list ds => if immAll ds = true then .ok ds else .stuck
  | .tuple ds => if immAll ds = true then .ok ds else .stuck
  | _ => .stuck
theorem lstV_t {ds : List PyData} (h : immAll ds = true) : lstV (.tuple ds) = .ok ds := if_pos h
theorem lstV_l {ds : List PyData} (h : immAll ds = true) : lstV (.list ds) = .ok ds := if_pos h
theorem call_tupV {X : Cx} : CallR X (.type "tuple") (arg1 (rDat1 X.K tupV)) := by
  intro pins s σ H vs us Q I r0 ⟨x, e, d, z, hd, zd, hg, q⟩
  subst e
  cases hd with
  | lst h1 h2 =>
    rename_i a xs ds
    have h2 : DpAll X.K H xs ds := h2
    have hg : (if immAll ds = true then R.ok (PyData.tuple ds) else .stuck) = .ok z := hg
    split at hg
    · rename_i c
      cases hg
      exact call_tupleG pins s σ H _ us Q I r0 (sTupL h1 fun l H' kp hl => q _ H' kp (.tup hl ((dpsImm h2 c).kp kp)) zd)
    · cases hg
  | tup h1 h2 =>
    rename_i a xs ds
    have h2 : DpAll X.K H xs ds := h2
    have hg : (if immAll ds = true then R.ok (PyData.tuple ds) else .stuck) = .ok z := hg
    split at hg
    · rename_i c
      cases hg
      exact call_tupleG pins s σ H _ us Q I r0 ⟨_, _, rfl, .inr h1, fun l H' kp hl => q _ H' kp (.tup hl ((dpsImm h2 c).kp kp)) zd⟩
    · cases hg
  | _ => cases hg
theorem call_lstV {X : Cx} : CallR X (.type "list") (arg1 (rLst1 X.K lstV)) := by
  intro pins s σ H vs us Q I r0 ⟨x, e, d, z, hd, zd, hg, q⟩
  subst e
  cases hd with
  | lst h1 h2 =>
    rename_i a xs ds
    have h2 : DpAll X.K H xs ds := h2
    have hg : (if immAll ds = true then R.ok ds else .stuck) = .ok z := hg
    split at hg
    · rename_i c
      cases hg
      exact call_listG pins s σ H _ us Q I r0 (sListL h1 fun l H' kp nl hl => q _ H' kp ⟨l, xs, rfl, nl, hl, (dpsImm h2 c).kp kp, zd.1, zd.2⟩)
    · cases hg
  | tup h1 h2 =>
    rename_i a xs ds
    have h2 : DpAll X.K H xs ds := h2
    have hg : (if immAll ds = true then R.ok ds else .stuck) = .ok z := hg
    split at hg
    · rename_i c
      cases hg
      exact call_listG pins s σ H _ us Q I r0 (sListT h1 fun l H' kp nl hl => q _ H' kp ⟨l, xs, rfl, nl, hl, (dpsImm h2 c).kp kp, zd.1, zd.2⟩)
    · cases hg
  | _ => cases hg
/-! sorted -/
def sortOk (ds : List PyData) : Prop := PySem.W.AllAlike ds ∧ PySem.W.Sortable ds ∧ (∀ d ∈ ds, d.depth ≤ 60) ∧ immAll ds = true
noncomputable def sortV : PyData → R (List PyData)
  | .list ds => open Classical in if sortOk ds then .ok (ds.mergeSort (PySem.W.dataLe false id)) else .stuck
  | _ => .stuck
theorem sortV_l {ds : List PyData} (h : sortOk ds) : sortV (.list ds) = .ok (ds.mergeSort (PySem.W.dataLe false id)) := if_pos h
theorem call_sortV {X : Cx} (hu : X.A.units + 160 < cLine) : CallR X (.builtin "sorted") (arg1 (rLst1 X.K sortV)) := by
  intro pins s σ H vs us Q I r0 ⟨x, e, d, z, hd, zd, hg, q⟩
  subst e
  cases hd with
  | lst h1 h2 =>
    rename_i a xs ds
    have h2 : DpAll X.K H xs ds := h2
    unfold sortV at hg
    dsimp only at hg
    split at hg
    · rename_i c
      cases hg
      obtain ⟨c1, c2, c3, c4⟩ := c
      have pm := List.mergeSort_perm ds (PySem.W.dataLe false id)
      refine cr_sortD hu pins s σ H _ us Q I r0 (sSortD (enc := id) ds h1 (by rw [List.map_id]; exact dpsImm h2 c4) (by rw [List.map_id]; exact c1) (by rw [List.map_id]; exact c2) c3 fun p H' ys kp np hp ht => ?_)
      rw [List.map_id] at ht
      refine q _ H' kp ⟨p, ys, rfl, np, hp, ht, by rw [pm.length_eq]; exact zd.1, ?_⟩
      rw [szAll_iff]
      intro d hd
      exact szAll_iff.mp zd.2 d (pm.mem_iff.mp hd)
    · cases hg
  | _ => cases hg
/-! max, min -/
def maxL (d : PyData) : R PyData := match d with
  | .list ds => match intsOf ds with
    | some ns => match ns.max? with
      | some x => .ok (.int x)
      | none => .stuck
    | none => .stuck
  | _ => .stuck
def minL (d : PyData) : R PyData := match d with
  | .list ds => match intsOf ds with
    | some ns => match ns.min? with
      | some x => .ok (.int x)
      | none => .stuck
    | none => .stuck
  | .tuple ds => match intsOf ds with
    | some (n :: ns) => .ok (.int (ns.foldl min n))
    | _ => .stuck
  | _ => .stuck
theorem call_maxL {X : Cx} (hc : X.calm = true) : CallR X (.builtin "max") (arg1 (rDat1 X.K maxL)) := by
  intro pins s σ H vs us Q I r0 ⟨x, e, d, z, hd, zd, hg, q⟩
  subst e
  cases hd with
  | lst h1 h2 =>
    rename_i a xs ds
    have h2 : DpAll X.K H xs ds := h2
    unfold maxL at hg
    dsimp only at hg
    split at hg
    · rename_i ns c
      split at hg
      · rename_i mx cm
        cases hg
        have := intsOf_dp h2 c
        subst this
        have hmx := List.max?_eq_some_iff.mp cm
        refine cr_max hc pins s σ H _ us Q I r0 ⟨_, ns, rfl, h1, List.length_pos_of_mem hmx.1, fun m hm hall => ?_⟩
        have e1 : m = mx := Int.le_antisymm (hmx.2 m hm) (hall mx hmx.1)
        rw [e1]
        exact q _ _ Kp.refl (.int _) trivial
      · cases hg
    · cases hg
  | _ => cases hg
theorem readsInts {h : Heap} : ∀ {us : List Value} {ns : List Int}, IntsAre us ns → ReadsAll h us (ns.map PyData.int) []
  | _, _, .nil => .nil
  | _, _, .cons n t r => .cons (as := []) (bs := []) (.int n t) (readsInts r)
theorem depthInts : ∀ ns : List Int, PyData.depthAll (ns.map PyData.int) = 0
  | [] => rfl
  | n :: ns => by rw [List.map_cons, PyData.depthAll, depthInts ns]; rfl
theorem alikeInts (ns : List Int) : PySem.W.AlikeAll (ns.map PyData.int) := by
  refine ⟨fun x hx y hy => ?_, fun x hx => ?_⟩
  · obtain ⟨i, _, rfl⟩ := List.mem_map.mp hx
    obtain ⟨j, _, rfl⟩ := List.mem_map.mp hy
    rfl
  · obtain ⟨i, _, rfl⟩ := List.mem_map.mp hx
    exact fun h => nomatch h
theorem call_minL {X : Cx} (hc : X.calm = true) (hu : X.A.units + 160 < cLine) : CallR X (.builtin "min") (arg1 (rDat1 X.K minL)) := by
  intro pins s σ H vs us Q I r0 ⟨x, e, d, z, hd, zd, hg, q⟩
  subst e
  cases hd with
  | lst h1 h2 =>
    rename_i a xs ds
    have h2 : DpAll X.K H xs ds := h2
    unfold minL at hg
    dsimp only at hg
    split at hg
    · rename_i ns c
      split at hg
      · rename_i mx cm
        cases hg
        have := intsOf_dp h2 c
        subst this
        have hmx := List.min?_eq_some_iff.mp cm
        refine cr_min hc pins s σ H _ us Q I r0 ⟨_, ns, rfl, h1, List.length_pos_of_mem hmx.1, fun m hm hall => ?_⟩
        have e1 : m = mx := Int.le_antisymm (hall mx hmx.1) (hmx.2 m hm)
        rw [e1]
        exact q _ _ Kp.refl (.int _) trivial
      · cases hg
    · cases hg
  | tup h1 h2 =>
    rename_i a xs ds
    have h2 : DpAll X.K H xs ds := h2
    unfold minL at hg
    dsimp only at hg
    split at hg
    · rename_i n ns c
      cases hg
      have := intsOf_dp h2 c
      subst this
      obtain ⟨its, rv, hl, _⟩ := I.tuple h1
      rw [Vals.ref1 r0]
      refine PySem.W.min_tuple_data (x := .int n) (xs := ns.map PyData.int) (as := []) (I.ok.hd hc) hl ?_ (alikeInts (n :: ns)) (by rw [show PyData.int n :: ns.map PyData.int = (n :: ns).map PyData.int from rfl, depthInts]; show X.A.units + 1 + 0 < cLine; omega) fun i v h' tk bs hv hr hk => ?_
      · have := readsInts (h := s.heap) (Vals.ints rv)
        exact this
      rw [PySem.W.minD_ints] at hr
      cases hr
      exact ⟨.int _, H, I.kept (h' := h') (t' := tk) hk, ⟨_, rfl⟩, q _ _ Kp.refl (.int _) trivial⟩
    · cases hg
  | _ => cases hg
def max2V : PyData → PyData → R PyData
  | .int i, .int j => .ok (.int (if i < j then j else i))
  | _, _ => .stuck
def min2V : PyData → PyData → R PyData
  | .int i, .int j => .ok (.int (if j < i then j else i))
  | _, _ => .stuck
@[simp] theorem max2V_int (i j : Int) : max2V (.int i) (.int j) = .ok (.int (if i < j then j else i)) := rfl
@[simp] theorem min2V_int (i j : Int) : min2V (.int i) (.int j) = .ok (.int (if j < i then j else i)) := rfl
theorem call_max2V {X : Cx} (hc : X.calm = true) : CallR X (.builtin "max") (arg2 (rImm2 X.K max2V)) := by
  intro pins s σ H vs us Q I r0 ⟨x, y, e, d, d2, z, hd, he, zd, ze, hg, q⟩
  subst e
  cases hd with
  | int i =>
    cases he with
    | int j => cases hg; exact call_max2G hc pins s σ H _ us Q I r0 ⟨i, j, rfl, q _ _ Kp.refl (.int _) trivial⟩
    | _ => cases hg
  | _ => cases he <;> cases hg
theorem call_min2V {X : Cx} (hc : X.calm = true) : CallR X (.builtin "min") (arg2 (rImm2 X.K min2V)) := by
  intro pins s σ H vs us Q I r0 ⟨x, y, e, d, d2, z, hd, he, zd, ze, hg, q⟩
  subst e
  cases hd with
  | int i =>
    cases he with
    | int j => cases hg; exact call_min2G hc pins s σ H _ us Q I r0 ⟨i, j, rfl, q _ _ Kp.refl (.int _) trivial⟩
    | _ => cases hg
  | _ => cases he <;> cases hg
end
/-! ### isinstance -/
def tyN : PyData → String
  | .none => "NoneType"
  | .bool _ => "bool"
  | .int _ => "int"
  | .str _ => "str"
  | .list _ => "list"
  | .tuple _ => "tuple"
  | .dict _ => "dict"
def isiV (n : String) (d : PyData) : Bool := decide (tyN d = n) || (decide (tyN d = "bool") && decide (n = "int"))
def goodTy (n : String) : Prop := n = "int" ∨ n = "bool" ∨ n = "tuple" ∨ n = "list" ∨ n = "str"
theorem isi_kit {K : PySem.W.Frag} {n : String} (g : goodTy n) (d : PyData) : PySem.W.kitOne K (.type (tyN d)) (.type n) = some (isiV n d) := by
  have key : ∀ a ∈ ["NoneType", "bool", "int", "str", "list", "tuple", "dict"], ∀ n ∈ ["int", "bool", "tuple", "list", "str"], kitB a n = some (decide (a = n) || (decide (a = "bool") && decide (n = "int"))) := by decide +kernel
  refine kit_ty (key (tyN d) (by cases d <;> simp [tyN]) n (by rcases g with rfl | rfl | rfl | rfl | rfl <;> simp))
theorem dpTy {K : PySem.W.Frag} {H : Hp} {v : V} {d : PyData} (h : Dp K H v d) : TyX K H v (.type (tyN d)) := by
  cases h with
  | non => exact .base .non
  | bl b => exact .base (.bl b)
  | int i => exact .base (.int i)
  | str x => exact .base (.str x)
  | lst h1 h2 =>
    rcases h1 with (h1 | ⟨o, h1⟩) | ⟨o, its, n, hk, hc, _⟩
    · exact .base (.lst h1)
    · exact .base (.frz h1)
    · exact .kList hk hc
  | tup h1 h2 =>
    rcases h1 with (h1 | ⟨o, h1⟩) | ⟨o, its, n, hk, hc, _⟩
    · exact .base (.tup h1)
    · exact .fTuple h1
    · exact .kTuple hk hc
section
variable {Γ : Ctx} {β : Type} {m : R β} {env env' ts : List Sl} {te tl th : TE} {tb : TE} {ta : TA} {i j : Nat} {Φ : Sl → List Sl → R β → Prop} {k : Ks β} {d : PyData} {r : Sl}
theorem ev_isi {n : String} (g : goodTy n) (h : EV Γ te env ts m fun r env1 m1 => ∃ d, SlD r d ∧ Φ (.imm (.bool (isiV n d))) env1 m1) : EV Γ (tCB (rIsi Γ.K) (tCons te (tCons (tC (.ty n)) tNil))) env ts m Φ := by
  intro o e1 e2 σ w vs us bs Q R X kk
  refine h o e1 e2 σ w vs us bs _ R X fun r1 env1 m1 x w1 ⟨d, sd, hk⟩ em1 R1 s1 => ?_
  obtain ⟨hd, _⟩ := R1.dp sd
  obtain ⟨w', ew, R', st⟩ := Rel.res (ws := [x]) (rs := [r1]) (v := .bl (isiV n d)) (r := .imm (.bool (isiV n d))) R1 rfl Kp.refl (.imm (.bl _) trivial)
  refine ⟨x, .ty n, _, _, _, rfl, .ty n, dpTy hd, isi_kit g d, ?_⟩
  rw [← ew]
  exact kk _ env1 _ _ w' hk em1 R' (s1.trans st)
/-! ### chains -/
theorem ev_chain {q q' : R2} (h : EV Γ te env ts m fun r1 env1 m1 => EV Γ tl env1 (r1 :: ts) m1 fun r2 env2 m2 => ∃ (g1 : R Bool) (k1 : Bool → R β), OpS Γ.K q r1 r2 g1 (fun b => .imm (.bool b)) ∧ m2 = g1.bind k1 ∧ (∀ e, g1 ≠ .exc e) ∧ ∃ d2, r2 = .imm d2 ∧
      ∀ b, ∃ (mu : R Bool) (kk : Bool → R β), k1 b = R.bind (bif b then mu else .ok false) kk ∧ (EV Γ th env2 ts mu fun r3 env3 m3 => env3 = env2 ∧ ∃ (g2 : R Bool), OpS Γ.K q' (.imm d2) r3 g2 (fun b => .imm (.bool b)) ∧ m3 = g2 ∧ (∀ e, g2 ≠ .exc e)) ∧ ∀ c, Φ (.imm (.bool c)) env2 (kk c)) :
    EV Γ (tChain q q' te tl th) env ts m Φ := by
  intro o e1 e2 σ w vs us bs Q R X kz
  refine h o e1 e2 σ w vs us bs _ R X fun r1 env1 m1 x w1 h1 em1 R1 s1 => ?_
  refine h1 o em1 e2 σ w1 (x :: vs) us bs _ R1 (X.step s1) fun r2 env2 m2 y w2 ⟨g1, k1, ho, em, nx, d2, er, hk⟩ em2 R2 s2 => ?_
  subst er
  cases hg : g1 with
  | stuck => rw [em, hg] at em2; exact absurd em2.symm e2
  | exc e => exact absurd hg (nx e)
  | ok b =>
    rw [em, hg] at em2
    have em2 : k1 b = o := em2
    obtain ⟨F2, t2⟩ := R2.top
    obtain ⟨F1, t1⟩ := R2.under
    refine ho t1 t2 hg fun v H' kp rs => ?_
    have hy := t2.2
    have hvb : v = .bl b := by cases rs with | imm h _ => exact h.toBl
    subst hvb
    obtain ⟨mu, kk, ek, hu, hc⟩ := hk b
    refine ⟨b, rfl, ?_⟩
    obtain ⟨w3, e3, R3, s3⟩ := Rel.pops (ws := [y, x]) (rs := [.imm d2, r1]) (R2.non kp) rfl
    have st := ((s1.trans s2).trans (Step.non kp)).trans s3
    have e3 : w3.H = H' := e3
    cases b with
    | false =>
      rw [if_neg (by decide), ← e3]
      exact kz _ env2 _ (.bl false) w3 (hc false) (by rw [← em2, ek]; rfl) (R3.push0 ⟨rfl, .bl _, trivial⟩) st
    | true =>
      rw [if_pos rfl]
      have eo : mu.bind kk = o := by rw [← em2, ek]; rfl
      rw [← e3]
      refine hu mu rfl (fun z => by rw [z] at eo; exact e2 eo.symm) σ w3 vs us bs _ R3 (fun e he => (X.step st) e (by rw [← eo, he]; rfl)) fun r3 env3 m3 z w4 ⟨ee, g2, ho2, em3, nx2⟩ em4 R4 s4 => ?_
      subst ee
      cases hg2 : g2 with
      | stuck => rw [← em4, em3, hg2] at eo; exact absurd eo.symm e2
      | exc e => exact absurd hg2 (nx2 e)
      | ok c =>
        obtain ⟨F3, t3⟩ := R4.top
        have ty : SlR Γ.K w4.H w4.Sh y (.imm d2) [] := ⟨rfl, (hy.1.kp (S := (· ∈ w2.O)) (st.kp.tups |> fun _ => ((Step.non kp).trans (s3.trans s4)).kp)), hy.2⟩
        refine ho2 ty t3 hg2 fun v' H'' kp' rs' => ?_
        obtain ⟨w5, e5, R5, s5⟩ := Rel.res (ws := [z]) (rs := [r3]) R4 rfl kp' rs'
        rw [← e5]
        exact kz _ env3 _ v' w5 (hc c) (by rw [← eo, ← em4, em3, hg2]; rfl) R5 ((st.trans s4).trans s5)
/-! ### parts -/
def cutD (ds : List PyData) (lo hi : Option Int) : List PyData := (ds.drop (HT.sIx ds.length 0 lo)).take (HT.sIx ds.length ds.length hi - HT.sIx ds.length 0 lo)
def intO : Option PyData → R (Option Int)
  | none => .ok none
  | some (.int i) => .ok (some i)
  | some _ => .stuck
def cutV2 (d : PyData) (lo hi : Option Int) : R PyData := match d with
  | .tuple ds => if immAll ds = true then .ok (.tuple (cutD ds lo hi)) else .stuck
  | .str z => .ok (.str (cutS z lo hi))
  | _ => .stuck
def slV (d : PyData) (lo hi : Option PyData) : R PyData := (intO lo).bind fun lo => (intO hi).bind fun hi => cutV2 d lo hi
def cutL2 (ds : List PyData) (lo hi : Option Int) : R (List PyData) := if immAll ds = true then .ok (cutD ds lo hi) else .stuck
def slL (ds : List PyData) (lo hi : Option PyData) : R (List PyData) := (intO lo).bind fun lo => (intO hi).bind fun hi => cutL2 ds lo hi
@[simp] theorem intO_n : intO none = .ok none := rfl
@[simp] theorem intO_i (i : Int) : intO (some (.int i)) = .ok (some i) := rfl
def rSlV (K : PySem.W.Frag) : V → Option Int → Option Int → Hp → VK → Prop := fun x lo hi H Q => ∃ d z, Dp K H x d ∧ szD d ∧ cutV2 d lo hi = .ok z ∧ ∀ v H', Kp Non H H' → TD K H' v z → szD z → Q v H'
def rSlL2 (K : PySem.W.Frag) : V → Option Int → Option Int → Hp → VK → Prop := fun x lo hi H Q => ∃ ds z, Dp K H x (.list ds) ∧ szD (.list ds) ∧ cutL2 ds lo hi = .ok z ∧ ∀ v H', Kp Non H H' → NewL K H H' v z → Q v H'
theorem tdsCut {K : PySem.W.Frag} {H : Hp} {xs : List V} {ds : List PyData} (h : TDs K H xs ds) (lo hi : Option Int) : TDs K H (cutV xs lo hi) (cutD ds lo hi) := by
  unfold cutV cutD
  rw [h.length]
  exact (h.drop _).take _
theorem szCut {ds : List PyData} (h : szAll ds) (lo hi : Option Int) : szAll (cutD ds lo hi) := by
  rw [szAll_iff] at *
  intro d hd
  exact h d (List.mem_of_mem_drop (List.mem_of_mem_take hd))
theorem cutDLen (ds : List PyData) (lo hi : Option Int) : (cutD ds lo hi).length ≤ ds.length := by
  unfold cutD
  rw [List.length_take, List.length_drop]
  omega
theorem sl_V {X : Cx} : L2.SlR X (rSlV X.K) := by
  intro pins s σ H x v vl vu lo hi sl Q I rx hs pl pu ⟨d, z, hd, zd, hg, q⟩
  cases hd with
  | tup h1 h2 =>
    rename_i a xs ds
    have h2 : DpAll X.K H xs ds := h2
    have hg : (if immAll ds = true then R.ok (PyData.tuple (cutD ds lo hi)) else .stuck) = .ok z := hg
    split at hg
    · rename_i c
      cases hg
      exact sl_tupG pins s σ H _ v vl vu lo hi sl Q I rx hs pl pu ⟨_, xs, rfl, h1, fun p H' kp hp => q _ H' kp (.tup hp (tdsCut ((dpsImm h2 c).kp kp) lo hi)) ⟨Nat.le_trans (cutDLen _ _ _) zd.1, szCut zd.2 lo hi⟩⟩
    · cases hg
  | str w =>
    cases hg
    exact sl_str pins s σ H _ v vl vu lo hi sl Q I rx hs pl pu ⟨w, rfl, zd, q _ _ Kp.refl (.str _) (Nat.le_trans (cutS_length w lo hi) zd)⟩
  | _ => cases hg
theorem sl_L2 {X : Cx} : L2.SlR X (rSlL2 X.K) := by
  intro pins s σ H x v vl vu lo hi sl Q I rx hs pl pu ⟨ds, z, hd, zd, hg, q⟩
  cases hd with
  | lst h1 h2 =>
    rename_i a xs
    have h2 : DpAll X.K H xs ds := h2
    have hg : (if immAll ds = true then R.ok (cutD ds lo hi) else .stuck) = .ok z := hg
    split at hg
    · rename_i c
      cases hg
      exact sl_listG pins s σ H _ v vl vu lo hi sl Q I rx hs pl pu ⟨_, xs, rfl, h1, fun p H' kp np hp => q _ H' kp ⟨p, _, rfl, np, hp, tdsCut ((dpsImm h2 c).kp kp) lo hi, Nat.le_trans (cutDLen _ _ _) zd.1, szCut zd.2 lo hi⟩⟩
    · cases hg
/-- a bound of a slice: what it is, the rest -/
def EO (Γ : Ctx) {β : Type} (to : TO) (env ts : List Sl) (m : R β) (Φ : Option PyData → List Sl → R β → Prop) : Prop :=
  ∀ (o : R β), m = o → o ≠ .stuck → ∀ (σ : L2.St) (w : Wd) (vs us : List V) (bs : List Sl) (Q : Option Int → Hp → Prop), Rel Γ.K w σ env vs ts us bs → XOk Γ o w us bs →
    (∀ p env' m' w' oi, Φ p env' m' → m' = o → intO p = .ok oi → Rel Γ.K w' σ env' vs ts us bs → Step w w' → Q oi w'.H) → to σ w.H Q
theorem eo_none {Ξ : Option PyData → List Sl → R β → Prop} (h : Ξ none env m) : EO Γ tNoPart env ts m Ξ := by
  intro o e1 e2 σ w vs us bs Q R X kk
  exact kk none env m w none h e1 rfl R Step.refl
theorem eo_some {Ξ : Option PyData → List Sl → R β → Prop} (h : EV Γ te env ts m fun r env1 m1 => ∃ d k1, r = .imm d ∧ m1 = (intO (some d)).bind k1 ∧ ∀ oi, Ξ (some d) env1 (k1 oi)) : EO Γ (tPart te) env ts m Ξ := by
  intro o e1 e2 σ w vs us bs Q R X kk
  refine h o e1 e2 σ w vs us bs _ R X fun r env1 m1 x w1 ⟨d, k1, er, em, hk⟩ em1 R1 s1 => ?_
  subst er
  obtain ⟨ht, _⟩ := R1.td
  match d, em, ht, hk with
  | .int n, em, ht, hk =>
    have := ht.toInt
    subst this
    obtain ⟨w2, e2', R2, s2⟩ := Rel.pops (ws := [V.int n]) (rs := [.imm (.int n)]) R1 rfl
    refine ⟨n, rfl, ?_⟩
    rw [← e2']
    exact kk (some (.int n)) env1 _ w2 (some n) (hk (some n)) (by rw [← em1, em]; rfl) rfl R2 (s1.trans s2)
  | .none, em, _, _ => rw [em] at em1; exact absurd em1.symm e2
  | .bool _, em, _, _ => rw [em] at em1; exact absurd em1.symm e2
  | .str _, em, _, _ => rw [em] at em1; exact absurd em1.symm e2
  | .tuple _, em, _, _ => rw [em] at em1; exact absurd em1.symm e2
  | .list _, em, _, _ => rw [em] at em1; exact absurd em1.symm e2
  | .dict _, em, _, _ => rw [em] at em1; exact absurd em1.symm e2
theorem ev_sl {tlo thi : TO} (h : EV Γ te env ts m fun r env1 m1 => EO Γ tlo env1 (r :: ts) m1 fun lo env2 m2 => EO Γ thi env2 (r :: ts) m2 fun hi env3 m3 => ∃ d kk, SlD r d ∧ m3 = (slV d lo hi).bind kk ∧ ∀ z, Φ (.imm z) env3 (kk z)) : EV Γ (tSl (rSlV Γ.K) te tlo thi) env ts m Φ := by
  intro o e1 e2 σ w vs us bs Q R X kz
  refine h o e1 e2 σ w vs us bs _ R X fun r env1 m1 x w1 h1 em1 R1 s1 => ?_
  refine h1 o em1 e2 σ w1 (x :: vs) us bs _ R1 (X.step s1) fun lo env2 m2 w2 oi h2 em2 el R2 s2 => ?_
  refine h2 o em2 e2 σ w2 (x :: vs) us bs _ R2 ((X.step s1).step s2) fun hi env3 m3 w3 oj ⟨d, kk, sd, em, hk⟩ em3 eh R3 s3 => ?_
  obtain ⟨hd, hz⟩ := R3.dp sd
  rw [show slV d lo hi = cutV2 d oi oj by unfold slV; rw [el, eh]; rfl] at em
  cases hg : cutV2 d oi oj with
  | stuck => rw [em, hg] at em3; exact absurd em3.symm e2
  | exc e =>
    unfold cutV2 at hg
    split at hg
    · split at hg <;> cases hg
    · cases hg
    · cases hg
  | ok z =>
    refine ⟨d, z, hd, hz, hg, fun v H' kp ht hz' => ?_⟩
    obtain ⟨w', rfl, R', st⟩ := Rel.res (ws := [x]) (rs := [r]) R3 rfl kp (.imm ht hz')
    exact kz _ env3 _ v w' (hk z) (by rw [← em3, em, hg]; rfl) R' (((s1.trans s2).trans s3).trans st)
theorem ev_slL {tlo thi : TO} (h : EV Γ te env ts m fun r env1 m1 => EO Γ tlo env1 (r :: ts) m1 fun lo env2 m2 => EO Γ thi env2 (r :: ts) m2 fun hi env3 m3 => ∃ ds kk, SlD r (.list ds) ∧ m3 = (slL ds lo hi).bind kk ∧ ∀ z, Φ (.own (.list z)) env3 (kk z)) : EV Γ (tSl (rSlL2 Γ.K) te tlo thi) env ts m Φ := by
  intro o e1 e2 σ w vs us bs Q R X kz
  refine h o e1 e2 σ w vs us bs _ R X fun r env1 m1 x w1 h1 em1 R1 s1 => ?_
  refine h1 o em1 e2 σ w1 (x :: vs) us bs _ R1 (X.step s1) fun lo env2 m2 w2 oi h2 em2 el R2 s2 => ?_
  refine h2 o em2 e2 σ w2 (x :: vs) us bs _ R2 ((X.step s1).step s2) fun hi env3 m3 w3 oj ⟨ds, kk, sd, em, hk⟩ em3 eh R3 s3 => ?_
  obtain ⟨hd, hz⟩ := R3.dp sd
  rw [show slL ds lo hi = cutL2 ds oi oj by unfold slL; rw [el, eh]; rfl] at em
  cases hg : cutL2 ds oi oj with
  | stuck => rw [em, hg] at em3; exact absurd em3.symm e2
  | exc e =>
    unfold cutL2 at hg
    split at hg <;> cases hg
  | ok z =>
    refine ⟨ds, z, hd, hz, hg, fun v H' kp n => ?_⟩
    obtain ⟨w', rfl, R', st⟩ := Rel.res (ws := [x]) (rs := [r]) R3 rfl kp n.res
    exact kz _ env3 _ v w' (hk z) (by rw [← em3, em, hg]; rfl) R' (((s1.trans s2).trans s3).trans st)
/-- an index: a tuple, a text, a list -/
theorem opS_ix {e : PyData} (hd : SlD r d) (hi : immD d = true ∨ (∃ ds, d = .list ds) ∨ r = .imm d) : OpS Γ.K (rIxV Γ.K) r (.imm e) (ixV d e) .imm := by
  intro H Sh x y F1 F2 a Q s1 s2 hg kk
  obtain ⟨p1, p2⟩ := s1.dp hd
  refine ⟨d, e, a, p1, s2.2.1, p2, hg, ?_, fun v ht hz => kk v H Kp.refl (.imm ht hz)⟩
  rcases hi with z | z | z
  · exact .inl z
  · exact .inr z
  · subst z; exact .inl (tdImm s1.2.1)
theorem opS_ixT {e : PyData} : OpS Γ.K (rIxV Γ.K) (.imm d) (.imm e) (ixV d e) .imm := opS_ix (.imm d) (.inr (.inr rfl))
theorem opS_ixL {ds : List PyData} {e : PyData} (hd : SlD r (.list ds)) : OpS Γ.K (rIxV Γ.K) r (.imm e) (ixV (.list ds) e) .imm := opS_ix hd (.inr (.inl ⟨ds, rfl⟩))
/-! list(range(..)) -/
theorem rgD_V (a b : Int) : rgV a b = (List.range (b - a).toNat).map fun i : Nat => V.int (a + (i : Int)) := rfl
theorem tdsRg (K : PySem.W.Frag) (H : Hp) (a : Int) : ∀ (l : List Nat), TDs K H (l.map fun i : Nat => V.int (a + (i : Int))) (l.map fun i : Nat => PyData.int (a + (i : Int)))
  | [] => .nil
  | x :: l => .cons (.int _) (tdsRg K H a l)
theorem szRg (a : Int) : ∀ (l : List Nat), szAll (l.map fun i : Nat => PyData.int (a + (i : Int)))
  | [] => trivial
  | x :: l => ⟨trivial, szRg a l⟩
end
end Vl
/-! What the printed proofs lean on. -/
namespace Vl
open PySem PySem.Spec PyProof.Rows L2 Hw
theorem szS {x : Str} (h : x.length ≤ 1000) : x.length ≤ sizeLine := Nat.le_of_lt (small1000 h)
/-! no exception comes out of these -/
theorem nx_addV (a b : PyData) (e : Exc) : addV a b ≠ .exc e := by
  unfold addV
  split
  · intro h; cases h
  · split <;> (intro h; cases h)
  · split <;> (intro h; cases h)
  · intro h; cases h
theorem nx_subV (a b : PyData) (e : Exc) : subV a b ≠ .exc e := by unfold subV; split <;> (intro h; cases h)
theorem nx_mulV (a b : PyData) (e : Exc) : mulV a b ≠ .exc e := by
  unfold mulV
  split
  · split <;> (intro h; cases h)
  · split <;> (intro h; cases h)
  · intro h; cases h
theorem nx_divV (a b : PyData) (e : Exc) : divV a b ≠ .exc e := by
  unfold divV
  split
  · split <;> (intro h; cases h)
  · intro h; cases h
theorem nx_modV (a b : PyData) (e : Exc) : modV a b ≠ .exc e := by
  unfold modV
  split
  · split <;> (intro h; cases h)
  · intro h; cases h
theorem nx_powV (a b : PyData) (e : Exc) : powV a b ≠ .exc e := by
  unfold powV
  split
  · split <;> (intro h; cases h)
  · intro h; cases h
theorem nx_negV (a : PyData) (e : Exc) : negV a ≠ .exc e := by unfold negV; split <;> (intro h; cases h)
theorem nx_absV (a : PyData) (e : Exc) : absV a ≠ .exc e := by unfold absV; split <;> (intro h; cases h)
theorem nx_eqV (a b : PyData) (e : Exc) : eqV a b ≠ .exc e := by unfold eqV; split <;> (intro h; cases h)
theorem nx_neV (a b : PyData) (e : Exc) : neV a b ≠ .exc e := by unfold neV; split <;> (intro h; cases h)
theorem nx_ltV (a b : PyData) (e : Exc) : ltV a b ≠ .exc e := by unfold ltV; split <;> (intro h; cases h)
theorem nx_leV (a b : PyData) (e : Exc) : leV a b ≠ .exc e := by unfold leV; split <;> (intro h; cases h)
theorem nx_gtV (a b : PyData) (e : Exc) : gtV a b ≠ .exc e := by unfold gtV; split <;> (intro h; cases h)
theorem nx_geV (a b : PyData) (e : Exc) : geV a b ≠ .exc e := by unfold geV; split <;> (intro h; cases h)
theorem nx_inV (a b : PyData) (e : Exc) : inV a b ≠ .exc e := by
  unfold inV
  split
  · split <;> (intro h; cases h)
  · split <;> (intro h; cases h)
  · intro h; cases h
theorem nx_bind {α β : Type} {m : R α} {f : α → R β} (h1 : ∀ e, m ≠ .exc e) (h2 : ∀ a e, f a ≠ .exc e) (e : Exc) : m.bind f ≠ .exc e := by
  cases c : m with
  | ok a => exact h2 a e
  | exc x => exact absurd c (h1 x)
  | stuck => intro h; cases h
theorem nx_ninV (a b : PyData) (e : Exc) : ninV a b ≠ .exc e := nx_bind (nx_inV a b) (fun _ _ h => by cases h) e
theorem nx_isV (a b : PyData) (e : Exc) : isV a b ≠ .exc e := by unfold isV; split <;> (intro h; cases h)
theorem nx_nisV (a b : PyData) (e : Exc) : nisV a b ≠ .exc e := nx_bind (nx_isV a b) (fun _ _ h => by cases h) e
theorem nx_ixV (a b : PyData) (e : Exc) : ixV a b ≠ .exc e := by
  unfold ixV asI
  split
  · split
    · split <;> (intro h; cases h)
    · split <;> (intro h; cases h)
    · split
      · split <;> (intro h; cases h)
      · intro h; cases h
    · intro h; cases h
  · intro h; cases h
theorem nx_lenV (a : PyData) (e : Exc) : lenV a ≠ .exc e := by unfold lenV; split <;> (intro h; cases h)
theorem nx_sumV (a : PyData) (e : Exc) : sumV a ≠ .exc e := by
  unfold sumV sumL
  split
  · split <;> (intro h; cases h)
  · split <;> (intro h; cases h)
  · intro h; cases h
theorem nx_allV (a : PyData) (e : Exc) : allV a ≠ .exc e := by
  unfold allV
  split
  · split <;> (intro h; cases h)
  · intro h; cases h
theorem nx_anyV (a : PyData) (e : Exc) : anyV a ≠ .exc e := by
  unfold anyV
  split
  · split <;> (intro h; cases h)
  · intro h; cases h
theorem nx_intV (a : PyData) (e : Exc) : intV a ≠ .exc e := by unfold intV; split <;> (intro h; cases h)
theorem nx_strV (a : PyData) (e : Exc) : strV a ≠ .exc e := by
  unfold strV
  split
  · split <;> (intro h; cases h)
  · intro h; cases h
  · intro h; cases h
theorem nx_reprV (a : PyData) (e : Exc) : reprV a ≠ .exc e := by unfold reprV; split <;> (intro h; cases h)
theorem nx_catL (a b : List PyData) (e : Exc) : catL a b ≠ .exc e := by unfold catL; split <;> (intro h; cases h)
theorem nx_repL (a : List PyData) (b : PyData) (e : Exc) : repL a b ≠ .exc e := by
  unfold repL
  split
  · split <;> (intro h; cases h)
  · intro h; cases h
theorem nx_tupV (a : PyData) (e : Exc) : tupV a ≠ .exc e := by
  unfold tupV
  split
  · split <;> (intro h; cases h)
  · split <;> (intro h; cases h)
  · intro h; cases h
theorem nx_lstV (a : PyData) (e : Exc) : lstV a ≠ .exc e := by
  unfold lstV
  split
  · split <;> (intro h; cases h)
  · split <;> (intro h; cases h)
  · intro h; cases h
theorem nx_sortV (a : PyData) (e : Exc) : sortV a ≠ .exc e := by
  unfold sortV
  split
  · split <;> (intro h; cases h)
  · intro h; cases h
theorem nx_maxL (a : PyData) (e : Exc) : maxL a ≠ .exc e := by
  unfold maxL
  split
  · split
    · split <;> (intro h; cases h)
    · intro h; cases h
  · intro h; cases h
theorem nx_minL (a : PyData) (e : Exc) : minL a ≠ .exc e := by
  unfold minL
  split
  · split
    · split <;> (intro h; cases h)
    · intro h; cases h
  · split <;> (intro h; cases h)
  · intro h; cases h
theorem nx_max2V (a b : PyData) (e : Exc) : max2V a b ≠ .exc e := by unfold max2V; split <;> (intro h; cases h)
theorem nx_min2V (a b : PyData) (e : Exc) : min2V a b ≠ .exc e := by unfold min2V; split <;> (intro h; cases h)
/-- a truth -/
def asB : PyData → R Bool
  | .bool b => .ok b
  | _ => .stuck
@[simp] theorem asB_b (b : Bool) : asB (.bool b) = .ok b := rfl
theorem pass0E {X : Cx} {E : XK} : Passes CX0 X E := fun _ _ _ _ _ _ _ h => h.elim
abbrev cm0 : Str → Option Addr := fun _ => none
section
variable {Γ : Ctx} {β : Type} {m : R β} {env env' ts : List Sl} {t te tl th : TE} {tt : TT} {tb u : TS} {ta : TA} {i j : Nat} {g : TG} {gs : TGs} {is : List Nat} {wi : TI} {Φ : Sl → List Sl → R β → Prop} {k : Ks β} {d : PyData} {r : Sl}
theorem ev_bool (h : EV Γ t env ts m fun r env1 m1 => ∃ d k, r = .imm d ∧ m1 = (asB d).bind k ∧ ∀ b, Φ (.imm (.bool b)) env1 (k b)) : EV Γ t env ts m Φ := by
  intro o e1 e2 σ w vs us bs Q R X kk
  refine h o e1 e2 σ w vs us bs _ R X fun r env1 m1 x w1 ⟨d, k1, er, em, hk⟩ em1 R1 s1 => ?_
  subst er
  match d, em, R1 with
  | .bool b, em, R1 => exact kk _ env1 _ x w1 (hk b) (by rw [← em1, em]; rfl) R1 s1
  | .none, em, _ => rw [em] at em1; exact absurd em1.symm e2
  | .int _, em, _ => rw [em] at em1; exact absurd em1.symm e2
  | .str _, em, _ => rw [em] at em1; exact absurd em1.symm e2
  | .tuple _, em, _ => rw [em] at em1; exact absurd em1.symm e2
  | .list _, em, _ => rw [em] at em1; exact absurd em1.symm e2
  | .dict _, em, _ => rw [em] at em1; exact absurd em1.symm e2
/-- what was made is taken as data without lists -/
theorem ev_asI (h : EV Γ t env ts m fun r env1 m1 => ∃ d k, SlD r d ∧ m1 = (asI d).bind k ∧ ∀ d, Φ (.imm d) env1 (k d)) : EV Γ t env ts m Φ := by
  intro o e1 e2 σ w vs us bs Q R X kk
  refine h o e1 e2 σ w vs us bs _ R X fun r env1 m1 x w1 ⟨d, k1, sd, em, hk⟩ em1 R1 s1 => ?_
  by_cases c : immD d = true
  · rw [asI_eq c] at em
    obtain ⟨w', e, R', st⟩ := R1.recast sd c
    rw [← e]
    exact kk _ env1 _ x w' (hk d) (by rw [← em1, em]; rfl) R' (s1.trans st)
  · rw [show asI d = .stuck from if_neg c] at em
    rw [em] at em1
    exact absurd em1.symm e2
theorem gv_asIk {kk : PyData → R β} {Φ : List Sl → R β → Prop} (s : SlD r d) (hm : m = (asI d).bind kk) (h : ∀ d, GV Γ g is (.imm d) env (kk d) Φ) : GV Γ g is r env m Φ := gv_asI s hm h
/-! own tuples taken apart -/
theorem tmsOwn {K : PySem.W.Frag} {H : Hp} {Sh : Addr → Prop} : ∀ {vs : List V} {ds : List PyData} {F : List Addr}, Owns K H vs ds F → szAll ds → Tms K H Sh vs (ds.map Sl.own) F
  | _, _, _, .nil, _ => .nil
  | _, _, _, .cons h q _, z => .cons ⟨h, z.1⟩ (tmsOwn q z.2)
theorem Rel.spreadO {K : PySem.W.Frag} {w : Wd} {σ : L2.St} {vs us : List V} {bs : List Sl} {v : V} {ds : List PyData} (R : Rel K w σ env (v :: vs) (.own (.tuple ds) :: ts) us bs) :
    ∃ a xs, v = .ref a ∧ SqT K w.H a xs ∧ xs.length = ds.length ∧ Rel K w σ env (xs ++ vs) (ds.map Sl.own ++ ts) us bs := by
  obtain ⟨F, G, B, g1, g2, g3, eO⟩ := R.ex
  cases g2 with
  | cons hh g2 =>
    rename_i Fv G2
    obtain ⟨ho, hz⟩ := hh
    have app : ∀ {ws : List V} {rs : List Sl} {A : List Addr}, Tms K w.H w.Sh ws rs A → Tms K w.H w.Sh (ws ++ vs) (rs ++ ts) (A ++ G2) := by
      intro ws rs A h
      induction h with
      | nil => exact g2
      | cons h t ih => rw [List.append_assoc]; exact .cons h ih
    have key : ∃ a xs, v = .ref a ∧ SqT K w.H a xs ∧ Owns K w.H xs ds Fv := by
      cases ho with
      | leaf h =>
        obtain ⟨a, xs, rfl, h1, h2⟩ := h.ref
        exact ⟨a, xs, rfl, h1, Owns.imm h2⟩
      | tup h1 h2 => exact ⟨_, _, rfl, h1, h2⟩
    obtain ⟨a, xs, rfl, h1, h2⟩ := key
    exact ⟨a, xs, rfl, h1, ownsLen h2, ⟨F, _, B, g1, app (tmsOwn h2 hz.2), g3, eO⟩, R.nd, R.out, R.lv, R.kl⟩
theorem gv_tupON {n : Nat} {ds : List PyData} {Φ : List Sl → R β → Prop} (e : d = .tuple ds) (hl : ds.length = n) (h : GVs Γ gs is (ds.map Sl.own) env m Φ) : GV Γ (gTup Γ.K n gs) is (.own d) env m Φ := by
  subst e
  intro o e1 e2 σ w v vs us ts bs Z R X kk
  obtain ⟨a, xs, rfl, h1, h2, R'⟩ := R.spreadO
  exact ⟨a, xs, rfl, h1, h2.trans hl, h o e1 e2 σ w xs vs us ts bs Z R' (by simp [h2]) X kk⟩
theorem gv_tupO2 {kk : PyData × PyData → R β} {Φ : List Sl → R β → Prop} (hm : m = (unpk2 d).bind kk) (h : ∀ p : PyData × PyData, GVs Γ gs is [.own p.1, .own p.2] env (kk p) Φ) : GV Γ (gTup Γ.K 2 gs) is (.own d) env m Φ := by
  intro o e1 e2
  match d, hm with
  | .tuple [a, b], hm => exact gv_tupON (ds := [a, b]) rfl rfl (hm ▸ h (a, b)) o e1 e2
  | .none, hm => rw [hm] at e1; exact absurd e1.symm e2
  | .bool _, hm => rw [hm] at e1; exact absurd e1.symm e2
  | .int _, hm => rw [hm] at e1; exact absurd e1.symm e2
  | .str _, hm => rw [hm] at e1; exact absurd e1.symm e2
  | .list _, hm => rw [hm] at e1; exact absurd e1.symm e2
  | .dict _, hm => rw [hm] at e1; exact absurd e1.symm e2
  | .tuple [], hm => rw [hm] at e1; exact absurd e1.symm e2
  | .tuple [_], hm => rw [hm] at e1; exact absurd e1.symm e2
  | .tuple (_ :: _ :: _ :: _), hm => rw [hm] at e1; exact absurd e1.symm e2
/-- the list of what is own -/
def asL : PyData → R (List PyData)
  | .list ds => .ok ds
  | _ => .stuck
@[simp] theorem asL_l (ds : List PyData) : asL (.list ds) = .ok ds := rfl
theorem gv_asL {kk : List PyData → R β} {Φ : List Sl → R β → Prop} (hm : m = (asL d).bind kk) (h : ∀ ds, GV Γ g is (.own (.list ds)) env (kk ds) Φ) : GV Γ g is (.own d) env m Φ := by
  intro o e1 e2
  match d, hm with
  | .list ds, hm => rw [hm] at e1; exact h ds o e1 e2
  | .none, hm => rw [hm] at e1; exact absurd e1.symm e2
  | .bool _, hm => rw [hm] at e1; exact absurd e1.symm e2
  | .int _, hm => rw [hm] at e1; exact absurd e1.symm e2
  | .str _, hm => rw [hm] at e1; exact absurd e1.symm e2
  | .tuple _, hm => rw [hm] at e1; exact absurd e1.symm e2
  | .dict _, hm => rw [hm] at e1; exact absurd e1.symm e2
theorem sv_par3 {l : Nat} (h : EA Γ ta env [] m fun rs env1 m1 => ∃ a b c r1 r2 r3 env2, rs = [a, b, c] ∧ env1[l]? = some r1 ∧ (env1.set l c)[j]? = some r2 ∧ ((env1.set l c).set j b)[i]? = some r3 ∧ (((env1.set l c).set j b).set i a) = env2 ∧ i ≠ j ∧ i ≠ l ∧ j ≠ l ∧ k.N env2 m1) : SV Γ (tPar3 i j l ta) env m k := by
  intro o e1 e2 σ w us bs D R X kN kB kC kT
  refine h o e1 e2 σ w [] us bs _ R X fun rs env1 m1 ws w1 ⟨a, b, c, r1, r2, r3, env2, er, h1, h2, h3, h4, hij, hil, hjl, h5⟩ em1 R1 el s1 => ?_
  subst er h4
  match ws, el, R1 with
  | [x, y, z], _, R1 =>
    refine ⟨x, y, z, rfl, ?_⟩
    obtain ⟨w2, e2', R2, s2⟩ := Rel.store (v := z) (r := c) (vs := [y, x]) (ts := [b, a]) R1 h1
    obtain ⟨w3, e3, R3, s3⟩ := Rel.store (v := y) (r := b) (vs := [x]) (ts := [a]) R2 h2
    obtain ⟨w4, e4, R4, s4⟩ := Rel.store (v := x) (r := a) (vs := []) (ts := []) R3 h3
    have := kN _ _ _ w4 h5 em1 R4 (((s1.trans s2).trans s3).trans s4)
    rw [e4, e3, e2', List.set_comm _ _ (Ne.symm hij), List.set_comm _ _ (Ne.symm hil), List.set_comm _ _ (Ne.symm hjl)] at this
    exact this
theorem sv_par' (h : EA Γ ta env [] m fun rs env1 m1 => ∃ a b r1 r2 env2, rs = [a, b] ∧ env1[j]? = some r1 ∧ (env1.set j b)[i]? = some r2 ∧ (env1.set j b).set i a = env2 ∧ i ≠ j ∧ k.N env2 m1) : SV Γ (tPar i j ta) env m k := sv_par (ri := .no) (rj := .no) h
/-! comprehensions, the plain forms -/
def HNo (env : List Sl) (vs : List Nat) : Prop := ∀ i ∈ vs, ∀ r, env[i]? = some r → r = .no
theorem hnoN : HNo env [] := fun _ h => (List.not_mem_nil h).elim
theorem hnoC {vs : List Nat} (e : env[i]? = some .no) (h : HNo env vs) : HNo env (i :: vs) := fun j hj r hr => by
  rcases List.mem_cons.mp hj with rfl | z
  · rw [e] at hr; cases hr; rfl
  · exact h j z r hr
theorem ev_map {vs : List Nat} (envC : List Sl) (hno : HNo envC vs) (hkl : envC.map kill = envC) (his : ∀ i ∈ is, i ∈ vs) (ktl : ts.map kill = ts)
    (h : IV Γ wi env ts m fun ds md env1 m1 => ∃ (body : PyData → R PyData) (kk : List PyData → R β), m1 = (mapR ds body).bind kk ∧ Les env1 envC ∧
      (∀ d, d ∈ ds → GV Γ g is (md d) envC (body d) fun env2 m2 => EV Γ te env2 ts m2 fun r env4 m4 => ∃ y, m4 = .ok y ∧ OwnOf r y ∧ Les env4 envC) ∧ ∀ l, Φ (.own (.list l)) envC (kk l)) : EV Γ (tLc wi g tYes te vs) env ts m Φ := by
  refine ev_lc (S := Unit) (is := is) (fun _ => envC) (fun _ => hno) (fun _ => hkl) his ktl ?_
  intro o e1 e2 σ w vs us bs Z R X kk0
  refine h o e1 e2 σ w vs us bs Z R X fun J ds md rs ws env1 m1 w1 ⟨body, kk, em, l0, hb, hk⟩ em1 W R1 st1 => ?_
  refine kk0 J ds md rs ws env1 m1 w1 ⟨(), fun x _ => (body x).bind fun y => .ok (some y, ()), fun q => kk q.1, ?_, l0, fun d s hd => ?_, fun p => hk p.1⟩ em1 W R1 st1
  · rw [em, mapR_lc, Vl.R.bind_assoc]; rfl
  · refine gv_bind (hb d hd) rfl fun e2 m2 h2 => ?_
    intro o2 f1 f2 σ2 w2 vs2 us2 bs2 Q2 R2 X2 k2
    refine k2 true e2 _ w2 ⟨_, .ok (none, ()), rfl, fun _ => ?_, fun z => nomatch z⟩ f1 R2 Step.refl
    intro o3 g1 g2 σ3 w3 vs3 us3 bs3 Q3 R3 X3 k3
    have nb : m2 ≠ .stuck := fun z => g2 (g1.symm.trans (by rw [z]))
    refine h2 m2 rfl nb σ3 w3 vs3 us3 bs3 _ R3 (fun e he => X3 e (g1.symm.trans (by rw [he]))) fun r4 e4 m4 v4 w4 ⟨y, hy, ho, l⟩ em4 R4 s4 => ?_
    exact k3 r4 e4 _ v4 w4 ⟨(), y, rfl, ho, l⟩ (g1.symm.trans (by rw [← em4, hy])).symm R4 s4
/-- with a test -/
theorem ev_fmap {vs : List Nat} (envC : List Sl) (hno : HNo envC vs) (hkl : envC.map kill = envC) (his : ∀ i ∈ is, i ∈ vs) (ktl : ts.map kill = ts)
    (h : IV Γ wi env ts m fun ds md env1 m1 => ∃ (body : PyData → R (Option PyData)) (kk : List PyData → R β), m1 = (fmapR ds body).bind kk ∧ Les env1 envC ∧
      (∀ d, d ∈ ds → GV Γ g is (md d) envC (body d) fun env2 m2 => TV Γ tt env2 ts m2 fun b env3 m3 => ∃ ma mb, m3 = (bif b then ma else mb) ∧
        (EV Γ te env3 ts ma fun r env4 m4 => ∃ y, m4 = .ok (some y) ∧ OwnOf r y ∧ Les env4 envC) ∧ (mb = .ok none ∧ Les env3 envC)) ∧ ∀ l, Φ (.own (.list l)) envC (kk l)) : EV Γ (tLc wi g tt te vs) env ts m Φ := by
  refine ev_lc (S := Unit) (is := is) (fun _ => envC) (fun _ => hno) (fun _ => hkl) his ktl ?_
  intro o e1 e2 σ w vs us bs Z R X kk0
  refine h o e1 e2 σ w vs us bs Z R X fun J ds md rs ws env1 m1 w1 ⟨body, kk, em, l0, hb, hk⟩ em1 W R1 st1 => ?_
  refine kk0 J ds md rs ws env1 m1 w1 ⟨(), fun x _ => (body x).bind fun y => .ok (y, ()), fun q => kk q.1, ?_, l0, fun d s hd => ?_, fun p => hk p.1⟩ em1 W R1 st1
  · rw [em, fmapR_lc, Vl.R.bind_assoc]; rfl
  · refine gv_bind (hb d hd) rfl fun e2 m2 h2 => ?_
    intro o2 f1 f2 σ2 w2 vs2 us2 bs2 Q2 R2 X2 k2
    have nb : m2 ≠ .stuck := fun z => by rw [z] at f1; exact f2 f1.symm
    refine h2 m2 rfl nb σ2 w2 vs2 us2 bs2 _ R2 (fun e he => X2 e (by rw [← f1, he]; rfl)) fun b e3 m3 w3 ⟨ma, mb, em3, ha3, hb3, l3⟩ em4 R3 s3 => ?_
    refine k2 b e3 (m3.bind fun y => .ok (y, ())) w3 ⟨ma.bind fun y => .ok (y, ()), mb.bind fun y => .ok (y, ()), by rw [em3]; cases b <;> rfl, fun _ => ?_, fun _ => ⟨(), by rw [hb3]; rfl, l3⟩⟩ (by rw [em4]; exact f1) R3 s3
    intro o3 g1 g2 σ3 w3 vs3 us3 bs3 Q3 R3 X3 k3
    have nb : ma ≠ .stuck := fun z => by rw [z] at g1; exact g2 g1.symm
    refine ha3 ma rfl nb σ3 w3 vs3 us3 bs3 _ R3 (fun e he => X3 e (by rw [← g1, he]; rfl)) fun r4 e4 m4 v4 w4 ⟨y, hy, ho, l⟩ em4 R4 s4 => ?_
    exact k3 r4 e4 _ v4 w4 ⟨(), y, rfl, ho, l⟩ (g1.symm.trans (by rw [← em4, hy]; rfl)).symm R4 s4
/-- with what goes on from item to item -/
theorem ev_mapS {S : Type} {vs : List Nat} (envOf : S → List Sl) (hno : ∀ s, HNo (envOf s) vs) (hkl : ∀ s, (envOf s).map kill = envOf s) (his : ∀ i ∈ is, i ∈ vs) (ktl : ts.map kill = ts)
    (h : IV Γ wi env ts m fun ds md env1 m1 => ∃ (s0 : S) (body : PyData → S → R (PyData × S)) (kk : List PyData × S → R β), m1 = (mapS ds s0 body).bind kk ∧ Les env1 (envOf s0) ∧
      (∀ d s, d ∈ ds → GV Γ g is (md d) (envOf s) (body d s) fun env2 m2 => EV Γ te env2 ts m2 fun r env4 m4 => ∃ y s, m4 = .ok (y, s) ∧ OwnOf r y ∧ Les env4 (envOf s)) ∧ ∀ p, Φ (.own (.list p.1)) (envOf p.2) (kk p)) : EV Γ (tLc wi g tYes te vs) env ts m Φ := by
  refine ev_lc (S := S) (is := is) envOf hno hkl his ktl ?_
  intro o e1 e2 σ w vs us bs Z R X kk0
  refine h o e1 e2 σ w vs us bs Z R X fun J ds md rs ws env1 m1 w1 ⟨s0, body, kk, em, l0, hb, hk⟩ em1 W R1 st1 => ?_
  refine kk0 J ds md rs ws env1 m1 w1 ⟨s0, fun x s => (body x s).bind fun p => .ok (some p.1, p.2), kk, ?_, l0, fun d s hd => ?_, hk⟩ em1 W R1 st1
  · rw [em, mapS_lc]
  · refine gv_bind (hb d s hd) rfl fun e2 m2 h2 => ?_
    intro o2 f1 f2 σ2 w2 vs2 us2 bs2 Q2 R2 X2 k2
    refine k2 true e2 _ w2 ⟨_, .stuck, rfl, fun _ => ?_, fun z => nomatch z⟩ f1 R2 Step.refl
    intro o3 g1 g2 σ3 w3 vs3 us3 bs3 Q3 R3 X3 k3
    have nb : m2 ≠ .stuck := fun z => g2 (g1.symm.trans (by rw [z]))
    refine h2 m2 rfl nb σ3 w3 vs3 us3 bs3 _ R3 (fun e he => X3 e (g1.symm.trans (by rw [he]))) fun r4 e4 m4 v4 w4 ⟨y, s', hy, ho, l⟩ em4 R4 s4 => ?_
    exact k3 r4 e4 _ v4 w4 ⟨s', y, rfl, ho, l⟩ (g1.symm.trans (by rw [← em4, hy])).symm R4 s4
/-! the law's call -/
end
theorem FnG.imp {P : Program} {w : World} {K : PySem.W.Frag} {mg : Str → Option Value} {base : Heap} {CX : CXT} {k : Nat} {f : Addr} {fd : FuncData} {ps : List Str} {sp sp' : Sp} (F : FnG P w K mg base CX k f fd ps sp) (h : ∀ vs H Q E, sp' vs H Q E → sp vs H Q E) : FnG P w K mg base CX k f fd ps sp' :=
  ⟨fun vs H Q E q => F.sized vs H Q E (h _ _ _ _ q), fun A out s H ar us vs Q E hg hr e b r q => F.goes A out s H ar us vs Q E hg hr e b r (h _ _ _ _ q)⟩
def lawSp (K : PySem.W.Frag) : Sp := fun vs H Q _ => ∃ (a : Addr) (ns : List Int), vs = [.ref a] ∧ SqL K H a (ns.map V.int) ∧ ns.length ≤ 63 ∧ ∀ H', Q (.bl true) H'
theorem shdsInts (K : PySem.W.Frag) (H : Hp) (Sh : Addr → Prop) : ∀ ns : List Int, Shds K H Sh (ns.map V.int) (ns.map PyData.int)
  | [] => .nil
  | _ :: r => .cons (.leaf (.int _)) (shdsInts K H Sh r)
theorem szInts : ∀ ns : List Int, szAll (ns.map PyData.int)
  | [] => trivial
  | _ :: r => ⟨trivial, szInts r⟩
/-- a law that is true at each script -/
theorem lawOf {K : PySem.W.Frag} {cm : Str → Option Addr} {f : List PyData → R PyData} {vs : List V} {H : Hp} {Q : VK} {E : XK} (h : lawSp K vs H Q E) (t : ∀ ns : List Int, ns.length ≤ 63 → f (ns.map PyData.int) = .ok (.bool true)) :
    spV K cm (α := List PyData) [.shr] (fun a => [.list a]) f Sl.imm (fun _ => []) vs H Q E := by
  obtain ⟨a, ns, rfl, hs, hl, q⟩ := h
  have e := t ns hl
  refine ⟨ns.map PyData.int, fun x => x = a ∧ H a ≠ none, [], .shr (.lst hs ?_ (shdsInts K H _ ns)) ⟨by rw [List.length_map, sizeLine_eq]; omega, szInts ns⟩ .nil, List.nodup_nil, fun _ z => (List.not_mem_nil z).elim, fun x z => by rw [z.1]; exact z.2, (fun z => by rw [e] at z; cases z), ?_, ?_⟩
  · rcases hs with z | z
    · refine .inl ⟨rfl, ?_⟩
      rcases z with z | ⟨o, z⟩ <;> (rw [z]; simp)
    · exact .inr z
  · intro z hz v w' _ ⟨F, G, _, hv, _⟩ _ _
    rw [e] at hz
    cases hz
    rw [hv.2.1.toBl]
    exact q _
  · intro x hx
    rw [e] at hx
    cases hx
end Vl
/-! Methods of lists. -/
namespace Vl
open PySem PySem.Spec PyProof.Rows L2 Hw
/-- xs.index(x) -/
def indexL (ds : List PyData) (d : PyData) : R PyData :=
  if SeqAt.shaped (.list ds) = true ∧ SeqAt.shaped d = true then match ds.findIdx? (fun z => PyData.eqv z d) with
    | some j => .ok (.int (j : Nat))
    | none => .stuck
  else .stuck
theorem nx_indexL (ds : List PyData) (d : PyData) (e : Exc) : indexL ds d ≠ .exc e := by
  unfold indexL
  split
  · split <;> (intro h; cases h)
  · intro h; cases h
section
variable {Γ : Ctx} {β : Type} {m : R β} {env ts : List Sl} {te to : TE} {Φ : Sl → List Sl → R β → Prop}
theorem ev_meth1 {rr : V → List V → Hp → VK → Prop} (h : EV Γ to env ts m fun r1 env1 m1 => (∃ d, SlD r1 (.list d)) ∧ EV Γ te env1 (r1 :: ts) m1 fun r2 env2 m2 => OpK Γ (fun x y => rr x [y]) r1 r2 env2 ts m2 Φ) :
    EV Γ (tBM Γ.K "list" rr to (tCons te tNil)) env ts m Φ := by
  intro o e1 e2 σ w vs us bs Q R X kk
  refine h o e1 e2 σ w vs us bs _ R X fun r1 env1 m1 x w1 ⟨⟨d, sd⟩, h1⟩ em1 R1 s1 => ⟨?_, ?_⟩
  · cases (R1.dp sd).1 with
    | lst hs _ => exact .inl ⟨rfl, _, hs⟩
  · refine h1 o em1 e2 σ w1 (x :: vs) us bs _ R1 (X.step s1) fun r2 env2 m2 y w2 h2 em2 R2 s2 => ?_
    exact h2 o em2 e2 σ w2 vs us bs x y Q R2 ((X.step s1).step s2) fun r env' m' v w' p1 p2 p3 p4 => kk _ _ _ v w' p1 p2 p3 (s1.trans (s2.trans p4))
end
theorem opS_index {K : PySem.W.Frag} {r1 r2 : Sl} {ds : List PyData} {d : PyData} (h1 : SlD r1 (.list ds)) (h2 : SlD r2 d) : OpS K (fun x y => rIndexD K x [y]) r1 r2 (indexL ds d) .imm := by
  intro H Sh x y F1 F2 a Q s1 s2 hg k
  unfold indexL at hg
  split at hg
  · rename_i c
    split at hg
    · rename_i j hj
      cases hg
      have p1 := (s1.dp h1).1
      have p2 := (s2.dp h2).1
      rw [List.findIdx?_eq_some_iff_getElem] at hj
      obtain ⟨hl, hz, hno⟩ := hj
      refine ⟨(match x with | .ref a => a | _ => 0), y, d, ds, j, ds[j], ?_, rfl, ?_, p2, c.1, c.2, List.getElem?_eq_getElem hl, hz, fun m z' hm hz' => ?_, k _ _ Kp.refl (.imm (.int _) trivial)⟩
      · cases p1; rfl
      · cases p1 with
        | lst hs ha => exact .lst hs ha
      · have := hno m hm
        rw [List.getElem?_eq_getElem (by omega)] at hz'
        cases hz'
        simpa using this
    · cases hg
  · cases hg
section
variable {Γ : Ctx} {β : Type} {m : R β} {env ts : List Sl} {te to tt tu : TE} {Φ : Sl → List Sl → R β → Prop}
/-- a conditional expression whose ways may write what is lent -/
theorem ev_ifS {S δ : Type} (envOf : S → List Sl) (md : δ → Sl) {tt : TT} {ta tb : TE} (h : TV Γ tt env ts m fun b env1 m1 => ∃ (ma mb : R (δ × S)) (k : δ × S → R β), m1 = R.bind (bif b then ma else mb) k ∧
      EV Γ ta env1 ts ma (fun r env2 m2 => ∃ d s, r = md d ∧ m2 = .ok (d, s) ∧ env2 = envOf s) ∧ EV Γ tb env1 ts mb (fun r env2 m2 => ∃ d s, r = md d ∧ m2 = .ok (d, s) ∧ env2 = envOf s) ∧ ∀ p, Φ (md p.1) (envOf p.2) (k p)) : EV Γ (tIf tt ta tb) env ts m Φ := by
  intro o e1 e2 σ w vs us bs Q R X kk
  refine h o e1 e2 σ w vs us bs _ R X fun b env1 m1 w1 ⟨ma, mb, k, em, ha, hb, hk⟩ em1 R1 s1 => ?_
  have X1 := X.step s1
  cases b with
  | true =>
    have em2 : ma.bind k = o := by rw [← em1, em]; rfl
    refine ha ma rfl (fun z => by rw [z] at em2; exact e2 em2.symm) σ w1 vs us bs _ R1 (fun e he => X1 e (by rw [← em2, he]; rfl)) fun r2 env2 m2 y w2 ⟨c, q, h1, h2, h3⟩ em3 R2 s2 => ?_
    subst h1 h3
    refine kk _ _ _ y w2 (hk (c, q)) ?_ R2 (s1.trans s2)
    rw [← em2, ← em3, h2]; rfl
  | false =>
    have em2 : mb.bind k = o := by rw [← em1, em]; rfl
    refine hb mb rfl (fun z => by rw [z] at em2; exact e2 em2.symm) σ w1 vs us bs _ R1 (fun e he => X1 e (by rw [← em2, he]; rfl)) fun r2 env2 m2 y w2 ⟨c, q, h1, h2, h3⟩ em3 R2 s2 => ?_
    subst h1 h3
    refine kk _ _ _ y w2 (hk (c, q)) ?_ R2 (s1.trans s2)
    rw [← em2, ← em3, h2]; rfl
theorem ev_andS {S : Type} (envOf : S → List Sl) (h : EV Γ tt env ts m fun r env1 m1 => ∃ b, r = .imm (.bool b) ∧ ∃ (mu : R (Bool × S)) (s0 : S) (k : Bool × S → R β), m1 = R.bind (bif b then mu else .ok (false, s0)) k ∧ env1 = envOf s0 ∧
      EV Γ tu env1 ts mu (fun r2 env2 m2 => ∃ c s, r2 = .imm (.bool c) ∧ m2 = .ok (c, s) ∧ env2 = envOf s) ∧ ∀ p, Φ (.imm (.bool p.1)) (envOf p.2) (k p)) : EV Γ (tAndV tt tu) env ts m Φ := by
  intro o e1 e2 σ w vs us bs Q R X kk
  refine h o e1 e2 σ w vs us bs _ R X fun r1 env1 m1 x w1 ⟨b, er, mu, s0, k, em, h0, hu, hk⟩ em1 R1 s1 => ?_
  subst er
  have := R1.td.1.toBl
  subst this
  cases b with
  | false => exact ⟨false, rfl, kk _ env1 _ _ w1 (by rw [h0]; exact hk (false, s0)) (by rw [← em1, em]; rfl) R1 s1⟩
  | true =>
    obtain ⟨w', ew, R', st⟩ := Rel.pops (ws := [V.bl true]) (rs := [.imm (.bool true)]) R1 rfl
    have X1 := X.step (s1.trans st)
    have em2 : mu.bind k = o := by rw [← em1, em]; rfl
    refine ⟨true, rfl, ?_⟩
    rw [← ew]
    refine hu mu rfl (fun z => by rw [z] at em2; exact e2 em2.symm) σ w' vs us bs _ R' (fun e he => X1 e (by rw [← em2, he]; rfl)) fun r2 env2 m2 y w2 ⟨c, q, h1, h2, h3⟩ em3 R2 s2 => ?_
    subst h1 h3
    exact kk _ _ _ y w2 (hk (c, q)) (by rw [← em2, ← em3, h2]; rfl) R2 ((s1.trans st).trans s2)
theorem ev_orS {S : Type} (envOf : S → List Sl) (h : EV Γ tt env ts m fun r env1 m1 => ∃ b, r = .imm (.bool b) ∧ ∃ (mu : R (Bool × S)) (s0 : S) (k : Bool × S → R β), m1 = R.bind (bif b then .ok (true, s0) else mu) k ∧ env1 = envOf s0 ∧
      EV Γ tu env1 ts mu (fun r2 env2 m2 => ∃ c s, r2 = .imm (.bool c) ∧ m2 = .ok (c, s) ∧ env2 = envOf s) ∧ ∀ p, Φ (.imm (.bool p.1)) (envOf p.2) (k p)) : EV Γ (tOrV tt tu) env ts m Φ := by
  intro o e1 e2 σ w vs us bs Q R X kk
  refine h o e1 e2 σ w vs us bs _ R X fun r1 env1 m1 x w1 ⟨b, er, mu, s0, k, em, h0, hu, hk⟩ em1 R1 s1 => ?_
  subst er
  have := R1.td.1.toBl
  subst this
  cases b with
  | true => exact ⟨true, rfl, kk _ env1 _ _ w1 (by rw [h0]; exact hk (true, s0)) (by rw [← em1, em]; rfl) R1 s1⟩
  | false =>
    obtain ⟨w', ew, R', st⟩ := Rel.pops (ws := [V.bl false]) (rs := [.imm (.bool false)]) R1 rfl
    have X1 := X.step (s1.trans st)
    have em2 : mu.bind k = o := by rw [← em1, em]; rfl
    refine ⟨false, rfl, ?_⟩
    rw [← ew]
    refine hu mu rfl (fun z => by rw [z] at em2; exact e2 em2.symm) σ w' vs us bs _ R' (fun e he => X1 e (by rw [← em2, he]; rfl)) fun r2 env2 m2 y w2 ⟨c, q, h1, h2, h3⟩ em3 R2 s2 => ?_
    subst h1 h3
    exact kk _ _ _ y w2 (hk (c, q)) (by rw [← em2, ← em3, h2]; rfl) R2 ((s1.trans st).trans s2)
end
section
variable {Γ : Ctx} {β : Type} {m : R β} {env env' ts : List Sl} {i : Nat} {d : PyData}
/-- stored, and from now on read only -/
theorem gv_nameF {r0 : Sl} {Φ : List Sl → R β → Prop} (hi : env[i]? = some r0) (en : env.set i (.shr d) = env') (h : Φ env' m) : GV Γ (gName i) [i] (.own d) env m Φ := by
  intro o e1 e2 σ w v vs us ts bs Z R X kk
  subst en
  obtain ⟨w', e, R', st⟩ := R.store hi
  have hl : i < env.length := (List.getElem?_eq_some_iff.mp hi).1
  obtain ⟨w2, e2', R2, s2⟩ := R'.freeze (j := i) (d := d) (by simp [hl])
  rw [List.set_set] at R2
  have := kk _ m _ w2 h e1 R2 (st.trans s2) setsOne
  rw [e2', e] at this
  exact this
/-- one's own list read, and from now on read only -/
theorem ev_frz {Φ : Sl → List Sl → R β → Prop} (e : env[i]? = some (.own d)) (en : env.set i (.shr d) = env') (h : Φ (.shr d) env' m) : EV Γ (tVar i) env ts m Φ := by
  intro o e1 e2 σ w vs us bs Q R X kk
  subst en
  have hl : i < env.length := (List.getElem?_eq_some_iff.mp e).1
  obtain ⟨w2, e2', R2, s2⟩ := R.freeze e
  rw [← e2']
  refine ev_shr (i := i) (d := d) (by simp [hl]) h o e1 e2 σ w2 vs us bs Q R2 (X.step s2) fun r env' m' v w' p1 p2 p3 p4 => kk r env' m' v w' p1 p2 p3 (s2.trans p4)
end
/-! a list's item that is a list -/
def ixL (ds : List PyData) (e : PyData) : R (List PyData) := match e with
  | .int n => match atI ds n with
    | some (.list zs) => .ok zs
    | _ => .stuck
  | _ => .stuck
theorem nx_ixL (a : List PyData) (b : PyData) (e : Exc) : ixL a b ≠ .exc e := by
  unfold ixL
  split
  · split <;> (intro h; cases h)
  · intro h; cases h
theorem shdsLn {K : PySem.W.Frag} {H : Hp} {Sh : Addr → Prop} : ∀ {vs : List V} {ds : List PyData}, Shds K H Sh vs ds → vs.length = ds.length
  | _, _, .nil => rfl
  | _, _, .cons _ r => congrArg (· + 1) (shdsLn r)
theorem shdsGt {K : PySem.W.Frag} {H : Hp} {Sh : Addr → Prop} : ∀ {vs : List V} {ds : List PyData}, Shds K H Sh vs ds → ∀ {j : Nat} {w : V} {d : PyData}, vs[j]? = some w → ds[j]? = some d → Shd K H Sh w d
  | _, _, .nil, j, w, d, e, _ => by simp at e
  | _, _, .cons h r, 0, w, d, e1, e2 => by simp at e1 e2; subst e1 e2; exact h
  | _, _, .cons h r, j + 1, w, d, e1, e2 => shdsGt r (by simpa using e1) (by simpa using e2)
theorem shdLst {K : PySem.W.Frag} {H : Hp} {Sh : Addr → Prop} {v : V} {ds : List PyData} (h : Shd K H Sh v (.list ds)) : ∃ a xs, v = .ref a ∧ SqL K H a xs ∧ Shds K H Sh xs ds := by
  cases h with
  | leaf h => cases h
  | lst h1 _ h3 => exact ⟨_, _, rfl, h1, h3⟩
theorem opS_ixLL {r : Sl} {ds : List PyData} {e : PyData} (hd : SlD r (.list ds)) {Γ : Ctx} {β : Type} {m : R β} {env ts : List Sl} {Φ : Sl → List Sl → R β → Prop} {k : List PyData → R β}
    (hm : m = (ixL ds e).bind k) (z : ∀ a, Φ (.bor (.list a)) env (k a)) : OpK Γ (rIxL Γ.K) r (.imm e) env ts m Φ := by
  intro o e1 e2 σ w vs us bs x y Q R X kk
  cases hg : ixL ds e with
  | stuck => rw [hm, hg] at e1; exact absurd e1.symm e2
  | exc e => exact absurd hg (nx_ixL _ _ _)
  | ok a =>
    rw [hm, hg] at e1
    have ht := R.td.1
    obtain ⟨F, hx⟩ := R.under
    obtain ⟨p1, p2⟩ := hx.bd hd R.lv
    unfold ixL at hg
    cases e with
    | int n =>
      dsimp only at hg
      split at hg
      · rename_i zs e'
        cases hg
        obtain ⟨b, xs, rfl, h1, h2⟩ := shdLst p1
        obtain ⟨j, v, e1', e2', e3, e4⟩ := atI_map (shdsLn h2) e'
        have := ht.toInt
        subst this
        obtain ⟨w', ew, R', st⟩ := Rel.res (ws := [V.int n, V.ref b]) (rs := [.imm (.int n), r]) R rfl Kp.refl (.bor (shdsGt h2 e2' e3) (szAt p2.2 e3))
        refine ⟨_, _, n, v, rfl, rfl, h1, e4, ?_⟩
        rw [← ew]
        exact kk _ _ _ v w' (z _) e1 R' st
      · cases hg
    | _ => cases hg
section
variable {Γ : Ctx} {β : Type} {m : R β} {env ts : List Sl} {Ψ : Bool → List Sl → R β → Prop}
theorem tv_andS {S : Type} (envOf : S → List Sl) {tt tu : TT} (h : TV Γ tt env ts m fun b env1 m1 => ∃ (mu : R (Bool × S)) (s0 : S) (k : Bool × S → R β), m1 = R.bind (bif b then mu else .ok (false, s0)) k ∧ env1 = envOf s0 ∧
    TV Γ tu env1 ts mu (fun c env2 m2 => ∃ s, m2 = .ok (c, s) ∧ env2 = envOf s) ∧ ∀ p, Ψ p.1 (envOf p.2) (k p)) : TV Γ (tAnd tt tu) env ts m Ψ := by
  intro o e1 e2 σ w vs us bs Q R X kk
  refine h o e1 e2 σ w vs us bs _ R X fun b env1 m1 w1 ⟨mu, s0, k, em, h0, hu, hk⟩ em1 R1 s1 => ?_
  cases b with
  | false => exact kk false env1 _ w1 (by rw [h0]; exact hk (false, s0)) (by rw [← em1, em]; rfl) R1 s1
  | true =>
    have X1 := X.step s1
    have em2 : mu.bind k = o := by rw [← em1, em]; rfl
    refine hu mu rfl (fun z => by rw [z] at em2; exact e2 em2.symm) σ w1 vs us bs _ R1 (fun e he => X1 e (by rw [← em2, he]; rfl)) fun c env2 m2 w2 ⟨q, h2, h3⟩ em3 R2 s2 => ?_
    subst h3
    refine kk c _ _ w2 (hk (c, q)) ?_ R2 (s1.trans s2)
    rw [← em2, ← em3, h2]; rfl
theorem tv_orS {S : Type} (envOf : S → List Sl) {tt tu : TT} (h : TV Γ tt env ts m fun b env1 m1 => ∃ (mu : R (Bool × S)) (s0 : S) (k : Bool × S → R β), m1 = R.bind (bif b then .ok (true, s0) else mu) k ∧ env1 = envOf s0 ∧
    TV Γ tu env1 ts mu (fun c env2 m2 => ∃ s, m2 = .ok (c, s) ∧ env2 = envOf s) ∧ ∀ p, Ψ p.1 (envOf p.2) (k p)) : TV Γ (tOr tt tu) env ts m Ψ := by
  intro o e1 e2 σ w vs us bs Q R X kk
  refine h o e1 e2 σ w vs us bs _ R X fun b env1 m1 w1 ⟨mu, s0, k, em, h0, hu, hk⟩ em1 R1 s1 => ?_
  cases b with
  | true => exact kk true env1 _ w1 (by rw [h0]; exact hk (true, s0)) (by rw [← em1, em]; rfl) R1 s1
  | false =>
    have X1 := X.step s1
    have em2 : mu.bind k = o := by rw [← em1, em]; rfl
    refine hu mu rfl (fun z => by rw [z] at em2; exact e2 em2.symm) σ w1 vs us bs _ R1 (fun e he => X1 e (by rw [← em2, he]; rfl)) fun c env2 m2 w2 ⟨q, h2, h3⟩ em3 R2 s2 => ?_
    subst h3
    refine kk c _ _ w2 (hk (c, q)) ?_ R2 (s1.trans s2)
    rw [← em2, ← em3, h2]; rfl
end
end Vl
/-! xs.extend(ys) of data without lists. -/
namespace Vl
open PySem PySem.Spec PyProof.Rows L2 Hw
def rExtG : V → List V → Hp → VK → Prop := fun x vs H Q => ∃ l b xs zs, x = .ref l ∧ vs = [.ref b] ∧ H l = some (.lst xs) ∧ H b = some (.lst zs) ∧ xs.length + zs.length ≤ sizeLine ∧
  ∀ H', Kp (At l) H H' → H' l = some (.lst (xs ++ zs)) → Q .non H'
theorem mt_extendG {X : Cx} : MtM X "list.extend" rExtG := by
  intro pins s σ H x xs v us Q I rx rv ⟨l, b, ys, zs, e1, e2, h, h2, hl, q⟩
  exact mt_extend pins s σ H x xs v us Q I rx rv ⟨l, b, ys, zs, e1, e2, h, h2, hl, q _ (Kp.putL h) upd_same⟩
def extL (a b : List PyData) : R (List PyData) := if immAll b = true ∧ a.length + b.length ≤ sizeLine then .ok (a ++ b) else .stuck
theorem extL_eq {a b : List PyData} (h : immAll b = true) (hl : a.length + b.length ≤ sizeLine) : extL a b = .ok (a ++ b) := if_pos ⟨h, hl⟩
theorem Owns.ext {K : PySem.W.Frag} {H : Hp} {ys : List V} {es : List PyData} (t : TDs K H ys es) : ∀ {xs : List V} {ds : List PyData} {F : List Addr}, Owns K H xs ds F → Owns K H (xs ++ ys) (ds ++ es) F
  | _, _, _, .nil => Owns.imm t
  | _, _, _, .cons h r n => .cons h (Owns.ext t r) n
section
variable {Γ : Ctx} {β : Type} {m : R β} {env : List Sl} {k : Ks β} {te : TE} {j : Nat}
theorem sv_ext {xs0 : List PyData} {r0 : Sl} {mk0 : PyData → Sl} (h0 : env[j]? = some r0) (om0 : OwnSl r0 (.list xs0) mk0)
    (h : EV Γ te env [] m fun r env1 m1 => ∃ es xs r1 mk kk, r = .own (.list es) ∧ env1[j]? = some r1 ∧ OwnSl r1 (.list xs) mk ∧ m1 = (extL xs es).bind kk ∧ ∀ z, k.N ((env1.map kill).set j (mk (.list z))) (kk z)) :
    SV Γ (tDrop (tBM Γ.K "list" rExtG (tVar j) (tCons te tNil))) env m k := by
  intro o e1 e2 σ w us bs D R X kN kB kC kT
  obtain ⟨a0, xs0', es0, ha0, _⟩ := R.mut h0 om0
  refine ⟨.ref a0, es0, .inl ⟨rfl, _, .of ha0⟩, ?_⟩
  refine h o e1 e2 σ w [] us bs _ R X fun r env1 m1 v w1 ⟨ds, xs, r1, mk, kk, er, hj, om, em, hk⟩ em1 R1 s1 => ?_
  subst er
  by_cases c : immAll ds = true ∧ xs.length + ds.length ≤ sizeLine
  · rw [show extL xs ds = .ok (xs ++ ds) from if_pos c] at em
    obtain ⟨a, vs, es, ha, hl, hz, el, go⟩ := R1.mut hj om
    rw [es0] at es
    cases es
    obtain ⟨F, s⟩ := R1.top
    obtain ⟨b, ys, rfl, hb, td⟩ : ∃ b ys, v = .ref b ∧ w1.H b = some (.lst ys) ∧ TDs Γ.K w1.H ys ds := by
      obtain ⟨q, z⟩ := s
      cases q with
      | leaf q => cases q
      | lst q1 q2 q3 => exact ⟨_, _, rfl, q1, (ownsImm q2 c.1).1⟩
    refine ⟨a0, b, vs, ys, rfl, rfl, ha, hb, by rw [el, td.length]; exact c.2, fun H' kp ha' => ?_⟩
    obtain ⟨w2, rfl, R2, s2⟩ := go H' (vs ++ ys) (xs ++ ds) kp ha' (fun Fi A oi tm nd na => ⟨Fi, Owns.ext td oi, (List.nodup_append.mp nd).1, fun _ z => List.mem_append_left _ z⟩) (by rw [List.length_append]; exact c.2) (szAll_append hz s.2.2)
    exact kN _ _ σ w2 (hk _) (by rw [← em1, em]; rfl) R2 (s1.trans s2)
  · rw [show extL xs ds = .stuck from if_neg c] at em
    rw [em] at em1
    exact absurd em1.symm e2
end
end Vl
/-! A display with three written text keys, asked at once. -/
namespace Vl
open PySem PySem.Spec PyProof.Rows L2 Hw
def look3 (s1 : Str) (d1 : PyData) (s2 : Str) (d2 : PyData) (s3 : Str) (d3 : PyData) (e : PyData) : R PyData := match e with
  | .str s => if s = s1 then .ok d1 else if s = s2 then .ok d2 else if s = s3 then .ok d3 else .stuck
  | _ => .stuck
section
variable {Γ : Ctx} {β : Type} {m : R β} {env ts : List Sl} {t1 t2 t3 tix : TE} {Φ : Sl → List Sl → R β → Prop}
theorem ev_dlook3 {s1 s2 s3 : Str} (nd : [s1, s2, s3].Nodup) (kt : ts.map kill = ts)
    (h : EV Γ t1 env ts m fun r1 env1 m1 => ∃ d1, r1 = .imm d1 ∧ EV Γ t2 env1 (r1 :: ts) m1 fun r2 env2 m2 => ∃ d2, r2 = .imm d2 ∧ EV Γ t3 env2 (r2 :: r1 :: ts) m2 fun r3 env3 m3 => ∃ d3, r3 = .imm d3 ∧
      EV Γ tix (env3.map kill) (r3 :: r2 :: r1 :: ts) m3 fun r4 env4 m4 => ∃ (e : PyData) (kk : PyData → R β), r4 = .imm e ∧ m4 = (look3 s1 d1 s2 d2 s3 d3 e).bind kk ∧ ∀ z, Φ (.imm z) env4 (kk z)) :
    EV Γ (tDGet (tDisp [(tC (.str s1), t1), (tC (.str s2), t2), (tC (.str s3), t3)]) tix) env ts m Φ := by
  intro o e1 e2 σ w vs us bs Q R X kz p np
  have k0 : Kp Non w.H (upd w.H p (.dK [])) := Kp.new np
  have R0 := R.non k0
  have X0 : XOk Γ o { w with H := upd w.H p (.dK []) } us bs := X.step (Step.non k0)
  have pO : p ∉ w.O := fun z => R.live p z np
  have pS : ¬ w.Sh p := fun z => R.lv p z np
  refine h o e1 e2 σ { w with H := upd w.H p (.dK []) } vs us bs _ R0 X0 fun r1 env1 m1 x1 w1 ⟨d1, er1, h1⟩ em1 R1 st1 => ?_
  subst er1
  refine h1 o em1 e2 σ w1 (x1 :: vs) us bs _ R1 (X0.step st1) fun r2 env2 m2 x2 w2 ⟨d2, er2, h2⟩ em2 R2 st2 => ?_
  subst er2
  refine h2 o em2 e2 σ w2 (x2 :: x1 :: vs) us bs _ R2 ((X0.step st1).step st2) fun r3 env3 m3 x3 w3 ⟨d3, er3, h3⟩ em3 R3 st3 => ?_
  subst er3
  have st := (st1.trans st2).trans st3
  have X3 := X0.step st
  have z2 : w3.H p = some (.dK []) := st.kp.same p _ pO upd_same
  refine dispEnd [s1, s2, s3] [x1, x2, x3] rfl nd (by show 3 ≤ 15; omega) rfl z2 fun em => ?_
  rw [em]
  have kp : Kp (At p) w3.H (upd w3.H p (.dK (recK [s1, s2, s3] [x1, x2, x3]))) := Kp.put z2 (fun _ z => nomatch z) (fun _ _ z => nomatch z)
  have p3O : p ∉ w3.O := fun z => (st.own p z).elim pO fun q => by rw [show ({ w with H := upd w.H p (.dK []) } : Wd).H p = some (.dK []) from upd_same] at q; cases q
  have p3S : ¬ w3.Sh p := fun z => (st.sn p z).elim pS fun q => q.elim pO fun q => by rw [show ({ w with H := upd w.H p (.dK []) } : Wd).H p = some (.dK []) from upd_same] at q; cases q
  have zp : upd w3.H p (.dK (recK [s1, s2, s3] [x1, x2, x3])) p = some (.dK (recK [s1, s2, s3] [x1, x2, x3])) := upd_same
  generalize upd w3.H p (.dK (recK [s1, s2, s3] [x1, x2, x3])) = H3 at kp zp
  have shOff : ∀ a, w3.Sh a → ¬ At p a := fun a z q => p3S (by rw [show a = p from q] at z; exact z)
  have R4 : Rel Γ.K ⟨H3, w3.Sh, w3.O⟩ σ (env3.map kill) (x3 :: x2 :: x1 :: vs) (.imm d3 :: .imm d2 :: .imm d1 :: ts) us bs := by
    obtain ⟨F, G, B, a1, a2, a3, eO⟩ := R3.ex
    have off : ∀ L : List Addr, (∀ a ∈ L, a ∈ w3.O) → ∀ a ∈ L, ¬ At p a := fun L hL a ha q => p3O (by rw [show a = p from q] at ha; exact hL _ ha)
    have b1 := a1.tr (Tr.kp kp shOff (off F fun a ha => by rw [eO]; exact List.mem_append_left _ ha))
    have b2 := a2.tr (Tr.kp kp shOff (off G fun a ha => by rw [eO]; exact List.mem_append_right _ (List.mem_append_left _ ha)))
    have b3 := a3.tr (Tr.kp kp shOff (off B fun a ha => by rw [eO]; exact List.mem_append_right _ (List.mem_append_right _ ha)))
    rw [R3.kl] at b3
    have ek : List.map kill (.imm d3 :: .imm d2 :: .imm d1 :: ts) = .imm d3 :: .imm d2 :: .imm d1 :: ts := by
      simp only [List.map_cons, kt]
      rfl
    rw [ek] at b2
    exact ⟨⟨F, G, B, b1, b2, b3, eO⟩, R3.nd, R3.out, fun a z q => R3.lv a z (kp.live a q), R3.kl⟩
  have sP : Step w ⟨H3, w3.Sh, w3.O⟩ := by
    refine ⟨?_, fun a ha => ?_, fun a ha => st.sh a ha, fun a ha => ?_⟩
    · exact kpThen (kpThen (k0.wide fun _ z => z.elim) st.kp fun a z => .inl z) kp fun a z => .inr (by rw [show a = p from z]; exact np)
    · rcases st.own a ha with z | z
      · exact .inl z
      · exact .inr (k0.live a z)
    · rcases st.sn a ha with z | z | z
      · exact .inl z
      · exact .inr (.inl z)
      · exact .inr (.inr (k0.live a z))
  refine h3 o em3 e2 σ ⟨H3, w3.Sh, w3.O⟩ (x3 :: x2 :: x1 :: vs) us bs _ R4 (X.step sP) fun r4 env4 m4 y w5 ⟨e, kk, er4, em, hk⟩ em4 R5 st5 => ?_
  subst er4
  have z5 : w5.H p = some (.dK (recK [s1, s2, s3] [x1, x2, x3])) := st5.kp.same p _ p3O zp
  obtain ⟨F, G, B, a1, a2, a3, eO⟩ := R5.ex
  cases a2 with
  | cons c4 a2 =>
  cases a2 with
  | cons c3 a2 =>
  cases a2 with
  | cons c2 a2 =>
  cases a2 with
  | cons c1 a2 =>
  have fin : ∀ (v : V) (z : PyData), TD Γ.K w5.H v z → szD z → look3 s1 d1 s2 d2 s3 d3 e = .ok z → Q v w5.H := by
    intro v z ht hz hg
    obtain ⟨w6, e6, R6, s6⟩ := Rel.res (ws := [y, x3, x2, x1]) (rs := [.imm e, .imm d3, .imm d2, .imm d1]) (v := v) (r := .imm z) R5 rfl Kp.refl (.imm ht hz)
    have := kz (.imm z) env4 (kk z) v w6 (hk z) (by rw [← em4, em, hg]; rfl) R6 ((sP.trans st5).trans s6)
    rwa [e6] at this
  cases e with
  | str s =>
    have ey : y = .str s := c4.2.1.toStr
    subst ey
    by_cases q1 : s = s1
    · subst q1
      exact sRGet z5 nd (i := 0) rfl rfl (fin x1 d1 c1.2.1 c1.2.2 (if_pos rfl))
    · by_cases q2 : s = s2
      · subst q2
        exact sRGet z5 nd (i := 1) rfl rfl (fin x2 d2 c2.2.1 c2.2.2 ((if_neg q1).trans (if_pos rfl)))
      · by_cases q3 : s = s3
        · subst q3
          exact sRGet z5 nd (i := 2) rfl rfl (fin x3 d3 c3.2.1 c3.2.2 (((if_neg q1).trans (if_neg q2)).trans (if_pos rfl)))
        · rw [em, show look3 s1 d1 s2 d2 s3 d3 (.str s) = .stuck from ((if_neg q1).trans (if_neg q2)).trans (if_neg q3)] at em4
          exact absurd em4.symm e2
  | _ => rw [em] at em4; exact absurd em4.symm e2
end
/-! tuples of things that nobody writes -/
inductive Shps : List Sl → List PyData → Prop
  | nil : Shps [] []
  | imm {d : PyData} {rs : List Sl} {ds : List PyData} : Shps rs ds → Shps (.imm d :: rs) (d :: ds)
  | shr {d : PyData} {rs : List Sl} {ds : List PyData} : Shps rs ds → Shps (.shr d :: rs) (d :: ds)
theorem Shps.len {rs : List Sl} {ds : List PyData} (h : Shps rs ds) : rs.length = ds.length := by
  induction h with
  | nil => rfl
  | imm _ ih => simp [ih]
  | shr _ ih => simp [ih]
theorem tmsShps {K : PySem.W.Frag} {H : Hp} {Sh : Addr → Prop} {rs : List Sl} {ds : List PyData} (q : Shps rs ds) : ∀ {ws : List V} {G : List Addr}, Tms K H Sh ws rs G → Shds K H Sh ws ds ∧ szAll ds := by
  induction q with
  | nil =>
    intro ws G h
    cases h
    exact ⟨.nil, trivial⟩
  | imm q ih =>
    intro ws G h
    cases h with
    | cons h t =>
      obtain ⟨h1, h2⟩ := ih t
      exact ⟨.cons (.leaf h.2.1) h1, h.2.2, h2⟩
  | shr q ih =>
    intro ws G h
    cases h with
    | cons h t =>
      obtain ⟨h1, h2⟩ := ih t
      exact ⟨.cons h.2.1 h1, h.2.2, h2⟩
section
variable {Γ : Ctx} {β : Type} {m : R β} {env ts : List Sl} {Φ : Sl → List Sl → R β → Prop} {Ψ : List PyData → (PyData → Sl) → List Sl → R β → Prop}
theorem ev_tupS {ta : TA} (h : EA Γ ta env ts m fun rs env1 m1 => ∃ ds : List PyData, Shps rs ds ∧ ds.length ≤ 1000 ∧ Φ (.shr (.tuple ds)) env1 m1) : EV Γ (tTupG ta) env ts m Φ := by
  intro o e1 e2 σ w vs us bs Q R X kk
  refine h o e1 e2 σ w vs us bs _ R X fun rs env1 m1 ws w1 ⟨ds, er, hl, h1⟩ em1 R1 el s1 => ?_
  have el2 : ws.length = ds.length := by rw [el, er.len]
  refine ⟨Nat.le_of_lt (small1000 (by omega)), fun p H' k np hp => ?_⟩
  obtain ⟨w', rfl, R', st⟩ := Rel.take (v := .ref p) (r := .shr (.tuple ds)) R1 (by simp [el]) k (fun A ht => by
    obtain ⟨B, hb, pm⟩ := ht.unrev
    obtain ⟨t1, t2⟩ := tmsShps er hb
    exact ⟨[], ⟨rfl, .tup (.of hp) (t1.kp k (fun _ _ z => z)), Nat.le_of_lt (small1000 hl), t2⟩, List.nodup_nil, fun _ q => (List.not_mem_nil q).elim⟩)
  exact kk _ _ _ _ w' h1 em1 R' (s1.trans st)
theorem shdTup {K : PySem.W.Frag} {H : Hp} {Sh : Addr → Prop} {v : V} {ds : List PyData} (h : Shd K H Sh v (.tuple ds)) : ∃ a xs, v = .ref a ∧ SqT K H a xs ∧ Shds K H Sh xs ds := by
  cases h with
  | leaf h =>
    obtain ⟨a, xs, rfl, h1, h2⟩ := h.ref
    refine ⟨a, xs, rfl, h1, ?_⟩
    have : ∀ {xs : List V} {ds : List PyData}, TDs K H xs ds → Shds K H Sh xs ds := by
      intro xs
      induction xs with
      | nil => intro ds h; cases h; exact .nil
      | cons x xs ih => intro ds h; cases h with
        | cons h q => exact .cons (.leaf h) (ih q)
    exact this h2
  | tup h q => exact ⟨_, _, rfl, h, q⟩
theorem walkTP {K : PySem.W.Frag} {a : Addr} {xs : List V} {ds : List PyData} {v : V} (l : xs.length = ds.length) (z : ds.length ≤ sizeLine) : WalkOn K (Itt K a) [v] [.itP a xs ds] ds .shr := by
  refine ⟨⟨fun H => SqT K H a xs, YAt xs, l ▸ walk_tup, fun H Sh F h => (h.one).2.1, fun i d H Sh F x H' ed ht lv y => ?_⟩, rfl, rfl, z⟩
  obtain ⟨rfl, ex⟩ := y
  obtain ⟨_, h1, h2, h3⟩ := ht.one
  exact ⟨Kp.refl, rfl, shdsAt h2 ex ed, szAt h3 ed⟩
theorem iv_tupS {te : TE} (h : EV Γ te env ts m fun r env1 m1 => ∃ d kk, r = .shr d ∧ m1 = (itemsT d).bind kk ∧ ∀ ds, Ψ ds .shr env1 (kk ds)) : IV Γ (iTup Γ.K te) env ts m Ψ := by
  intro o e1 e2 σ w vs us bs Z R X kz
  refine h o e1 e2 σ w vs us bs _ R X fun r env1 m1 v w1 ⟨d, kk, er, em, hk⟩ em1 R1 s1 => ?_
  subst er
  match d, em, R1 with
  | .tuple ds, em, R1 =>
    obtain ⟨F, hF⟩ := R1.top
    obtain ⟨a, xs, rfl, h1, h2⟩ := shdTup hF.2.1
    have hz := hF.2.2
    obtain ⟨w2, e2', R2, s2⟩ := R1.toIt (r' := .itP a xs ds) rfl fun F2 hF2 => ⟨hF2.1, h1, h2, hz.2⟩
    refine ⟨a, rfl, ⟨xs, h1⟩, ?_⟩
    rw [← e2']
    exact kz _ ds .shr _ _ env1 _ w2 (hk ds) (by rw [← em1, em]; rfl) (walkTP (shdsLen h2) hz.1) R2 (s1.trans s2)
  | .none, em, _ => rw [em] at em1; exact absurd em1.symm e2
  | .bool _, em, _ => rw [em] at em1; exact absurd em1.symm e2
  | .int _, em, _ => rw [em] at em1; exact absurd em1.symm e2
  | .str _, em, _ => rw [em] at em1; exact absurd em1.symm e2
  | .list _, em, _ => rw [em] at em1; exact absurd em1.symm e2
  | .dict _, em, _ => rw [em] at em1; exact absurd em1.symm e2
end
section
variable {Γ : Ctx} {β : Type} {m : R β} {env ts : List Sl} {gs : TGs} {is : List Nat} {Φ : List Sl → R β → Prop}
theorem tmsShr {K : PySem.W.Frag} {H : Hp} {Sh : Addr → Prop} : ∀ {vs : List V} {ds : List PyData}, Shds K H Sh vs ds → szAll ds → Tms K H Sh vs (ds.map Sl.shr) []
  | _, _, .nil, _ => .nil
  | _, _, .cons h q, z => Tms.cons (F := []) ⟨rfl, h, z.1⟩ (tmsShr q z.2)
theorem Rel.spreadS {K : PySem.W.Frag} {w : Wd} {σ : L2.St} {vs us : List V} {bs : List Sl} {v : V} {d : PyData} {ds : List PyData} (R : Rel K w σ env (v :: vs) (.shr d :: ts) us bs) (e : d = .tuple ds) :
    ∃ a xs, v = .ref a ∧ SqT K w.H a xs ∧ xs.length = ds.length ∧ Rel K w σ env (xs ++ vs) (ds.map Sl.shr ++ ts) us bs := by
  subst e
  obtain ⟨F, hF⟩ := R.top
  obtain ⟨a, xs, rfl, h1, h2⟩ := shdTup hF.2.1
  have hz := hF.2.2
  refine ⟨a, xs, rfl, h1, shdsLen h2, ?_⟩
  obtain ⟨F, G, B, g1, g2, g3, eO⟩ := R.ex
  cases g2 with
  | cons hh g2 =>
    obtain ⟨rfl, _⟩ := hh
    rename_i G2 _
    have app : ∀ {ws : List V} {rs : List Sl}, Tms K w.H w.Sh ws rs [] → Tms K w.H w.Sh (ws ++ vs) (rs ++ ts) G2 := by
      intro ws
      induction ws with
      | nil => intro rs h; cases h; exact g2
      | cons x ws ih =>
        intro rs h
        generalize hE : ([] : List Addr) = E0 at h
        cases h with
        | cons h t =>
          have hh := List.append_eq_nil_iff.mp hE.symm
          obtain ⟨rfl, rfl⟩ := hh
          exact Tms.cons (F := []) h (ih t)
    exact ⟨⟨F, _, B, g1, app (tmsShr h2 hz.2), g3, eO⟩, R.nd, R.out, R.lv, R.kl⟩
theorem gv_tupNS {n : Nat} {d : PyData} {ds : List PyData} (e : d = .tuple ds) (hl : ds.length = n) (h : GVs Γ gs is (ds.map Sl.shr) env m Φ) : GV Γ (gTup Γ.K n gs) is (.shr d) env m Φ := by
  intro o e1 e2 σ w v vs us ts bs Z R X kk
  obtain ⟨a, xs, rfl, h1, h2, R'⟩ := R.spreadS e
  exact ⟨a, xs, rfl, h1, h2.trans hl, h o e1 e2 σ w xs vs us ts bs Z R' (by simp [h2]) X kk⟩
/-- two lists out of a pair -/
def unpkL2 : PyData → R (List PyData × List PyData)
  | .tuple [.list a, .list b] => .ok (a, b)
  | _ => .stuck
@[simp] theorem unpkL2_t (a b : List PyData) : unpkL2 (.tuple [.list a, .list b]) = .ok (a, b) := rfl
theorem gv_tupSL2 {d : PyData} {kk : List PyData × List PyData → R β} (hm : m = (unpkL2 d).bind kk) (h : ∀ p : List PyData × List PyData, GVs Γ gs is [.shr (.list p.1), .shr (.list p.2)] env (kk p) Φ) : GV Γ (gTup Γ.K 2 gs) is (.shr d) env m Φ := by
  intro o e1 e2
  cases c : unpkL2 d with
  | stuck => rw [hm, c] at e1; exact absurd e1.symm e2
  | exc e =>
    exfalso
    unfold unpkL2 at c
    split at c <;> cases c
  | ok p =>
    have hd : d = .tuple [.list p.1, .list p.2] := by
      unfold unpkL2 at c
      split at c
      · cases c; rfl
      · cases c
    exact gv_tupNS (ds := [.list p.1, .list p.2]) hd rfl (by rw [hm, c]; exact h p) o e1 e2
end
end Vl
/-! What is refused: own classes with fields, raise, try, what a taken one tells. -/
namespace Vl
open PySem PySem.Spec PyProof.Rows L2 Hw
/-! ### a raise that is never looked at -/
section
variable {X : Cx}
theorem ps_never {st : Stmt} : PS X st (fun _ _ _ => False) := ⟨fun _ _ _ _ _ _ h => h.elim⟩
theorem sv_stuck {Γ : Ctx} {β : Type} {t : TS} {env : List Sl} {k : Ks β} : SV Γ t env (.stuck : R β) k := fun _ e1 e2 => absurd e1.symm e2
/-! ### Base.__init__(self, ..), Base a class of the text that has the built-in's own -/
theorem pe_weinit {W : Addr} {mc : Value} {x : Str} {e : Expr} {es : List Expr} {ta : TA} {p1 p2 pos : Pos} {pl : Sem Bool} (hg : Gl X x) (hm : X.mg x = some (.ref W)) (rd : ClX.CRead X.K W mc)
    (at_ : PySem.W.findCls X.K (.ref W) mc "__init__" = some (.val (.builtin "ValueError.__init__"))) (ha : PA X (e :: es) ta) (hdb : (x == ("__debug__" : Str)) = false := by decide)
    (hc : eval (.Call (.Attribute (.Name x p1) "__init__" p2) (e :: es) [] pos) X.env = (do
      let o ← eval (.Name x p1) X.env
      standAt p2.atName
      let (g, fst) ← holding [o] (getMethod o "__init__" pl)
      callWith pos g fst (backTo pos (starEach (e :: es) X.env)) (backToKw pos (keywordEach [] X.env))) := by rfl)
    (he : starEach (e :: es) X.env = (false, eval e X.env) :: starEach es X.env := by rfl) (hpl : (backTo pos (starEach es X.env)).any (·.1) = false := by rfl) :
    PE X (.Call (.Attribute (.Name x p1) "__init__" p2) (e :: es) [] pos) (tVeI X.K ta) := by
  constructor
  intro pins s σ H Q I h
  apply PySem.W.methodCall_KW (ld_glob I hg hm ?_ hdb) hc
  apply PySem.W.method_cls I.kIn rd.ga
  apply PySem.W.cls_value I.kIn rd.rd at_ (by decide +kernel)
  apply PyProof.Rows.callWith_method1 _ he hpl
  refine thn (ha.run pos pins _ σ H _ (I.tok _) h) ?_
  rintro us s1 ⟨vs, H1, I1, r1, a, C, ws, ev, hl, T, ea, q⟩
  subst ev
  cases r1 with
  | @cons _ u0 _ ur ra rws =>
    obtain rfl : u0 = Value.ref a := ra
    have n1 : ur.length ≤ sizeLine := by
      have := Paired.length rws
      rw [sizeLine_eq]
      omega
    exact oinit_ok T I1 ea n1 fun s2 J => ⟨.non, H1, J, rfl, q⟩
end
/-- what an own class's __init__ promises: its fields are laid -/
def spI (K : PySem.W.Frag) (C : Addr) (fl : List Str) : Sp := fun vs H Q _ => ∃ (a : Addr) (xs : List V), vs = .ref a :: xs ∧ xs.length = fl.length ∧ OexC K C ∧ H a = some (exo a C none) ∧ (∀ f ∈ fl, PySem.W.findIn K (.ref C) f = some none) ∧
  ∀ d H', H d = none → d ≠ a → H' a = some (exo a C (some d)) → H' d = some (exd d (fl.zip xs).reverse) → (∀ b, b ≠ a → b ≠ d → H' b = H b) → Q .non H'
theorem spI_len {K : PySem.W.Frag} {C : Addr} {fl : List Str} {n : Nat} (hn : fl.length + 1 = n) : ∀ vs H Q E, spI K C fl vs H Q E → vs.length = n := by
  rintro vs H Q E ⟨a, xs, rfl, hl, _⟩
  rw [List.length_cons, hl, hn]
theorem init1 {K : PySem.W.Frag} {C : Addr} {f s : Str} {N : List Str} {vs : List V} {H : Hp} {Q : VK} {E : XK} (hN : N.length = 2) (h : spI K C [f] vs H Q E) :
    tSeq (tDrop (tVeI K (tCons (tVar 0) (tCons (tC (.str s)) tNil)))) (tOst K f (tVar 0) (tVar 1)) { nx := fun _ H' => Q .non H', rt := Q } (L2.start N vs) H := by
  obtain ⟨a, xs, rfl, hl, T, ha, hf, hq⟩ := h
  match xs, hl with
  | [y], _ =>
    have hs : L2.start N [V.ref a, y] = [some (.ref a), some y] := by unfold L2.start; rw [show N.length - [V.ref a, y].length = 0 by rw [hN]; rfl]; rfl
    rw [hs]
    refine ⟨_, rfl, a, C, [.str s], rfl, (by simp), T, ha, y, rfl, _, rfl, a, C, rfl, T, hf f List.mem_cons_self, .inl ⟨ha, fun dx hd hda => ?_⟩⟩
    refine hq dx _ hd hda upd_same (by rw [upd_ne hda, upd_same]; rfl) fun b h1 h2 => ?_
    rw [upd_ne h1, upd_ne h2]
theorem init2 {K : PySem.W.Frag} {C : Addr} {f g s : Str} {N : List Str} {vs : List V} {H : Hp} {Q : VK} {E : XK} (hN : N.length = 3) (h : spI K C [f, g] vs H Q E) :
    tSeq (tDrop (tVeI K (tCons (tVar 0) (tCons (tC (.str s)) tNil)))) (tSeq (tOst K f (tVar 0) (tVar 1)) (tOst K g (tVar 0) (tVar 2))) { nx := fun _ H' => Q .non H', rt := Q } (L2.start N vs) H := by
  obtain ⟨a, xs, rfl, hl, T, ha, hf, hq⟩ := h
  match xs, hl with
  | [y, z], _ =>
    have hs : L2.start N [V.ref a, y, z] = [some (.ref a), some y, some z] := by unfold L2.start; rw [show N.length - [V.ref a, y, z].length = 0 by rw [hN]; rfl]; rfl
    rw [hs]
    refine ⟨_, rfl, a, C, [.str s], rfl, (by simp), T, ha, y, rfl, _, rfl, a, C, rfl, T, hf f List.mem_cons_self, .inl ⟨ha, fun dx hd hda => ?_⟩⟩
    refine ⟨z, rfl, _, rfl, a, C, rfl, T, hf g (List.mem_cons_of_mem _ List.mem_cons_self), .inr ⟨dx, [(f, y)], upd_same, by rw [upd_ne hda, upd_same], (by simp), ?_⟩⟩
    refine hq dx _ hd hda (by rw [upd_ne (Ne.symm hda), upd_same]) (by rw [upd_same]; rfl) fun b h1 h2 => ?_
    rw [upd_ne h2, upd_ne h1, upd_ne h2]
/-! ### raise -/
theorem lookRev {α : Type} {f : Str} : ∀ {fl : List Str} {xs : List α}, fl.length ≤ 2 → fl.Nodup → ((fl.zip xs).reverse).lookup f = (fl.zip xs).lookup f
  | [], xs, _, _ => by cases xs <;> rfl
  | [a], [], _, _ => rfl
  | [a], x :: xs, _, _ => by cases xs <;> rfl
  | [a, b], [], _, _ => rfl
  | [a, b], [x], _, _ => rfl
  | [a, b], x :: y :: xs, _, nd => by
    have ne : a ≠ b := by simpa using nd
    show List.lookup f [(b, y), (a, x)] = List.lookup f [(a, x), (b, y)]
    unfold List.lookup
    by_cases h1 : f = b
    · subst h1
      have e1 : (f == f) = true := by simp
      have e2 : (f == a) = false := by simpa using Ne.symm ne
      rw [e1, e2]
      simp [List.lookup]
    · have e1 : (f == b) = false := by simpa using h1
      rw [e1]
      cases e2 : (f == a) <;> simp [List.lookup, e1, e2]
  | _ :: _ :: _ :: _, _, h, _ => absurd h (by simp)
theorem lookZip {K : PySem.W.Frag} {H : Hp} {Sh : Addr → Prop} {f : Str} {x : PyData} : ∀ {fl : List Str} {ws : List V} {ds : List PyData} {A : List Addr}, Tms K H Sh ws (ds.map Sl.imm) A → (fl.zip ds).lookup f = some x → ∃ v, (fl.zip ws).lookup f = some v ∧ TD K H v x ∧ szD x
  | [], _, _, _, _, h => by simp at h
  | _ :: _, _, [], _, _, h => by simp at h
  | g :: fl, _, d :: ds, _, .cons (v := v) h t, e => by
    have e : (match f == g with | true => some d | false => (fl.zip ds).lookup f) = some x := e
    cases c : (f == g) with
    | true =>
      rw [c] at e
      cases e
      exact ⟨v, by show (match f == g with | true => some v | false => _) = some v; rw [c], h.2⟩
    | false =>
      rw [c] at e
      obtain ⟨u, h1, h2⟩ := lookZip t e
      exact ⟨u, by show (match f == g with | true => some v | false => _) = some u; rw [c]; exact h1, h2⟩
section
variable {Γ : Ctx} {β : Type} {m : R β} {env ts : List Sl} {k : Ks β}
theorem sv_raise {ta : TA} {cls : Str} {C : Addr} {fl : List Str} (hC : Γ.cm cls = some C) (T : OexC Γ.K C) (nf : ∀ f ∈ fl, PySem.W.findIn Γ.K (.ref C) f = some none) (l2 : fl.length ≤ 2) (nd : fl.Nodup)
    (h : EA Γ ta env [] m fun rs env1 m1 => ∃ ds, rs = ds.map Sl.imm ∧ ds.length = fl.length ∧ Γ.L env1 ∧ m1 = .exc ⟨cls, fl.zip ds⟩) :
    SV Γ (fun _ σ H => tMkO C (spI Γ.K C fl) [] ta σ H fun c d H' => Γ.E σ c d H') env m k := by
  intro o e1 e2 σ w us bs D R X kN kB kC kT
  refine h o e1 e2 σ w [] us bs _ R X fun rs env1 m1 ws w1 ⟨ds, er, hl, hL, em⟩ em1 R1 el s1 => ?_
  subst er
  rw [List.length_map] at el
  refine ⟨by omega, fun a na => ?_⟩
  rw [List.append_nil]
  refine ⟨a, ws, rfl, by omega, T, upd_same, nf, fun d H' hd hda h1 h2 h3 => ⟨rfl, d, _, h1, h2, ?_, ?_⟩⟩
  · rwa [upd_ne hda] at hd
  have nd1 : w1.H d = none := by rwa [upd_ne hda] at hd
  have same : ∀ b, b ≠ a → b ≠ d → upd (del H' a) d (.xd ((fl.zip ws).reverse)) b = w1.H b := fun b x y => by
    rw [upd_ne y, del_ne x, h3 b x y, upd_ne x]
  have kp : Kp Non w1.H (upd (del H' a) d (.xd ((fl.zip ws).reverse))) := Kp.of fun b o e => by
    rw [same b (fun z => by rw [z, na] at e; cases e) (fun z => by rw [z, nd1] at e; cases e)]
    exact e
  have X1 := X.step s1
  obtain ⟨F, G, B, g1, g2, g3, g4⟩ := R1.ex
  obtain ⟨A, G', eG, ga, _⟩ := g2.split (by rw [List.length_reverse, List.length_reverse, List.length_map]; exact el)
  obtain ⟨A', ga', _⟩ := ga.unrev
  refine Γ.go (w := { w1 with H := upd (del H' a) d (.xd ((fl.zip ws).reverse)) }) (X1 ⟨cls, fl.zip ds⟩ (by rw [← em1, em])) (Step.non kp) (R1.non kp) hL hC ⟨fun dd e => ?_, fun f x e => ?_⟩ fun x hx => ?_
  · cases e
    exact ⟨_, upd_same⟩
  · obtain ⟨v, q1, q2, q3⟩ := lookZip ga' e
    exact ⟨d, _, v, rfl, upd_same, by rw [lookRev l2 nd]; exact q1, q2.kp kp, q3⟩
  · cases hx
    exact nd1
end
/-! ### try -/
mutual
theorem Own.isL {K : PySem.W.Frag} {H : Hp} : ∀ {v : V} {d : PyData} {F : List Addr}, Own K H v d F → ∀ a ∈ F, ∃ xs, H a = some (.lst xs)
  | _, _, _, .leaf _, a, m => (List.not_mem_nil m).elim
  | _, _, _, .lst h r _, a, m => by
    rcases List.mem_cons.mp m with e | m
    · exact ⟨_, e ▸ h⟩
    · exact Owns.isL r a m
  | _, _, _, .tup _ r, a, m => Owns.isL r a m
theorem Owns.isL {K : PySem.W.Frag} {H : Hp} : ∀ {v : List V} {d : List PyData} {F : List Addr}, Owns K H v d F → ∀ a ∈ F, ∃ xs, H a = some (.lst xs)
  | _, _, _, .nil, a, m => (List.not_mem_nil m).elim
  | _, _, _, .cons h r _, a, m => (List.mem_append.mp m).elim (Own.isL h a) (Owns.isL r a)
end
section
variable {K : PySem.W.Frag} {H : Hp} {Sh : Addr → Prop}
theorem SlR.isL {v : V} {r : Sl} {F : List Addr} (h : SlR K H Sh v r F) : ∀ a ∈ F, ∀ fs, H a ≠ some (.xd fs) := by
  cases r with
  | own d => exact fun a ha fs e => by obtain ⟨xs, z⟩ := h.1.isL a ha; rw [z] at e; cases e
  | iow a d => exact fun a ha fs e => by obtain ⟨xs, z⟩ := h.1.1.isL a ha; rw [z] at e; cases e
  | fdo d => exact FdR.isL h
  | fdw a d => exact h.1.isL
  | itL a xs ds =>
    obtain ⟨Fi, e, h1, h2, _⟩ := h
    subst e
    intro b hb
    rcases List.mem_cons.mp hb with z | z
    · intro fs e2; rw [z, h1] at e2; cases e2
    · intro fs e2; obtain ⟨xs, z⟩ := h2.isL b z; rw [z] at e2; cases e2
  | no => rw [show F = [] from h]; exact fun _ z => (List.not_mem_nil z).elim
  | _ => rw [h.1]; exact fun _ z => (List.not_mem_nil z).elim
theorem Sls.isL : ∀ {σ : L2.St} {env : List Sl} {F : List Addr}, Sls K H Sh σ env F → ∀ a ∈ F, ∀ fs, H a ≠ some (.xd fs)
  | _, _, _, .nil, a, m => (List.not_mem_nil m).elim
  | _, _, _, .cons h r, a, m => by
    rcases List.mem_append.mp m with m | m
    · rcases h with ⟨_, e⟩ | ⟨v, _, h⟩
      · rw [e] at m; exact (List.not_mem_nil m).elim
      · exact h.isL a m
    · exact Sls.isL r a m
theorem Tms.isL : ∀ {vs : List V} {ts : List Sl} {F : List Addr}, Tms K H Sh vs ts F → ∀ a ∈ F, ∀ fs, H a ≠ some (.xd fs)
  | _, _, _, .nil, a, m => (List.not_mem_nil m).elim
  | _, _, _, .cons h r, a, m => (List.mem_append.mp m).elim (h.isL a) (Tms.isL r a)
end
section
variable {K : PySem.W.Frag} {w : Wd} {σ : L2.St} {env ts : List Sl} {vs us : List V} {bs : List Sl}
theorem Rel.isL (R : Rel K w σ env vs ts us bs) : ∀ a ∈ w.O, ∀ fs, w.H a ≠ some (.xd fs) := by
  obtain ⟨F, G, B, h1, h2, h3, e⟩ := R.ex
  intro a ha
  rw [e] at ha
  rcases List.mem_append.mp ha with z | z
  · exact h1.isL a z
  · rcases List.mem_append.mp z with z | z
    · exact h2.isL a z
    · exact h3.isL a z
theorem Tms.len : ∀ {vs : List V} {ts : List Sl} {H : Hp} {Sh : Addr → Prop} {F : List Addr}, Tms K H Sh vs ts F → vs.length = ts.length
  | _, _, _, _, _, .nil => rfl
  | _, _, _, _, _, .cons _ r => congrArg (· + 1) (Tms.len r)
/-- an exception's dict is from now on shared -/
theorem Rel.share (R : Rel K w σ env vs ts us bs) {q : Addr → Prop} (h : ∀ a, q a → ∃ fs, w.H a = some (.xd fs)) : Rel K ⟨w.H, fun a => w.Sh a ∨ q a, w.O⟩ σ env vs ts us bs := by
  obtain ⟨F, G, B, h1, h2, h3, e⟩ := R.ex
  have im : ∀ a, w.Sh a → w.Sh a ∨ q a := fun _ z => .inl z
  refine ⟨⟨F, G, B, ?_, ?_, ?_, e⟩, R.nd, fun a ha z => ?_, fun a z => ?_, R.kl⟩
  · have := h1.tr (Tr.shm im); rwa [mapId] at this
  · have := h2.tr (Tr.shm im); rwa [mapId] at this
  · have := h3.tr (Tr.shm im); rwa [mapId] at this
  · rcases z with z | z
    · exact R.out a ha z
    · obtain ⟨fs, e2⟩ := h a z
      exact R.isL a ha fs e2
  · rcases z with z | z
    · exact R.lv a z
    · obtain ⟨fs, e2⟩ := h a z
      show w.H a ≠ none
      rw [e2]; exact fun z => nomatch z
/-- a slot is emptied -/
theorem Rel.clear (R : Rel K w σ env vs ts us bs) {i : Nat} {r : Sl} (hi : env[i]? = some r) : ∃ w', w'.H = w.H ∧ Rel K w' (σ.set i none) (env.set i .no) vs ts us bs ∧ Step w w' := by
  obtain ⟨F, G, B, h1, h2, h3, e⟩ := R.ex
  obtain ⟨ov, F1, F2, F3, es, hs, eF, go⟩ := h1.split hi
  have s1 := go none .no [] (Tr.non (Sh := w.Sh) Kp.refl) (.inl ⟨rfl, rfl⟩)
  rw [mapId] at s1
  have nd0 := R.nd
  rw [e, eF] at nd0
  have sub : ∀ b ∈ (F1 ++ ([] ++ F3)) ++ (G ++ B), b ∈ w.O := fun b m => by
    rw [e, eF]
    simp only [List.mem_append, List.nil_append] at m ⊢
    rcases m with (m | m) | m
    · exact .inl (.inl m)
    · exact .inl (.inr (.inr m))
    · exact .inr m
  have sl : ((F1 ++ ([] ++ F3)) ++ (G ++ B)).Sublist ((F1 ++ (F2 ++ F3)) ++ (G ++ B)) :=
    List.Sublist.append (List.Sublist.append (List.Sublist.refl _) (List.Sublist.append (List.nil_sublist _) (List.Sublist.refl _))) (List.Sublist.refl _)
  exact ⟨⟨w.H, w.Sh, (F1 ++ ([] ++ F3)) ++ (G ++ B)⟩, rfl, ⟨⟨_, G, B, s1, h2, h3, rfl⟩, sl.nodup nd0, fun b m => R.out b (sub b m), R.lv, R.kl⟩, ⟨Kp.refl, fun b m => .inl (sub b m), fun _ h => h, fun _ h => .inl h⟩⟩
end
/-- the readings of try, their parts told apart -/
def tTryAs (K : PySem.W.Frag) (c : Value) (i : Nat) (ts : Addr → Value → Option Addr → TS) (Wout : WX) (tb : WX → TS) : TS := fun D σ H => tb (wAs K c i ts Wout D) D σ H
def tTryOnly (K : PySem.W.Frag) (c : Value) (ts : Addr → Value → Option Addr → TS) (Wout : WX) (tb : WX → TS) : TS := fun D σ H => tb (wOnly K c ts Wout D) D σ H
section
variable {X : Cx} {x n : Str} {c : Value} {i : Nat} {body suite : List Stmt} {b₀ : Stmt} {np pos pos' : Pos} {tb : WX → TS} {ts : Addr → Value → Option Addr → TS} {Wout : WX}
theorem ps_tryAs (hs : X.stack = X.env :: X.outer) (hf : X.env.frame = some X.env.locals) (nd : X.N.Nodup) (hi : X.N[i]? = some n) (hl : X.env.kindOf n = some .local) (hc : Names X x c) (tk : Takes X Wout)
    (hb : ∀ (W : WX) (pn : List (Addr × Obj)) (xe : Value → Shared → Prop), Takes (X.tr pn xe) W → PassesOwn (model X.prog X.w) X.A X.env xe → PSs (X.tr pn xe) body (tb W))
    (hu : ∀ (a : Addr) (oe : Obj) (cls : Value) (d : Option Addr) (pn : List (Addr × Obj)), Zc cls d oe → (∃ vs, oe.data = .fields vs) → PSs (X.suite a ((a, oe) :: pn)) (b₀ :: suite) (ts a cls d)) :
    PS X (.Try body [.ExceptHandler (some (.Name x np)) (some n) (b₀ :: suite) pos'] [] [] pos) (tTryAs X.K c i ts Wout tb) := ps_try_as hs hf nd hi hl hc tk hb hu
theorem ps_tryOnly (hs : X.stack = X.env :: X.outer) (hf : X.env.frame = some X.env.locals) (hc : Names X x c) (tk : Takes X Wout)
    (hb : ∀ (W : WX) (pn : List (Addr × Obj)) (xe : Value → Shared → Prop), Takes (X.tr pn xe) W → PassesOwn (model X.prog X.w) X.A X.env xe → PSs (X.tr pn xe) body (tb W))
    (hu : ∀ (a : Addr) (oe : Obj) (cls : Value) (d : Option Addr) (pn : List (Addr × Obj)), Zc cls d oe → (∃ vs, oe.data = .fields vs) → PSs (X.suite a ((a, oe) :: pn)) (b₀ :: suite) (ts a cls d)) :
    PS X (.Try body [.ExceptHandler (some (.Name x np)) none (b₀ :: suite) pos'] [] [] pos) (tTryOnly X.K c ts Wout tb) := ps_try_only hs hf hc tk hb hu
end
/-- what the body comes to, or what is done of what left it -/
def tryR {α : Type} (m : R α) (h : Exc → R α) : R α := match m with
  | .exc e => h e
  | r => r
section
variable {Γ : Ctx} {β : Type} {m : R β} {env ts : List Sl} {k : Ks β}
/-- the context of a body whose exceptions are wished to meet W -/
abbrev WEc (W : WX) : L2.St → XK := fun σ c d H => W c d σ H
/-- try: body, except c as n: suite. Both end in S -/
theorem sv_tryAs {S : Type} (envOf : S → List Sl) (envH : List Sl) {tb : WX → TS} {c : Value} {i : Nat} {ts : Addr → Value → Option Addr → TS} {Wout : WX} {mb : R S} {hd : Exc → R S} {cat : Str → Bool} {kk : S → R β}
    (hm : m = (tryR mb fun e => bif cat e.cls then hd e else .stuck).bind kk)
    (tab : ∀ s C, Γ.cm s = some C → PySem.W.exmOne Γ.K (.ref C) c = some (cat s))
    (hb : ∀ (W : WX) (P : Exc → Wd → List V → List Sl → Prop) (step) (lay) (go), SV ⟨Γ.K, Γ.cm, WEc W, fun env' => Les env' envH, P, step, lay, go⟩ (tb W) env mb (nowhere fun e m => ∃ s, m = .ok s ∧ Les e (envOf s)))
    (r0 : Sl) (hi : envH[i]? = some r0)
    (hh : ∀ (a C : Addr) (d : Option Addr) (e : Exc), Γ.cm e.cls = some C → cat e.cls = true → SV Γ (ts a (.ref C) d) (envH.set i (.exc a C d e)) (hd e) (nowhere fun e' m => ∃ s r1, m = .ok s ∧ e'[i]? = some r1 ∧ Les (e'.set i .no) (envOf s)))
    (hk : ∀ s, k.N (envOf s) (kk s)) : SV Γ (tTryAs Γ.K c i ts Wout tb) env m k := by
  intro o e1 e2 σ w us bs D R X kN kB kC kT
  rw [hm] at e1
  have fin : ∀ {o2 : Vl.R S} {s : S} {σ2 : L2.St} {w2 : Wd} {e' : List Sl}, o2.bind kk = o → .ok s = o2 → Rel Γ.K w2 σ2 e' [] [] us bs → Les e' (envOf s) → Step w w2 → D.nx σ2 w2.H := by
    intro o2 s σ2 w2 e' eo es R2 l s2
    obtain ⟨w3, e3, R3, s3⟩ := R2.les l
    rw [← e3]
    exact kN _ _ σ2 w3 (hk s) (by rw [← eo, ← es]; rfl) R3 (s2.trans s3)
  cases hmb : mb with
  | stuck =>
    rw [hmb] at e1
    exact absurd e1.symm e2
  | ok s0 =>
    rw [hmb] at e1
    refine hb (wAs Γ.K c i ts Wout D) (fun _ _ _ _ => False) (fun z _ => z.elim) (fun z _ => z.elim) (fun z => z.elim) mb rfl (fun z => by rw [z] at hmb; cases hmb) σ w us bs D R (fun e he => by rw [hmb] at he; cases he) ?_ (fun _ _ _ _ z => z.elim) (fun _ _ _ _ z => z.elim) (fun _ _ _ _ _ _ z => z.elim)
    rintro env2 m2 σ2 w2 ⟨s, es, l⟩ em2 R2 s2
    exact fin (o2 := mb) (by rw [hmb]; exact e1) (by rw [← em2, es]) R2 l s2
  | exc e =>
    rw [hmb] at e1
    have e1 : (bif cat e.cls then hd e else .stuck).bind kk = o := e1
    cases hc : cat e.cls with
    | false =>
      rw [hc] at e1
      exact absurd e1.symm e2
    | true =>
      rw [hc] at e1
      have e1 : (hd e).bind kk = o := e1
      refine hb (wAs Γ.K c i ts Wout D) (fun e' w' us' bs' => ∃ ws rs, us' = ws ++ us ∧ bs' = rs ++ bs ∧ ws.length = rs.length ∧ e' = e ∧ Step w w')
        (fun ⟨ws, rs, h1, h2, h3, h4, h5⟩ s => ⟨ws, rs, h1, h2, h3, h4, h5.trans s⟩) (fun {_ _ wsn usn rsn bsn} ⟨ws, rs, h1, h2, h3, h4, h5⟩ l => ⟨wsn ++ ws, rsn ++ rs, by rw [h1, List.append_assoc], by rw [h2, List.append_assoc], by rw [List.length_append, List.length_append, h3, l], h4, h5⟩) ?_
        mb rfl (fun z => by rw [z] at hmb; cases hmb) σ w us bs D R (fun e' he => ⟨[], [], rfl, rfl, rfl, (by rw [hmb] at he; cases he; rfl), Step.refl⟩) ?_ (fun _ _ _ _ z => z.elim) (fun _ _ _ _ z => z.elim) (fun _ _ _ _ _ _ z => z.elim)
      · rintro e' w0 w1 σ1 env1 ts1 vs1 us1 bs1 C d ⟨ws, rs, rfl, rfl, h3, h4, h5⟩ s01 R1 l1 hcm ⟨x1, x2⟩ fr
        obtain rfl : e = e' := h4.symm
        refine ⟨true, by rw [← hc]; exact tab _ _ hcm, fun _ a na => ?_, fun z => nomatch z⟩
        obtain ⟨F, G, B, g1, g2, g3, g4⟩ := R1.ex
        obtain ⟨w2, q2, R2, s2⟩ := Rel.pops (vs := []) (ts := []) (by rw [List.append_nil, List.append_nil]; exact R1) g2.len
        obtain ⟨w3, q3, R3, s3⟩ := R2.unbase h3
        obtain ⟨w4, q4, R4, s4⟩ := R3.les l1
        have hH : w4.H = w1.H := by rw [q4, q3, q2]
        have R5 := R4.share (q := fun b => d = some b) fun b hb => by rw [hH]; exact x1 b hb
        have base : Step w w4 := ((((h5.trans s01).trans s2).trans s3).trans s4)
        have s5 : Step w ⟨w4.H, fun b => w4.Sh b ∨ d = some b, w4.O⟩ := ⟨base.kp, base.own, fun b z => .inl (base.sh b z), fun b z => z.elim (base.sn b) fun z => .inr (.inr (h5.kp.live b (fr b z)))⟩
        have R6 := R5.push0 (v := .ref a) (r := .exc a C d e) ⟨rfl, rfl, fun dd z => ⟨.inr z, by show ∃ fs, w4.H dd = _; rw [hH]; exact x1 dd z⟩, fun f x z => by
          obtain ⟨dd, fs, v, y1, y2, y3, y4, y5⟩ := x2 f x z
          exact ⟨dd, fs, v, y1, by show w4.H dd = _; rw [hH]; exact y2, y3, by show TD Γ.K w4.H v x; rw [hH]; exact y4, y5⟩⟩
        obtain ⟨w7, q7, R7, s7⟩ := R6.store hi
        have s7' := s5.trans s7
        have hH7 : w1.H = w7.H := by rw [q7]; exact hH.symm
        rw [hH7]
        refine hh a C d e hcm hc (hd e) rfl (fun z => by rw [z] at e1; exact e2 e1.symm) _ w7 us bs _ R7 (fun e' he => (X.step s7') e' (by rw [← e1, he]; rfl)) ?_ (fun _ _ _ _ z => z.elim) (fun _ _ _ _ z => z.elim) (fun _ _ _ _ _ _ z => z.elim)
        rintro env8 m8 σ8 w8 ⟨s, r1, es, hi8, l⟩ em8 R8 s8
        obtain ⟨w9, q9, R9, s9⟩ := R8.clear hi8
        show D.nx (σ8.set i none) w8.H
        rw [← q9]
        exact fin (o2 := hd e) e1 (by rw [← em8, es]) R9 l ((s7'.trans s8).trans s9)
      · rintro env2 m2 σ2 w2 ⟨s, es, l⟩ em2 R2 s2
        rw [hmb, es] at em2
        cases em2
/-- the same, the clause without a name -/
theorem sv_tryOnly {S : Type} (envOf : S → List Sl) (envH : List Sl) {tb : WX → TS} {c : Value} {ts : Addr → Value → Option Addr → TS} {Wout : WX} {mb : R S} {hd : Exc → R S} {cat : Str → Bool} {kk : S → R β}
    (hm : m = (tryR mb fun e => bif cat e.cls then hd e else .stuck).bind kk)
    (tab : ∀ s C, Γ.cm s = some C → PySem.W.exmOne Γ.K (.ref C) c = some (cat s))
    (hb : ∀ (W : WX) (P : Exc → Wd → List V → List Sl → Prop) (step) (lay) (go), SV ⟨Γ.K, Γ.cm, WEc W, fun env' => Les env' envH, P, step, lay, go⟩ (tb W) env mb (nowhere fun e m => ∃ s, m = .ok s ∧ Les e (envOf s)))
    (hh : ∀ (a C : Addr) (d : Option Addr) (e : Exc), Γ.cm e.cls = some C → cat e.cls = true → SV Γ (ts a (.ref C) d) envH (hd e) (nowhere fun e' m => ∃ s, m = .ok s ∧ Les e' (envOf s)))
    (hk : ∀ s, k.N (envOf s) (kk s)) : SV Γ (tTryOnly Γ.K c ts Wout tb) env m k := by
  intro o e1 e2 σ w us bs D R X kN kB kC kT
  rw [hm] at e1
  have fin : ∀ {o2 : Vl.R S} {s : S} {σ2 : L2.St} {w2 : Wd} {e' : List Sl}, o2.bind kk = o → .ok s = o2 → Rel Γ.K w2 σ2 e' [] [] us bs → Les e' (envOf s) → Step w w2 → D.nx σ2 w2.H := by
    intro o2 s σ2 w2 e' eo es R2 l s2
    obtain ⟨w3, e3, R3, s3⟩ := R2.les l
    rw [← e3]
    exact kN _ _ σ2 w3 (hk s) (by rw [← eo, ← es]; rfl) R3 (s2.trans s3)
  cases hmb : mb with
  | stuck =>
    rw [hmb] at e1
    exact absurd e1.symm e2
  | ok s0 =>
    rw [hmb] at e1
    refine hb (wOnly Γ.K c ts Wout D) (fun _ _ _ _ => False) (fun z _ => z.elim) (fun z _ => z.elim) (fun z => z.elim) mb rfl (fun z => by rw [z] at hmb; cases hmb) σ w us bs D R (fun e he => by rw [hmb] at he; cases he) ?_ (fun _ _ _ _ z => z.elim) (fun _ _ _ _ z => z.elim) (fun _ _ _ _ _ _ z => z.elim)
    rintro env2 m2 σ2 w2 ⟨s, es, l⟩ em2 R2 s2
    exact fin (o2 := mb) (by rw [hmb]; exact e1) (by rw [← em2, es]) R2 l s2
  | exc e =>
    rw [hmb] at e1
    have e1 : (bif cat e.cls then hd e else .stuck).bind kk = o := e1
    cases hc : cat e.cls with
    | false =>
      rw [hc] at e1
      exact absurd e1.symm e2
    | true =>
      rw [hc] at e1
      have e1 : (hd e).bind kk = o := e1
      refine hb (wOnly Γ.K c ts Wout D) (fun e' w' us' bs' => ∃ ws rs, us' = ws ++ us ∧ bs' = rs ++ bs ∧ ws.length = rs.length ∧ e' = e ∧ Step w w')
        (fun ⟨ws, rs, h1, h2, h3, h4, h5⟩ s => ⟨ws, rs, h1, h2, h3, h4, h5.trans s⟩) (fun {_ _ wsn usn rsn bsn} ⟨ws, rs, h1, h2, h3, h4, h5⟩ l => ⟨wsn ++ ws, rsn ++ rs, by rw [h1, List.append_assoc], by rw [h2, List.append_assoc], by rw [List.length_append, List.length_append, h3, l], h4, h5⟩) ?_
        mb rfl (fun z => by rw [z] at hmb; cases hmb) σ w us bs D R (fun e' he => ⟨[], [], rfl, rfl, rfl, (by rw [hmb] at he; cases he; rfl), Step.refl⟩) ?_ (fun _ _ _ _ z => z.elim) (fun _ _ _ _ z => z.elim) (fun _ _ _ _ _ _ z => z.elim)
      · rintro e' w0 w1 σ1 env1 ts1 vs1 us1 bs1 C d ⟨ws, rs, rfl, rfl, h3, h4, h5⟩ s01 R1 l1 hcm ⟨x1, x2⟩ fr
        obtain rfl : e = e' := h4.symm
        refine ⟨true, by rw [← hc]; exact tab _ _ hcm, fun _ a na => ?_, fun z => nomatch z⟩
        obtain ⟨F, G, B, g1, g2, g3, g4⟩ := R1.ex
        obtain ⟨w2, q2, R2, s2⟩ := Rel.pops (vs := []) (ts := []) (by rw [List.append_nil, List.append_nil]; exact R1) g2.len
        obtain ⟨w3, q3, R3, s3⟩ := R2.unbase h3
        obtain ⟨w4, q4, R4, s4⟩ := R3.les l1
        have hH : w4.H = w1.H := by rw [q4, q3, q2]
        have R5 := R4.share (q := fun b => d = some b) fun b hb => by rw [hH]; exact x1 b hb
        have base : Step w w4 := ((((h5.trans s01).trans s2).trans s3).trans s4)
        have s5 : Step w ⟨w4.H, fun b => w4.Sh b ∨ d = some b, w4.O⟩ := ⟨base.kp, base.own, fun b z => .inl (base.sh b z), fun b z => z.elim (base.sn b) fun z => .inr (.inr (h5.kp.live b (fr b z)))⟩
        have hH7 : w1.H = w4.H := hH.symm
        rw [hH7]
        refine hh a C d e hcm hc (hd e) rfl (fun z => by rw [z] at e1; exact e2 e1.symm) _ ⟨w4.H, fun b => w4.Sh b ∨ d = some b, w4.O⟩ us bs _ R5 (fun e' he => (X.step s5) e' (by rw [← e1, he]; rfl)) ?_ (fun _ _ _ _ z => z.elim) (fun _ _ _ _ z => z.elim) (fun _ _ _ _ _ _ z => z.elim)
        rintro env8 m8 σ8 w8 ⟨s, es, l⟩ em8 R8 s8
        exact fin (o2 := hd e) e1 (by rw [← em8, es]) R8 l (s5.trans s8)
      · rintro env2 m2 σ2 w2 ⟨s, es, l⟩ em2 R2 s2
        rw [hmb, es] at em2
        cases em2
/-! ### what a taken one tells -/
/-- which classes a raised one is of: all stand under one base -/
def isE (s n : Str) : Bool := decide (s = n) || (decide (n = "WaitError") || decide (n = "ValueError"))
def isEs (s : Str) : List Str → Bool
  | [] => false
  | n :: ns => isE s n || isEs s ns
/-- a field of a taken one of class cl -/
def fldE (cl f : Str) (e : Exc) : R PyData := if e.cls = cl then (match e.fs.lookup f with | some x => .ok x | none => .stuck) else .stuck
theorem nx_fldE (cl f : Str) (e x : Exc) : fldE cl f e ≠ .exc x := by
  unfold fldE
  split
  · split <;> (intro h; cases h)
  · intro h; cases h
/-- what the text must say of a class whose exceptions are asked -/
structure XCls (K : PySem.W.Frag) (D : Addr) : Prop where
  hd : PySem.W.hasDictIn K D = true
  hg : PySem.W.findIn K (.ref D) "__getattribute__" = some (some (.builtin "BaseException.__getattribute__"))
  hk : PySem.W.findIn K (.ref D) "__getattr__" = some none
  hs : PySem.W.subIn K (.ref D) (.type "BaseException") = some true
  ha : PySem.W.findIn K (.ref D) "__class__" = some (some (.builtin "object.__class__"))
  hn : PySem.W.specialIn K (.builtin "object.__class__") "__get__" = some (some (.builtin "getset_descriptor.__get__"))
  ht : PySem.W.takesIn K (.builtin "object.__class__") = some true
  hm : PySem.W.mroIn K D (.type "object") = some true
/-- isinstance(e, c) of the one that is taken at a -/
def rIsX (K : PySem.W.Frag) (a : Addr) (cls : Value) (d : Option Addr) : List V → Hp → VK → Prop := fun xs H Q => ∃ (D : Addr) (c : V) (u : Value) (b : Bool), cls = .ref D ∧ XCls K D ∧ (∀ dd, d = some dd → ∃ fs, H dd = some (.xd fs)) ∧ xs = [.ref a, c] ∧ ClsV c u ∧ PySem.W.kitOne K (.ref D) u = some b ∧ Q (.bl b) H
def rIsXT (K : PySem.W.Frag) (a : Addr) (cls : Value) (d : Option Addr) : List V → Hp → VK → Prop := fun xs H Q => ∃ (D tp : Addr) (cs : List V) (us : List Value) (b : Bool), cls = .ref D ∧ XCls K D ∧ (∀ dd, d = some dd → ∃ fs, H dd = some (.xd fs)) ∧ xs = [.ref a, .ref tp] ∧ H tp = some (.tup cs) ∧ Paired ClsV cs us ∧ PySem.W.kitAny K (.ref D) us = some b ∧ Q (.bl b) H
section
variable {X : Cx} {a : Addr} {cls : Value} {d : Option Addr} {oe : Obj} {pn : List (Addr × Obj)}
theorem instX {D : Addr} {pins : List (Addr × Obj)} {s : Shared} {σ : L2.St} {H : Hp} (hz : Zc (.ref D) d oe) (hf : ∃ vs, oe.data = .fields vs) (hd : ∀ dd, d = some dd → ∃ fs, H dd = some (.xd fs)) (I : Inv (X.suite a ((a, oe) :: pn)) pins σ H s) :
    ∃ od, PySem.W.InstAt s.heap a oe D od := by
  obtain ⟨hg, _⟩ := I.pin (a, oe) (List.mem_append_left _ List.mem_cons_self)
  obtain ⟨vs, hv⟩ := hf
  have nc : PySem.W.notCls oe = true := by unfold PySem.W.notCls; rw [hv] <;> rfl
  cases d with
  | none => exact ⟨none, hg, hz.1, nc, by rw [hz.2]; trivial⟩
  | some dd =>
    obtain ⟨fs, e⟩ := hd dd rfl
    obtain ⟨mA, hns, _⟩ := (show ObjOk X.prog X.w H s.heap dd (.xd fs) from I.hok dd _ e)
    obtain ⟨od, ho, _⟩ := lookIn_ns hns
    exact ⟨some od, hg, hz.1, nc, by rw [hz.2]; exact ho⟩
theorem kitX {D : Addr} {od : Option Obj} (C : XCls X.K D) : PySem.W.KitX X.K (.ref a) (.ref D) (fun h => PySem.W.InstAt h a oe D od) :=
  PySem.W.kitx_exc (by obtain ⟨cd, hc, _⟩ := PySem.W.any_some C.hd; rw [hc]; rfl) C.hg C.hk C.hs C.ha C.hn C.ht C.hm
theorem call_isX (hz : Zc cls d oe) (hf : ∃ vs, oe.data = .fields vs) : CallR (X.suite a ((a, oe) :: pn)) (.builtin "isinstance") (rIsX X.K a cls d) := by
  intro pins s σ H xs us Q I r h
  obtain ⟨D, c, u, b, rfl, C, hd, rfl, k, e, q⟩ := h
  obtain ⟨u1, u2, rfl, r1, r2⟩ := vals2 r
  cases (show u1 = Value.ref a from r1)
  have := k.eq r2
  subst this
  obtain ⟨od, J⟩ := instX hz hf hd I
  exact PySem.W.kia_one (kitX C) I.kIn J e (fun z => nomatch z) fun tk => ⟨.bl b, H, I.tok tk, rfl, q⟩
theorem call_isXT (hz : Zc cls d oe) (hf : ∃ vs, oe.data = .fields vs) : CallR (X.suite a ((a, oe) :: pn)) (.builtin "isinstance") (rIsXT X.K a cls d) := by
  intro pins s σ H xs us Q I r h
  obtain ⟨D, tp, cs, ws, b, rfl, C, hd, rfl, hT, k, e, q⟩ := h
  obtain ⟨u1, u2, rfl, r1, r2⟩ := vals2 r
  cases (show u1 = Value.ref a from r1)
  cases (show u2 = Value.ref tp from r2)
  obtain ⟨od, J⟩ := instX hz hf hd I
  obtain ⟨_, its, rv, o, h1, h2, n, h3⟩ := (show ObjOk X.prog X.w H s.heap tp (.tup cs) from I.hok tp _ hT)
  obtain rfl := ClsV.all k rv
  obtain ⟨oc, od2, dt, sl⟩ := o
  dsimp only at h2 h3
  subst h2 h3
  exact PySem.W.kia_tup (kitX C) I.kIn J h1 e (fun z => nomatch z) fun tk => ⟨.bl b, H, I.tok tk, rfl, q⟩
end
section
variable {Γ : Ctx} {β : Type} {m : R β} {env ts : List Sl} {Φ : Sl → List Sl → R β → Prop} {i : Nat} {a D : Addr} {d : Option Addr} {e : Exc}
theorem Rel.exc {K : PySem.W.Frag} {w : Wd} {σ : L2.St} {vs us : List V} {bs : List Sl} (R : Rel K w σ env vs ts us bs) (hi : env[i]? = some (.exc a D d e)) : σ[i]? = some (some (.ref a)) ∧ ExcSh K w.H w.Sh d e := by
  obtain ⟨F, G, B, h1, h2, h3, eO⟩ := R.ex
  obtain ⟨ov, F1, F2, F3, es, hs, _, _⟩ := h1.split hi
  rcases hs with ⟨z, _⟩ | ⟨v, rfl, hs⟩
  · cases z
  · rw [es, hs.2.1]; exact ⟨rfl, hs.2.2⟩
theorem pushB {K : PySem.W.Frag} {w : Wd} {σ : L2.St} {vs us : List V} {bs : List Sl} (R : Rel K w σ env vs ts us bs) (b : Bool) : Rel K w σ env (.bl b :: vs) (.imm (.bool b) :: ts) us bs := R.push0 ⟨rfl, .bl b, trivial⟩
theorem ev_isx {u : Value} {c : V} {b : Bool} (hi : env[i]? = some (.exc a D d e)) (C : XCls Γ.K D) (kc : ClsV c u) (hk : PySem.W.kitOne Γ.K (.ref D) u = some b) (h : Φ (.imm (.bool b)) env m) :
    EV Γ (tCB (rIsX Γ.K a (.ref D) d) (tCons (tVar i) (tCons (tC c) tNil))) env ts m Φ := by
  intro o e1 e2 σ w vs us bs Q R X kk
  obtain ⟨x1, x2⟩ := R.exc hi
  exact ⟨_, x1, D, c, u, b, rfl, C, fun dd z => (x2.1 dd z).2, rfl, kc, hk, kk _ _ _ _ w h e1 (pushB R b) Step.refl⟩
theorem ev_isxT {ta : TA} {cs : List V} {us0 : List Value} {b : Bool} (hi : env[i]? = some (.exc a D d e)) (C : XCls Γ.K D) (ht : ∀ σ H Q, Q cs H → ta σ H Q) (hl : cs.length ≤ 100) (kc : Paired ClsV cs us0) (hk : PySem.W.kitAny Γ.K (.ref D) us0 = some b) (h : Φ (.imm (.bool b)) env m) :
    EV Γ (tCB (rIsXT Γ.K a (.ref D) d) (tCons (tVar i) (tCons (tTupG ta) tNil))) env ts m Φ := by
  intro o e1 e2 σ w vs us bs Q R X kk
  obtain ⟨x1, x2⟩ := R.exc hi
  refine ⟨_, x1, ht _ _ _ ⟨by rw [sizeLine_eq]; omega, fun p H' kp np hp => ⟨D, p, cs, us0, b, rfl, C, fun dd z => ?_, rfl, hp, kc, hk, ?_⟩⟩⟩
  · obtain ⟨fs, y⟩ := (x2.1 dd z).2
    exact ⟨fs, kp.same _ _ (fun z => z) y⟩
  · exact kk _ _ _ _ { w with H := H' } h e1 (pushB (R.non kp) b) (Step.non kp)
theorem ev_xfld {cl f : Str} {C0 : Addr} {kk0 : PyData → R β} (hi : env[i]? = some (.exc a D d e)) (hcl : e.cls = cl → D = C0) (hm : m = (fldE cl f e).bind kk0) (h : ∀ x, Φ (.imm x) env (kk0 x)) :
    EV Γ (tXf a (.ref D) d C0 f (tVar i)) env ts m Φ := by
  intro o e1 e2 σ w vs us bs Q R X kk
  obtain ⟨x1, x2⟩ := R.exc hi
  rw [hm] at e1
  unfold fldE at e1
  by_cases c : e.cls = cl
  · rw [if_pos c] at e1
    cases l : e.fs.lookup f with
    | none => rw [l] at e1; exact absurd e1.symm e2
    | some x =>
      rw [l] at e1
      obtain ⟨dd, fs, v, y1, y2, y3, y4, y5⟩ := x2.2 f x l
      exact ⟨_, x1, rfl, by rw [hcl c], dd, fs, v, y1, y2, y3, kk _ _ _ v w (h x) e1 (R.push0 ⟨rfl, y4, y5⟩) Step.refl⟩
  · rw [if_neg c] at e1
    exact absurd e1.symm e2
end
end
/-! ### calls in a body -/
section
variable {X : Cx} {CX : CXT} {k : Nat} {f : Addr} {fd : FuncData} {ps : List Str} {sp : Sp} {E : L2.St → XK} {x : Str} {p pos : Pos} {e : Expr} {es : List Expr} {t : TA}
theorem pass0S (σ : L2.St) : PassesAt CX0 X σ (E σ) := fun _ _ _ _ _ _ c => False.elim c
theorem runGS {pins : List (Addr × Obj)} {σ : L2.St} {H : Hp} {s : Shared} {Q : VK} {us : List Value} {vs : List V} (F : FnG X.prog X.w X.K X.mg X.base CX k f fd ps sp) (hgd : X.A.guards = some []) (hr : Room k X.A) (hb : Binds X.K fd ps [])
    (hx : PassesAt CX X σ (E σ)) (I : Inv X pins σ H s) (r : Vals vs us) (h : sp vs H Q (E σ)) : wpAny (model X.prog X.w) X.A (call (.ref f) us) (EP X pins σ Q) X.xe s := by
  have sz : us.length = ps.length := r.length.symm.trans (F.sized _ _ _ _ h)
  have b := hb s us I.kIn (by rw [List.append_nil]; exact sz)
  rw [List.append_nil] at b
  refine wpAny_call (codeAny_mono (F.goes X.A X.stack s H ⟨us, []⟩ us vs Q (E σ) hgd hr I.env0 b r h) ?_)
  intro z s' hz
  match z, hz with
  | .error e, hz => exact hx pins H s e s' I hz
  | .ok (.ret u), hz => exact I.after hz
theorem pe_callGS (F : FnG X.prog X.w X.K X.mg X.base CX k f fd ps sp) (hgd : X.A.guards = some []) (hr : Room k X.A) (hg : Gl X x) (hm : X.mg x = some (.ref f)) (hk : PySem.W.keepIn X.K (.ref f) = true) (hb : Binds X.K fd ps []) (hx : ∀ σ, PassesAt CX X σ (E σ))
    (ha : PA X (e :: es) t) (hdb : (x == ("__debug__" : Str)) = false := by decide)
    (he : starEach (e :: es) X.env = (false, eval e X.env) :: starEach es X.env := by rfl) (hpl : (backTo pos (starEach es X.env)).any (·.1) = false := by rfl) : PE X (.Call (.Name x p) (e :: es) [] pos) (tCallS sp E t) := by
  constructor
  intro pins s σ H Q I h
  apply wpAny_Call_Name_kw
  refine ld_glob I hg hm ?_ hdb
  apply PySem.W.callWith_K (h₀ := X.base) I.ok.mod.kin hk _ he hpl
  refine thn (ha.run pos pins s σ H _ I h) ?_
  rintro us s1 ⟨vs, H1, I1, r, q⟩
  exact ⟨I1.kIn, runGS F hgd hr hb (hx σ) I1 r q⟩
end
/-- a def that may raise -/
theorem okGX {P : Program} {w : World} {K : PySem.W.Frag} {mg : Str → Option Value} {base : Heap} {k : Nat} {f : Addr} {fd : FuncData} {ps : List Str} {sp : Sp} {x qual : Str} {st : Stmt} {N : List Str} (F : Fun K x qual st f fd) (S : FnScope N ps (defScope st))
    (sized : ∀ vs H Q E, sp vs H Q E → vs.length = ps.length)
    (body : ∀ (cdv : Value) (A : Around) (out : List Env) (s : Shared) (H : Hp) (vs : List V) (Q : VK) (E : XK), A.guards = some [] → Room k (A.deeper (envOfC qual (defScope st) s.heap.objs.size f cdv)) → sp vs H Q E →
      ∃ t, (Takes (cxOf (L2.CX P w) P w K mg base N qual (defScope st) f cdv A out s H E) (fun c d _ H' => E c d H') → PassesOwn (model P w) (cxOf (L2.CX P w) P w K mg base N qual (defScope st) f cdv A out s H E).A (cxOf (L2.CX P w) P w K mg base N qual (defScope st) f cdv A out s H E).env (cxOf (L2.CX P w) P w K mg base N qual (defScope st) f cdv A out s H E).xe →
        PSs (cxOf (L2.CX P w) P w K mg base N qual (defScope st) f cdv A out s H E) (defBody st) t) ∧ t { nx := fun _ H' => Q .non H', rt := Q } (L2.start N vs) H) : FnG P w K mg base (L2.CX P w) (k + 1) f fd ps sp :=
  okG F S sized fun cdv A out s H vs Q E hgd hr hs => by
    obtain ⟨t, h, q⟩ := body cdv A out s H vs Q E hgd hr hs
    exact ⟨t, h (takes_of rfl rfl rfl rfl) (passes_of rfl), q⟩
theorem kitAnyC {K : PySem.W.Frag} {t c : Value} {r : List Value} {b b' : Bool} (h : PySem.W.kitOne K t c = some b) (h2 : PySem.W.kitAny K t r = some b') : PySem.W.kitAny K t (c :: r) = some (b || b') := by
  unfold PySem.W.kitAny
  rw [h]
  cases b
  · rw [h2]; rfl
  · rfl
theorem kitAnyN {K : PySem.W.Frag} {t : Value} : PySem.W.kitAny K t [] = some false := rfl
/-- both ways of an if come together; what they leave is told behind the test -/
theorem sv_ifk {Γ : Ctx} {β S : Type} {m : R β} {env : List Sl} {tt : TT} {t u : TS} {k : Ks β} (h : TV Γ tt env [] m fun b env1 m1 => ∃ (envOf : S → List Sl) (ma mb : R S) (kk : S → R β), m1 = (R.bind (bif b then ma else mb) kk) ∧
      SV Γ t env1 ma (nowhere fun e m => ∃ s, m = .ok s ∧ Les e (envOf s)) ∧ SV Γ u env1 mb (nowhere fun e m => ∃ s, m = .ok s ∧ Les e (envOf s)) ∧ ∀ s, k.N (envOf s) (kk s)) : SV Γ (tIfS tt t u) env m k := by
  intro o e1 e2 σ w us bs D R X kN kB kC kT
  refine h o e1 e2 σ w [] us bs _ R X fun b env1 m1 w1 ⟨envOf, ma, mb, kk, em, ha, hb, hk⟩ em1 R1 s1 => ?_
  have X1 := X.step s1
  have fin : ∀ (mx : Vl.R S) (tx : TS), mx.bind kk = o → SV Γ tx env1 mx (nowhere fun e m => ∃ s, m = .ok s ∧ Les e (envOf s)) → tx D σ w1.H := by
    intro mx tx emx hx
    refine hx mx rfl (fun z => by rw [z] at emx; exact e2 emx.symm) σ w1 us bs D R1 (fun e he => X1 e (by rw [← emx, he]; rfl)) ?_ (fun _ _ _ _ z => z.elim) (fun _ _ _ _ z => z.elim) (fun _ _ _ _ _ _ z => z.elim)
    rintro env2 m2 σ2 w2 ⟨s, es, l⟩ em2 R2 s2
    obtain ⟨w3, e3, R3, s3⟩ := R2.les l
    rw [← e3]
    exact kN _ _ σ2 w3 (hk s) (by rw [← emx, ← em2, es]; rfl) R3 ((s1.trans s2).trans s3)
  cases b with
  | true => exact fin ma t (by rw [← em1, em]; rfl) ha
  | false => exact fin mb u (by rw [← em1, em]; rfl) hb
/-- classes asked of an instance's class, by what the text says of them -/
theorem kitClsOf {K : PySem.W.Frag} {t : Value} {C : Addr} {b : Bool} (ic : PySem.W.isClsIn K C = true) (ty : PySem.W.typeIn K (.ref C) = some (.type "type")) (s : PySem.W.subIn K t (.ref C) = some b) : PySem.W.kitCls K t (.ref C) = some b := by
  have e : ((PySem.W.clsIn K C).isSome && PySem.W.typeIn K (.ref C) == some (.type "type")) = true := by
    rw [show (PySem.W.clsIn K C).isSome = true from ic, ty]; rfl
  unfold PySem.W.kitCls
  exact (if_pos e).trans s
theorem kitOf {K : PySem.W.Frag} {t : Value} {C : Addr} {b : Bool} (ic : PySem.W.isClsIn K C = true) (ty : PySem.W.typeIn K (.ref C) = some (.type "type")) (s : PySem.W.subIn K t (.ref C) = some b) (rf : PySem.W.subIn K t t = some true) : PySem.W.kitOne K t (.ref C) = some b := by
  unfold PySem.W.kitOne
  by_cases c : (t == .ref C) = true
  · rw [if_pos c]
    have e := beq_iff_eq.mp c
    rw [← e, rf] at s
    exact s
  · rw [if_neg c]
    exact kitClsOf ic ty s
theorem kitOfT {K : PySem.W.Frag} {D : Addr} {T : String} {b : Bool} (hm : PySem.W.kitMeta T = true) (s : PySem.W.subIn K (.ref D) (.type T) = some b) : PySem.W.kitOne K (.ref D) (.type T) = some b := by
  unfold PySem.W.kitOne PySem.W.kitCls
  rw [if_neg (fun c => by have := beq_iff_eq.mp c; cases this)]
  exact (if_pos hm).trans s
theorem exmOf {K : PySem.W.Frag} {t : Value} {C : Addr} {b : Bool} (ic : PySem.W.isClsIn K C = true) (ty : PySem.W.typeIn K (.ref C) = some (.type "type")) (bs : PySem.W.subIn K (.ref C) (.type "BaseException") = some true) (s : PySem.W.subIn K t (.ref C) = some b) : PySem.W.exmOne K t (.ref C) = some b := by
  unfold PySem.W.exmOne
  rw [bs]
  exact (if_pos rfl).trans (kitClsOf ic ty s)
end Vl
/-! Own lists taken apart into names. -/
namespace Vl
open PySem PySem.Spec PyProof.Rows L2 Hw
section
variable {Γ : Ctx} {β : Type} {m : R β} {env env' ts : List Sl} {gs : TGs} {is : List Nat} {Φ : List Sl → R β → Prop}
theorem Rel.pushT {K : PySem.W.Frag} {w : Wd} {σ : L2.St} {vs us : List V} {bs : List Sl} (R : Rel K w σ env vs ts us bs) : ∀ {xs : List V} {ds : List PyData}, TDs K w.H xs ds → szAll ds → Rel K w σ env (xs ++ vs) (ds.map Sl.imm ++ ts) us bs
  | _, _, .nil, _ => R
  | _, _, .cons h t, z => (Rel.pushT R t z.2).push0 ⟨rfl, h, z.1⟩
theorem gv_unl {n : Nat} {ds : List PyData} (hl : ds.length = n) (c : immAll ds = true) (h : GVs Γ gs is (ds.map Sl.imm) env m Φ) : GV Γ (gUnl Γ.K n gs) is (.own (.list ds)) env m Φ := by
  intro o e1 e2 σ w v vs us ts bs Z R X kk
  obtain ⟨F, hs⟩ := R.top
  obtain ⟨ho, hz⟩ := hs
  obtain ⟨w', e', R', st⟩ := Rel.pops (ws := [v]) (rs := [Sl.own (.list ds)]) R rfl
  cases ho with
  | leaf z => cases z
  | lst ha hi2 na =>
    have t := (ownsImm hi2 c).1
    have hln := t.length
    rw [← e'] at t
    refine ⟨_, _, rfl, .inl (.inl ha), hln.trans hl, ?_⟩
    rw [← e']
    exact h o e1 e2 σ w' _ vs us ts bs Z (R'.pushT t hz.2) (by simp [hln]) (X.step st) fun a b s1 w1 x y z s q => kk a b s1 w1 x y z (st.trans s) q
def unpkI2 : List PyData → R (PyData × PyData)
  | [a, b] => if immAll [a, b] = true then .ok (a, b) else .stuck
  | _ => .stuck
def unpkI3 : List PyData → R (PyData × PyData × PyData)
  | [a, b, c] => if immAll [a, b, c] = true then .ok (a, b, c) else .stuck
  | _ => .stuck
theorem unpkI2_eq {a b : PyData} (h : immAll [a, b] = true) : unpkI2 [a, b] = .ok (a, b) := if_pos h
theorem unpkI3_eq {a b c : PyData} (h : immAll [a, b, c] = true) : unpkI3 [a, b, c] = .ok (a, b, c) := if_pos h
theorem gv_unlI2 {ds : List PyData} {kk : PyData × PyData → R β} (hm : m = (unpkI2 ds).bind kk) (h : ∀ p : PyData × PyData, GVs Γ gs is [.imm p.1, .imm p.2] env (kk p) Φ) : GV Γ (gUnl Γ.K 2 gs) is (.own (.list ds)) env m Φ := by
  intro o e1 e2
  match ds, hm with
  | [a, b], hm =>
    by_cases c : immAll [a, b] = true
    · rw [unpkI2_eq c] at hm
      rw [hm] at e1
      exact gv_unl rfl c (h (a, b)) o e1 e2
    · rw [show unpkI2 [a, b] = .stuck from if_neg c] at hm
      rw [hm] at e1
      exact absurd e1.symm e2
  | [], hm => rw [hm] at e1; exact absurd e1.symm e2
  | [_], hm => rw [hm] at e1; exact absurd e1.symm e2
  | _ :: _ :: _ :: _, hm => rw [hm] at e1; exact absurd e1.symm e2
theorem gv_unlI3 {ds : List PyData} {kk : PyData × PyData × PyData → R β} (hm : m = (unpkI3 ds).bind kk) (h : ∀ p : PyData × PyData × PyData, GVs Γ gs is [.imm p.1, .imm p.2.1, .imm p.2.2] env (kk p) Φ) : GV Γ (gUnl Γ.K 3 gs) is (.own (.list ds)) env m Φ := by
  intro o e1 e2
  match ds, hm with
  | [a, b, d], hm =>
    by_cases c : immAll [a, b, d] = true
    · rw [unpkI3_eq c] at hm
      rw [hm] at e1
      exact gv_unl rfl c (h (a, b, d)) o e1 e2
    · rw [show unpkI3 [a, b, d] = .stuck from if_neg c] at hm
      rw [hm] at e1
      exact absurd e1.symm e2
  | [], hm => rw [hm] at e1; exact absurd e1.symm e2
  | [_], hm => rw [hm] at e1; exact absurd e1.symm e2
  | [_, _], hm => rw [hm] at e1; exact absurd e1.symm e2
  | _ :: _ :: _ :: _ :: _, hm => rw [hm] at e1; exact absurd e1.symm e2
/-! list(enumerate(a tuple)) -/
theorem tdsGet {K : PySem.W.Frag} {H : Hp} : ∀ {vs : List V} {ds : List PyData}, vs.length = ds.length → (∀ (i : Nat) (v : V) (d : PyData), vs[i]? = some v → ds[i]? = some d → TD K H v d) → TDs K H vs ds
  | [], [], _, _ => .nil
  | v :: vs, d :: ds, l, h => .cons (h 0 v d rfl rfl) (tdsGet (by simpa using l) fun i v d a b => h (i + 1) v d (by simpa using a) (by simpa using b))
  | [], _ :: _, l, _ => by cases l
  | _ :: _, [], l, _ => by cases l
theorem newLEn {K : PySem.W.Frag} {H1 H2 : Hp} {p : Addr} {Ts : List Addr} {xs : List V} {ds : List PyData} (L : LaidEn H1 H2 p Ts xs) (t : TDs K H1 xs ds) (z : szD (.tuple ds)) : NewL K H1 H2 (.ref p) (enumD ds) := by
  have tl := t.length
  refine ⟨p, Ts.map V.ref, rfl, L.fresh, L.lst, tdsGet (by rw [List.length_map, enumLen, L.len, tl]) fun i v d e1 e2 => ?_, by rw [enumLen]; exact z.1, szAll_iff.mpr fun d hd => ?_⟩
  · obtain ⟨x, e3, rfl⟩ := enumAt e2
    rw [List.getElem?_map] at e1
    obtain ⟨T, e4, rfl⟩ := Option.map_eq_some_iff.mp e1
    have hi : i < xs.length := by rw [tl]; exact (List.getElem?_eq_some_iff.mp e3).1
    have hx := List.getElem?_eq_getElem hi
    refine .tup (.inl (.inl (L.pair i T _ e4 hx))) (.cons (.int _) (.cons ?_ .nil))
    exact (TDs.getD' t hx e3).kp L.kp
  · obtain ⟨i, hi, rfl⟩ := List.mem_iff_getElem.mp hd
    obtain ⟨x, e3, e4⟩ := enumAt (List.getElem?_eq_getElem hi)
    rw [e4]
    exact ⟨two_le, trivial, szAll_iff.mp z.2 x (List.mem_of_getElem? e3), trivial⟩
theorem ev_lstEn {ta : TA} {Ψ : Sl → List Sl → R β → Prop} (h : EA Γ ta env ts m fun rs env1 m1 => ∃ d kk, rs = [.imm d] ∧ m1 = (itemsT d).bind kk ∧ ∀ ds, Ψ (.own (.list (enumD ds))) env1 (kk ds)) : EV Γ (tLstEn Γ.K ta) env ts m Ψ := by
  intro o e1 e2 σ w vs us bs Q R X kz
  refine h o e1 e2 σ w vs us bs _ R X fun rs env1 m1 ws w1 ⟨d, kk, er, em, hk⟩ em1 R1 el s1 => ?_
  subst er
  match ws, el, R1 with
  | [x], _, R1 =>
    have R1 : Rel Γ.K w1 σ env1 (x :: vs) (.imm d :: ts) us bs := R1
    match d, em, R1 with
    | .tuple ds, em, R1 =>
      obtain ⟨ht, hz⟩ := R1.td
      obtain ⟨a, xs, rfl, h1, h2⟩ := ht.ref
      refine ⟨a, xs, rfl, h1, fun p Ts H2 L => ?_⟩
      obtain ⟨w2, e2', R2, s2⟩ := Rel.res (ws := [V.ref a]) (rs := [Sl.imm (.tuple ds)]) R1 rfl L.kp (newLEn L h2 hz).res
      rw [← e2']
      exact kz _ env1 _ _ w2 (hk ds) (by rw [← em1, em]; rfl) R2 (s1.trans s2)
    | .none, em, _ => rw [em] at em1; exact absurd em1.symm e2
    | .bool _, em, _ => rw [em] at em1; exact absurd em1.symm e2
    | .int _, em, _ => rw [em] at em1; exact absurd em1.symm e2
    | .str _, em, _ => rw [em] at em1; exact absurd em1.symm e2
    | .list _, em, _ => rw [em] at em1; exact absurd em1.symm e2
    | .dict _, em, _ => rw [em] at em1; exact absurd em1.symm e2
/-! list(range(..)) -/
theorem newLRg {K : PySem.W.Frag} {H : Hp} {q : Addr} {i j : Int} (n : H q = none) (c : rngOk i j) : NewL K H (upd H q (.lst (rgV i j))) (.ref q) (rgD i (j - i).toNat) := by
  have l : (rgD i (j - i).toNat).length = (j - i).toNat := by unfold rgD; rw [List.length_map, List.length_range]
  refine ⟨q, rgV i j, rfl, n, upd_same, tdsGet (by rw [rgV_length, l]) fun k v d e1 e2 => ?_, by rw [l]; exact c.2.2.2.2, szAll_iff.mpr fun d hd => ?_⟩
  · have hk : k < (j - i).toNat := by rw [← l]; exact (List.getElem?_eq_some_iff.mp e2).1
    unfold rgV at e1
    unfold rgD at e2
    rw [List.getElem?_map, List.getElem?_range hk] at e1 e2
    cases e1
    cases e2
    exact .int _
  · obtain ⟨k, _, rfl⟩ := List.mem_map.mp hd
    trivial
theorem ev_lstRg1 {te : TE} {Ψ : Sl → List Sl → R β → Prop} (h : EV Γ te env ts m fun r env1 m1 => ∃ d kk, r = .imm d ∧ m1 = (range1 d).bind kk ∧ ∀ ds, Ψ (.own (.list ds)) env1 (kk ds)) : EV Γ (tLstRg (tRg1 te)) env ts m Ψ := by
  intro o e1 e2 σ w vs us bs Q R X kz
  refine h o e1 e2 σ w vs us bs _ R X fun r env1 m1 x w1 ⟨d, kk, er, em, hk⟩ em1 R1 s1 => ?_
  subst er
  obtain ⟨i, j, ei, rfl, c, eo⟩ := range2_int (em ▸ em1) e2
  cases ei
  obtain rfl := R1.td.1.toInt
  obtain ⟨c1, c2, c3, c4, c5⟩ := id c
  refine ⟨j, rfl, ⟨by omega, by omega, by omega, by omega, by rw [sizeLine_eq] at c5; omega⟩, fun q nq => ?_⟩
  obtain ⟨w2, e2', R2, s2⟩ := Rel.res (ws := [V.int j]) (rs := [Sl.imm (.int j)]) R1 rfl (Kp.new nq) (newLRg (K := Γ.K) nq c).res
  rw [← e2']
  exact kz _ env1 _ _ w2 (hk _) eo R2 (s1.trans s2)
theorem ev_lstRg2 {te tu : TE} {Ψ : Sl → List Sl → R β → Prop} (h : EV Γ te env ts m fun r1 env1 m1 => EV Γ tu env1 (r1 :: ts) m1 fun r2 env2 m2 => ∃ d e kk, r1 = .imm d ∧ r2 = .imm e ∧ m2 = (range2 d e).bind kk ∧ ∀ ds, Ψ (.own (.list ds)) env2 (kk ds)) : EV Γ (tLstRg (tRg2 te tu)) env ts m Ψ := by
  intro o e1 e2 σ w vs us bs Q R X kz
  refine h o e1 e2 σ w vs us bs _ R X fun r1 env1 m1 x w1 h1 em1 R1 s1 => ?_
  refine h1 o em1 e2 σ w1 (x :: vs) us bs _ R1 (X.step s1) fun r2 env2 m2 y w2 ⟨d, e, kk, er1, er2, em, hk⟩ em2 R2 s2 => ?_
  subst er1 er2
  obtain ⟨i, j, rfl, rfl, c, eo⟩ := range2_int (em ▸ em2) e2
  obtain ⟨F1, t1⟩ := Rel.top (v := y) (vs := x :: vs) (ts := .imm (.int i) :: ts) R2
  obtain ⟨F2, t2⟩ := Rel.under (v1 := y) (v := x) (vs := vs) (ts := ts) R2
  have ex := t2.2.1.toInt
  have ey := t1.2.1.toInt
  subst ex ey
  obtain ⟨c1, c2, c3, c4, c5⟩ := id c
  refine ⟨i, j, rfl, rfl, ⟨by omega, by omega, by omega, by omega, by rw [sizeLine_eq] at c5; omega⟩, fun q nq => ?_⟩
  obtain ⟨w3, e3', R3, s3⟩ := Rel.res (ws := [V.int j, V.int i]) (rs := [Sl.imm (.int j), Sl.imm (.int i)]) R2 rfl (Kp.new nq) (newLRg (K := Γ.K) nq c).res
  rw [← e3']
  exact kz _ env2 _ _ w3 (hk _) eo R3 ((s1.trans s2).trans s3)
end
end Vl
/-! A comprehension over enumerate of an own list that stays one's own. -/
namespace Vl
open PySem PySem.Spec PyProof.Rows L2 Hw
section
variable {Γ : Ctx} {β : Type} {m : R β} {env env' ts : List Sl} {te : TE} {ta : TA} {tt : TT} {t tb : TS} {i j : Nat} {g : TG} {is : List Nat} {k : Ks β} {wi : TI} {Φ : Sl → List Sl → R β → Prop}
theorem Rel.unbase1 {K : PySem.W.Frag} {w : Wd} {σ : L2.St} {vs us : List V} {bs : List Sl} {v : V} {r : Sl} (R : Rel K w σ env vs ts (v :: us) (r :: bs)) : ∃ w', w'.H = w.H ∧ Rel K w' σ env (v :: vs) (r :: ts) us bs ∧ Step w w' := by
  obtain ⟨F, G, B, h1, h2, h3, e⟩ := R.ex
  cases h3 with
  | cons hh h3 =>
    rename_i Fd B'
    have p : List.Perm w.O (F ++ ((Fd ++ G) ++ B')) := by
      rw [e]
      refine List.perm_iff_count.mpr fun a => ?_
      simp only [List.count_append]
      omega
    have klb : bs.map kill = bs := by
      have := R.kl
      simp only [List.map_cons, List.cons.injEq] at this
      exact this.2
    exact ⟨⟨w.H, w.Sh, F ++ ((Fd ++ G) ++ B')⟩, rfl, ⟨⟨F, Fd ++ G, B', h1, .cons hh h2, h3, rfl⟩, p.nodup_iff.mp R.nd, fun a ha => R.out a (p.mem_iff.mpr ha), R.lv, klb⟩, ⟨Kp.refl, fun a ha => .inl (p.mem_iff.mpr ha), fun _ z => z, fun _ z => .inl z⟩⟩
theorem Rel.moveTop {K : PySem.W.Frag} {w : Wd} {σ : L2.St} {vs us : List V} {bs : List Sl} {d : PyData} (R : Rel K w σ env vs ts us bs) (e : env[i]? = some (.own d)) : ∃ v w', σ[i]? = some (some v) ∧ w'.H = w.H ∧ Rel K w' σ (env.set i .no) (v :: vs) (.own d :: ts) us bs ∧ Step w w' := by
  obtain ⟨F, G, B, h1, h2, h3, eO⟩ := R.ex
  obtain ⟨ov, F1, F2, F3, es, hs, eF, go⟩ := h1.split e
  rcases hs with ⟨z, _⟩ | ⟨v, rfl, hs⟩
  · cases z
  · have s1 := go (some v) .no [] (Tr.non (Sh := w.Sh) Kp.refl) (.inl ⟨rfl, rfl⟩)
    rw [mapId, setSome es] at s1
    have p : List.Perm w.O ((F1 ++ ([] ++ F3)) ++ ((F2 ++ G) ++ B)) := by
      rw [eO, eF]
      refine List.perm_iff_count.mpr fun a => ?_
      simp only [List.count_append, List.count_nil]
      omega
    exact ⟨v, ⟨w.H, w.Sh, (F1 ++ ([] ++ F3)) ++ ((F2 ++ G) ++ B)⟩, es, rfl, ⟨⟨_, F2 ++ G, B, s1, .cons hs h2, h3, rfl⟩, p.nodup_iff.mp R.nd, fun a ha => R.out a (p.mem_iff.mpr ha), R.lv, R.kl⟩, ⟨Kp.refl, fun a ha => .inl (p.mem_iff.mpr ha), fun _ z => z, fun _ z => .inl z⟩⟩
theorem walkEnL {K : PySem.W.Frag} {a : Addr} {xs : List V} {ds : List PyData} (hl : xs.length = ds.length) (hz : ds.length ≤ sizeLine) (c : immAll ds = true) : WalkOn K (Ite K a) [V.ref a] [.itL a xs ds] (enumD ds) .imm := by
  refine ⟨⟨fun H => SqL K H a xs, _, by rw [enumLen, ← hl]; exact walk_enum, fun H Sh F h => ?_, fun i d H Sh F y H' ed ht2 lv yy => ?_⟩, rfl, rfl, by rw [enumLen]; exact hz⟩
  · obtain ⟨_, _, h1, _⟩ := h.one
    exact .inl (.inl h1)
  · obtain ⟨T, y1, y2, rfl, nT, rfl, q1, q2⟩ := yy
    cases q1
    obtain ⟨x2, ex2, rfl⟩ := enumAt ed
    obtain ⟨_, _, h1, h2, _, g3⟩ := ht2.one
    have g2 : DpAll K H xs ds := (h2.shds (Sh := fun _ => True) fun _ _ => trivial).dp
    have kp := Kp.new (S := Non) (o := .tup [V.int (i : Int), y2]) nT
    exact ⟨kp, rfl, .tup (.of upd_same) (.cons (.int _) (.cons ((TDs.getD' (dpsImm g2 c) q2 ex2).kp kp) .nil)), two_le, trivial, szAt g3 ex2, trivial⟩
theorem ev_lcB {S : Type} {vs : List Nat} {ds0 : List PyData} (hj : env[j]? = some (.own (.list ds0))) (envOf : S → List Sl) (hno : ∀ s, ∀ i ∈ vs, ∀ r, (envOf s)[i]? = some r → r = .no) (hkl : ∀ s, (envOf s).map kill = envOf s) (hjn : ∀ s, (envOf s)[j]? = some .no) (his : ∀ i ∈ is, i ∈ vs) (ktl : ts.map kill = ts)
    (h : ∃ (s0 : S) (body : PyData → S → R (Option PyData × S)) (kk : List PyData × S → R β), m = (itemsI ds0).bind (fun ds0 => (lcR (enumD ds0) s0 body).bind kk) ∧ Les (env.set j .no) (envOf s0) ∧
      (∀ d s, d ∈ enumD ds0 → GV Γ g is (.imm d) (envOf s) (body d s) fun env2 m2 => TV Γ tt env2 ts m2 fun b env3 m3 => ∃ ma mb, m3 = (bif b then ma else mb) ∧
        (b = true → EV Γ te env3 ts ma fun r env4 m4 => ∃ s y, m4 = .ok (some y, s) ∧ OwnOf r y ∧ Les env4 (envOf s)) ∧ (b = false → ∃ s, mb = .ok (Option.none, s) ∧ Les env3 (envOf s))) ∧
      ∀ p, Φ (.own (.list p.1)) ((envOf p.2).set j (.own (.list ds0))) (kk p)) : EV Γ (tLc (iEnum Γ.K (tCons (tVar j) tNil)) g tt te vs) env ts m Φ := by
  intro o e1 e2 σ w vs0 us bs Q R X kz
  obtain ⟨s0, body, kk, em0, l0, hb, hk⟩ := h
  have c : immAll ds0 = true := by
    by_cases c : immAll ds0 = true
    · exact c
    · rw [em0, show itemsI ds0 = .stuck from if_neg c] at e1
      exact absurd e1.symm e2
  have em1 : (lcR (enumD ds0) s0 body).bind kk = o := by
    rw [em0, itemsI_eq c] at e1
    exact e1
  obtain ⟨v, w0, es, e0, R0, st0⟩ := R.moveTop hj
  obtain ⟨F0, ho, hz⟩ := R0.top
  cases ho with
  | leaf z => cases z
  | @lst a xs0 _ Fi ha hi na =>
  obtain ⟨w1, e1', R1, s1⟩ := R0.toIt (r' := .itL a xs0 ds0) rfl fun F2 hF2 => by
    obtain ⟨h, hz⟩ := hF2
    cases h with
    | leaf z => cases z
    | lst ha2 hi2 na2 =>
      rw [ha] at ha2
      cases ha2
      exact ⟨_, rfl, ha, hi2, na2, hz.2⟩
  have W := walkEnL (K := Γ.K) (a := a) (ownsLen hi) hz.1 c
  have st1 : Step w w1 := st0.trans s1
  have eH : w1.H = w.H := e1'.trans e0
  have R1 : Rel Γ.K w1 σ (env.set j .no) vs0 ts ([V.ref a] ++ us) ([.itL a xs0 ds0] ++ bs) := R1
  refine ⟨V.ref a, es, a, xs0, rfl, .inl (.inl (by rw [← e0]; exact ha)), ?_⟩
  rw [← eH]
  generalize hws : [V.ref a] = ws at W R1
  generalize hrs : [Sl.itL a xs0 ds0] = rs at W R1
  generalize hds : enumD ds0 = ds at W em1 hb
  obtain ⟨Gh, Y, wk, wG, wY⟩ := W.ex
  intro D nD
  -- the list so far, xs and its data; wiped slots
  let Pv : Nat → Hp → Prop := fun i H2 => ∃ w2 s acc xs, w2.H = H2 ∧ H2 D = some (.lst xs) ∧ Rel Γ.K w2 σ (envOf s) vs0 ts (.ref D :: (ws ++ us)) (.own (.list acc) :: (rs ++ bs)) ∧ Step w1 w2 ∧ acc.length ≤ i ∧ ((lcR (ds.drop i) s body).bind fun q => .ok (acc ++ q.1, q.2)).bind kk = o
  refine lc_it wk Pv ?_ ?_ ?_ ?_
  · obtain ⟨w2, e3, R2, st2⟩ := R1.les l0
    have nD2 : w2.H D = none := by rw [e3]; exact nD
    obtain ⟨w3, e4, R3, st3⟩ := Rel.res (ws := []) (rs := []) (v := .ref D) (r := .own (.list [])) R2 rfl (Kp.new (o := .lst []) nD2) (.own (F := [D]) (.lst upd_same .nil (by simp)) (fun a ha => by rw [List.mem_singleton.mp ha]; exact nD2) ⟨Nat.zero_le _, trivial⟩)
    obtain ⟨w4, e5, R4, st4⟩ := Rel.base (ws := [.ref D]) (rs := [.own (.list [])]) R3 rfl rfl
    refine ⟨w4, s0, [], [], by rw [e5, e4, e3], upd_same, R4, (st2.trans st3).trans st4, Nat.zero_le _, ?_⟩
    rw [List.drop_zero, ← em1]
    cases lcR ds s0 body <;> rfl
  · rintro i H2 _ ⟨w2, s, acc, xs, rfl, _, R2, _⟩
    obtain ⟨A, ha⟩ := Rel.under1 (ws := V.ref D :: ws) (rs := .own (.list acc) :: rs) (us := us) (bs := bs) R2 (by simp [W.le])
    cases ha with
    | cons _ ha => exact wG _ _ _ ha
  · rintro i x H2 H3 hi ⟨w2, s, acc, xs, rfl, hD, R2, st2, hac, eo⟩ y
    obtain ⟨A, ha⟩ := Rel.under1 (ws := V.ref D :: ws) (rs := .own (.list acc) :: rs) (us := us) (bs := bs) R2 (by simp [W.le])
    cases ha with
    | cons hDr ha =>
    have xl : xs.length = acc.length ∧ szAll acc := by
      obtain ⟨q1, q2⟩ := hDr
      cases q1 with
      | leaf z => cases z
      | lst z1 z2 _ =>
        rw [hD] at z1
        cases z1
        refine ⟨?_, q2.2⟩
        have dl : ∀ {xs : List V} {ds : List PyData} {F : List Addr}, Owns Γ.K w2.H xs ds F → xs.length = ds.length := by
          intro xs
          induction xs with
          | nil => intro ds F h; cases h; rfl
          | cons x xs ih => intro ds F h; cases h with
            | cons h q _ => simp [ih q]
        exact dl z2
    have ed : ds[i]? = some ds[i] := List.getElem?_eq_getElem hi
    obtain ⟨kp, sr⟩ := wY i _ _ _ _ _ _ ed ha R2.lv y
    rw [List.drop_eq_getElem_cons hi] at eo
    have hD3 : H3 D = some (.lst xs) := kp.same _ _ (fun z => z) hD
    have R2w : Rel Γ.K w2 (wipe σ vs) (envOf s) vs0 ts (.ref D :: (ws ++ us)) (.own (.list acc) :: (rs ++ bs)) := by
      obtain ⟨F, G, B, h1, h2, h3, e⟩ := R2.ex
      exact ⟨⟨F, G, B, h1.wipe (hno s), h2, h3, e⟩, R2.nd, R2.out, R2.lv, R2.kl⟩
    have R3 := (R2w.non kp).push0 sr
    have s3 : Step w2 { w2 with H := H3 } := Step.non kp
    have X3 := X.step ((st1.trans st2).trans s3)
    generalize hbd : body ds[i] s = ob at *
    have eo2 : ((ob.bind fun p => (lcR (ds.drop (i + 1)) p.2 body).bind fun q => .ok (p.1.toList ++ q.1, q.2)).bind fun q => .ok (acc ++ q.1, q.2)).bind kk = o := by
      rw [← eo, ← hbd]; rfl
    have Xb : XOk Γ ob { w2 with H := H3 } (.ref D :: (ws ++ us)) (.own (.list acc) :: (rs ++ bs)) := fun e he => (X3.lay (ws := .ref D :: ws) (rs := .own (.list acc) :: rs) (congrArg (· + 1) W.le)) e (by rw [← eo2, he]; rfl)
    have nb : ob ≠ .stuck := fun z => by rw [z] at eo2; exact e2 eo2.symm
    -- D stands apart from all that may be written
    have keepD : ∀ (wa : Wd), Step { w2 with H := H3 } wa → True := fun _ _ => trivial
    refine hb ds[i] s (List.getElem_mem hi) ob hbd nb (wipe σ vs) { w2 with H := H3 } x vs0 (.ref D :: (ws ++ us)) ts (.own (.list acc) :: (rs ++ bs)) _ R3 Xb fun env2 m2 σ3 w3 h2 em2 R4 s4 q4 => ?_
    refine ⟨(q4 vs his).trans (by refine List.ext_getElem? fun n => ?_; simp only [wipeGet, wipe_length]; split <;> rfl), ?_⟩
    have wσ : wipe σ3 vs = wipe σ vs := (q4 vs his).trans (by refine List.ext_getElem? fun n => ?_; simp only [wipeGet, wipe_length]; split <;> rfl)
    refine h2 ob em2 nb σ3 w3 vs0 (.ref D :: (ws ++ us)) (.own (.list acc) :: (rs ++ bs)) _ R4 (Xb.step s4) fun b env3 m3 w5 ⟨ma, mb, em3, ha3, hb3⟩ em4 R5 s5 => ?_
    have bas := ((st2.trans s3).trans s4).trans s5
    have back : ∀ {wz : Wd} {e : List Sl} {s' : S} {acc' : List PyData}, Rel Γ.K wz σ3 e vs0 ts (.ref D :: (ws ++ us)) (.own (.list acc') :: (rs ++ bs)) → Les e (envOf s') → ∃ wy, wy.H = wz.H ∧ Rel Γ.K wy σ (envOf s') vs0 ts (.ref D :: (ws ++ us)) (.own (.list acc') :: (rs ++ bs)) ∧ Step wz wy := by
      intro wz e s' acc' Rz l
      obtain ⟨wy, ey, Ry, sy⟩ := Rz.les l
      refine ⟨wy, ey, ?_, sy⟩
      obtain ⟨F, G, B, h1, h2, h3, e⟩ := Ry.ex
      have h1' := h1.wipe (hno s')
      rw [wσ] at h1'
      exact ⟨⟨F, G, B, h1'.unwipe (hno s'), h2, h3, e⟩, Ry.nd, Ry.out, Ry.lv, Ry.kl⟩
    have hDof : ∀ {wz : Wd} {σz : L2.St} {e : List Sl} {tz : List Sl} {vz : List V} {acc' : List PyData}, Rel Γ.K wz σz e vz tz (.ref D :: (ws ++ us)) (.own (.list acc') :: (rs ++ bs)) → ∃ zs, wz.H D = some (.lst zs) ∧ zs.length = acc'.length := by
      intro wz σz e tz vz acc' Rz
      obtain ⟨A, ha⟩ := Rel.under1 (ws := V.ref D :: ws) (rs := .own (.list acc') :: rs) (us := us) (bs := bs) Rz (by simp [W.le])
      cases ha with
      | cons hh _ =>
        obtain ⟨q1, q2⟩ := hh
        cases q1 with
        | leaf z => cases z
        | lst z1 z2 _ =>
          have dl : ∀ {xs : List V} {ds : List PyData} {F : List Addr}, Owns Γ.K wz.H xs ds F → xs.length = ds.length := by
            intro xs
            induction xs with
            | nil => intro ds F h; cases h; rfl
            | cons x xs ih => intro ds F h; cases h with
              | cons h q _ => simp [ih q]
          exact ⟨_, z1, dl z2⟩
    cases b with
    | false =>
      rw [if_neg (by decide)]
      obtain ⟨s', es, l⟩ := hb3 rfl
      obtain ⟨wy, ey, Ry, sy⟩ := back R5 l
      obtain ⟨zs, hz, _⟩ := hDof Ry
      refine ⟨wy, s', acc, zs, ey, by rw [← ey]; exact hz, Ry, bas.trans sy, by omega, ?_⟩
      have : ob = .ok (none, s') := by rw [← em4, em3, ← es]; rfl
      rw [← eo2, this]
      simp only [Vl.R.bind_ok]
      cases lcR (ds.drop (i + 1)) s' body <;> rfl
    | true =>
      rw [if_pos rfl]
      refine ha3 rfl ob (by rw [← em4, em3]; rfl) nb σ3 w5 vs0 (.ref D :: (ws ++ us)) (.own (.list acc) :: (rs ++ bs)) _ R5 ((Xb.step s4).step s5) fun r env4 m4 v w6 ⟨s', y2, es, ho, l⟩ em5 R6 s6 => ?_
      obtain ⟨zs, hz, hzl⟩ := hDof R6
      have hsz := W.sz
      have hsl : acc.length < sizeLine := by omega
      refine ⟨zs, hz, by omega, ?_⟩
      -- first the slots, then the list
      obtain ⟨w7, e7, R7, s7⟩ := R6.les l
      have R7w : Rel Γ.K w7 σ (envOf s') (v :: vs0) (r :: ts) (.ref D :: (ws ++ us)) (.own (.list acc) :: (rs ++ bs)) := by
        obtain ⟨F, G, B, h1, h2, h3, e⟩ := R7.ex
        have h1' := h1.wipe (hno s')
        rw [wσ] at h1'
        exact ⟨⟨F, G, B, h1'.unwipe (hno s'), h2, h3, e⟩, R7.nd, R7.out, R7.lv, R7.kl⟩
      obtain ⟨w8, e8, R8, s8⟩ := R7w.grow ho (by rw [e7]; exact hz) hsl ktl (hkl s')
      refine ⟨w8, s', acc ++ [y2], zs ++ [v], by rw [e8, e7], upd_same, R8, ((bas.trans s6).trans s7).trans s8, by rw [List.length_append]; simp; omega, ?_⟩
      rw [← eo2, ← em5, es]
      simp only [Vl.R.bind_ok]
      cases lcR (ds.drop (i + 1)) s' body with
      | ok q => simp
      | exc e => rfl
      | stuck => rfl
  · rintro H2 ⟨w2, s, acc, xs, rfl, hD, R2, st2, hac, eo⟩
    rw [List.drop_of_length_le (Nat.le_refl _)] at eo
    obtain ⟨w3, e3, R3, s3⟩ := R2.unbase1
    subst hws hrs
    obtain ⟨w4, e4, R4, s4⟩ := Rel.unbase1 (v := V.ref a) (r := .itL a xs0 ds0) (us := us) (bs := bs) R3
    have R5 : Rel Γ.K w4 σ (envOf s) (V.ref a :: .ref D :: vs0) (.own (.list ds0) :: .own (.list acc) :: ts) us bs := by
      obtain ⟨F, G, B, h1, h2, h3, e⟩ := R4.ex
      cases h2 with
      | cons hh h2 =>
        obtain ⟨Fi2, rfl, q1, q2, q3, q4⟩ := hh
        exact ⟨⟨F, _, B, h1, .cons ⟨.lst q1 q2 q3, hz.1, q4⟩ h2, h3, e⟩, R4.nd, R4.out, R4.lv, R4.kl⟩
    obtain ⟨w5, e5, R6, s5⟩ := R5.store (hjn s)
    rw [setSome es] at R6
    rw [← e3, ← e4, ← e5]
    refine kz _ _ _ _ w5 (hk (acc, s)) ?_ R6 ((((st1.trans st2).trans s3).trans s4).trans s5)
    rw [← eo]
    simp [lcR]
theorem ev_mapB {vs : List Nat} {ds0 : List PyData} (hj : env[j]? = some (.own (.list ds0))) (envC : List Sl) (hno : HNo envC vs) (hkl : envC.map kill = envC) (hjn : envC[j]? = some .no) (his : ∀ i ∈ is, i ∈ vs) (ktl : ts.map kill = ts)
    (h : ∃ (body : PyData → R PyData) (kk : List PyData → R β), m = (itemsI ds0).bind (fun ds => (mapR (enumD ds) body).bind kk) ∧ Les (env.set j .no) envC ∧
      (∀ d, d ∈ enumD ds0 → GV Γ g is (.imm d) envC (body d) fun env2 m2 => EV Γ te env2 ts m2 fun r env4 m4 => ∃ y, m4 = .ok y ∧ OwnOf r y ∧ Les env4 envC) ∧ ∀ l, Φ (.own (.list l)) (envC.set j (.own (.list ds0))) (kk l)) : EV Γ (tLc (iEnum Γ.K (tCons (tVar j) tNil)) g tYes te vs) env ts m Φ := by
  obtain ⟨body, kk, em, l0, hb, hk⟩ := h
  refine ev_lcB (S := Unit) (is := is) hj (fun _ => envC) (fun _ => hno) (fun _ => hkl) (fun _ => hjn) his ktl ⟨(), fun x _ => (body x).bind fun y => .ok (some y, ()), fun q => kk q.1, ?_, l0, fun d s hd => ?_, fun p => hk p.1⟩
  · rw [em]
    refine congrArg _ (funext fun ds => ?_)
    rw [mapR_lc, Vl.R.bind_assoc]; rfl
  · refine gv_bind (hb d hd) rfl fun e2 m2 h2 => ?_
    intro o2 f1 f2 σ2 w2 vs2 us2 bs2 Q2 R2 X2 k2
    refine k2 true e2 _ w2 ⟨_, .ok (none, ()), rfl, fun _ => ?_, fun z => nomatch z⟩ f1 R2 Step.refl
    intro o3 g1 g2 σ3 w3 vs3 us3 bs3 Q3 R3 X3 k3
    have nb : m2 ≠ .stuck := fun z => g2 (g1.symm.trans (by rw [z]))
    refine h2 m2 rfl nb σ3 w3 vs3 us3 bs3 _ R3 (fun e he => X3 e (g1.symm.trans (by rw [he]))) fun r4 e4 m4 v4 w4 ⟨y, hy, ho, l⟩ em4 R4 s4 => ?_
    exact k3 r4 e4 _ v4 w4 ⟨(), y, rfl, ho, l⟩ (g1.symm.trans (by rw [← em4, hy])).symm R4 s4
end
end Vl
/-! An item of a tuple or a list that a def is handed as either. -/
namespace Vl
open PySem PySem.Spec PyProof.Rows L2 Hw
def ixS (d e : PyData) : R PyData := match d with
  | .list ds => ixV (.list ds) e
  | d => if immD d = true then ixV d e else .stuck
theorem ixS_l (ds : List PyData) (e : PyData) : ixS (.list ds) e = ixV (.list ds) e := rfl
theorem ixS_t {ds : List PyData} {e : PyData} (h : immAll ds = true) : ixS (.tuple ds) e = ixV (.tuple ds) e := by
  unfold ixS
  exact if_pos h
theorem ixS_ok {d e z : PyData} (h : ixS d e = .ok z) : ixV d e = .ok z ∧ (immD d = true ∨ ∃ ds, d = .list ds) := by
  unfold ixS at h
  split at h
  · exact ⟨h, .inr ⟨_, rfl⟩⟩
  · split at h
    · rename_i c
      exact ⟨h, .inl c⟩
    · cases h
theorem nx_ixS (d e : PyData) (x : Exc) : ixS d e ≠ .exc x := by
  unfold ixS
  split
  · exact nx_ixV _ _ x
  · split
    · exact nx_ixV _ _ x
    · intro h; cases h
theorem opS_ixS {K : PySem.W.Frag} {r : Sl} {d e : PyData} (hd : SlD r d) : OpS K (rIxV K) r (.imm e) (ixS d e) .imm := by
  intro H Sh x y F1 F2 a Q s1 s2 hg kk
  obtain ⟨p1, p2⟩ := s1.dp hd
  obtain ⟨g1, g2⟩ := ixS_ok hg
  exact ⟨d, e, a, p1, s2.2.1, p2, g1, g2, fun v ht hz => kk v H Kp.refl (.imm ht hz)⟩
/-! ### a tuple turned round -/
def revV : PyData → R PyData
  | .tuple ds => .ok (.tuple ds.reverse)
  | _ => .stuck
@[simp] theorem revV_t (ds : List PyData) : revV (.tuple ds) = .ok (.tuple ds.reverse) := rfl
section
variable {Γ : Ctx} {β : Type} {m : R β} {env env' ts : List Sl} {te : TE} {ta : TA} {Φ : Sl → List Sl → R β → Prop} {Ψ : List PyData → (PyData → Sl) → List Sl → R β → Prop}
theorem ev_rev (h : EV Γ te env ts m fun r env1 m1 => ∃ d kk, r = .imm d ∧ m1 = (revV d).bind kk ∧ ∀ z, Φ (.imm z) env1 (kk z)) : EV Γ (tRevT Γ.K te) env ts m Φ := by
  intro o e1 e2 σ w vs us bs Q R X kz
  refine h o e1 e2 σ w vs us bs _ R X fun r env1 m1 x w1 ⟨d, kk, er, em, hk⟩ em1 R1 s1 => ?_
  subst er
  obtain ⟨ht, hz⟩ := R1.td
  match d, em, ht, hz, R1 with
  | .tuple ds, em, ht, hz, R1 =>
    obtain ⟨a, xs, rfl, h1, h2⟩ := ht.ref
    refine ⟨a, xs, rfl, h1, fun p H' kp hp => ?_⟩
    have hz' : szD (.tuple ds.reverse) := ⟨by rw [List.length_reverse]; exact hz.1, szAll_iff.mpr fun d hd => szAll_iff.mp hz.2 d (List.mem_reverse.mp hd)⟩
    obtain ⟨w', rfl, R', st⟩ := Rel.res (ws := [V.ref a]) (rs := [.imm (.tuple ds)]) R1 rfl kp (.imm (v := V.ref p) (.tup hp (TDs.reverse (h2.kp kp))) hz')
    exact kz _ env1 _ _ w' (hk _) (by rw [← em1, em]; rfl) R' (s1.trans st)
  | .none, em, _, _, _ => rw [em] at em1; exact absurd em1.symm e2
  | .bool _, em, _, _, _ => rw [em] at em1; exact absurd em1.symm e2
  | .int _, em, _, _, _ => rw [em] at em1; exact absurd em1.symm e2
  | .str _, em, _, _, _ => rw [em] at em1; exact absurd em1.symm e2
  | .list _, em, _, _, _ => rw [em] at em1; exact absurd em1.symm e2
  | .dict _, em, _, _, _ => rw [em] at em1; exact absurd em1.symm e2
/-! ### range going down -/
def rgDn (lo : Int) (n : Nat) : List PyData := (List.range n).map fun i : Nat => .int (lo + (i : Nat) * (-1))
def range3 : PyData → PyData → PyData → R (List PyData)
  | .int a, .int b, .int c => if c = -1 ∧ rngOk b a then .ok (rgDn a (a - b).toNat) else .stuck
  | _, _, _ => .stuck
theorem walkRn {K : PySem.W.Frag} {lo : Int} {n : Nat} (z : n ≤ sizeLine) : WalkOn K (Itc lo (-1) n) [] [] (rgDn lo n) .imm := by
  have l : (rgDn lo n).length = n := by unfold rgDn; rw [List.length_map, List.length_range]
  refine ⟨⟨fun _ => True, YFn fun i => .int (lo + (i : Nat) * (-1)), by rw [l]; exact walk_rangeC, fun _ _ _ _ => trivial, fun i d H Sh F x H' ed ht lv y => ?_⟩, rfl, rfl, by rw [l]; exact z⟩
  obtain ⟨rfl, rfl⟩ := y
  have hi : i < n := by rw [← l]; exact (List.getElem?_eq_some_iff.mp ed).1
  unfold rgDn at ed
  rw [List.getElem?_map, List.getElem?_range hi] at ed
  cases ed
  exact ⟨Kp.refl, rfl, .int _, trivial⟩
theorem range3_int {a b c : PyData} {kk : List PyData → R β} {o : R β} (h : (range3 a b c).bind kk = o) (n : o ≠ .stuck) : ∃ i j, a = .int i ∧ b = .int j ∧ c = .int (-1) ∧ rngOk j i ∧ kk (rgDn i (i - j).toNat) = o := by
  match a, b, c with
  | .int i, .int j, .int k =>
    by_cases cc : k = -1 ∧ rngOk j i
    · rw [show range3 (.int i) (.int j) (.int k) = .ok (rgDn i (i - j).toNat) from if_pos cc] at h
      exact ⟨i, j, rfl, rfl, by rw [cc.1], cc.2, h⟩
    · rw [show range3 (.int i) (.int j) (.int k) = .stuck from if_neg cc] at h
      exact absurd h.symm n
  | .none, _, _ | .bool _, _, _ | .str _, _, _ | .tuple _, _, _ | .list _, _, _ | .dict _, _, _ => exact absurd h.symm n
  | .int _, .none, _ | .int _, .bool _, _ | .int _, .str _, _ | .int _, .tuple _, _ | .int _, .list _, _ | .int _, .dict _, _ => exact absurd h.symm n
  | .int _, .int _, .none | .int _, .int _, .bool _ | .int _, .int _, .str _ | .int _, .int _, .tuple _ | .int _, .int _, .list _ | .int _, .int _, .dict _ => exact absurd h.symm n
theorem tms3 {K : PySem.W.Frag} {H : Hp} {Sh : Addr → Prop} {x y z : V} {vs : List V} {a b c : PyData} {ts : List Sl} {G : List Addr} (h : Tms K H Sh (z :: y :: x :: vs) (.imm c :: .imm b :: .imm a :: ts) G) : TD K H x a ∧ TD K H y b ∧ TD K H z c := by
  cases h with
  | cons h1 r =>
    cases r with
    | cons h2 r =>
      cases r with
      | cons h3 r => exact ⟨h3.2.1, h2.2.1, h1.2.1⟩
theorem iv_range3 (h : EA Γ ta env ts m fun rs env1 m1 => ∃ a b c kk, rs = [.imm a, .imm b, .imm c] ∧ m1 = (range3 a b c).bind kk ∧ ∀ ds, Ψ ds .imm env1 (kk ds)) : IV Γ (iRng3 ta) env ts m Ψ := by
  intro o e1 e2 σ w vs us bs Z R X kz
  refine h o e1 e2 σ w vs us bs _ R X fun rs env1 m1 ws w1 ⟨d, e, f, kk, er, em, hk⟩ em1 R1 el s1 => ?_
  subst er
  match ws, el, R1 with
  | [x, y, z], _, R1 =>
    obtain ⟨i, j, rfl, rfl, rfl, c, eo⟩ := range3_int (em ▸ em1) e2
    obtain ⟨F, G, B, g1, g2, g3, g4⟩ := R1.ex
    obtain ⟨q1, q2, q3⟩ := tms3 (x := x) (y := y) (z := z) (vs := vs) (a := .int i) (b := .int j) (c := .int (-1)) (ts := ts) g2
    have ex := q1.toInt
    have ey := q2.toInt
    have ez := q3.toInt
    subst ex ey ez
    obtain ⟨w2, e2', R2, s2⟩ := Rel.pops (ws := [V.int (-1), V.int j, V.int i]) (rs := [.imm (.int (-1)), .imm (.int j), .imm (.int i)]) R1 rfl
    obtain ⟨c1, c2, c3, c4, c5⟩ := c
    refine ⟨i, j, -1, (i - j).toNat, rfl, RgC.neg (by omega) (by omega) (by omega) (by omega), ?_⟩
    rw [← e2']
    exact kz _ _ .imm [] [] env1 _ w2 (hk _) eo (walkRn c5) R2 (s1.trans s2)
end
/-- a def that never raises where it is asked -/
theorem FnG.noX {P : Program} {w : World} {K : PySem.W.Frag} {mg : Str → Option Value} {base : Heap} {k : Nat} {f : Addr} {fd : FuncData} {ps : List Str} {sp sp' : Sp} (F : FnG P w K mg base (L2.CX P w) k f fd ps sp)
    (h : ∀ vs H Q E, sp' vs H Q E → sp vs H Q (fun _ _ _ => False)) : FnG P w K mg base CX0 k f fd ps sp' :=
  ⟨fun vs H Q E q => F.sized vs H Q _ (h _ _ _ _ q), fun A out s H ar us vs Q E hg hr e b r q => by
    refine codeAny_mono (F.goes A out s H ar us vs Q (fun _ _ _ => False) hg hr e b r (h _ _ _ _ q)) ?_
    intro z s' hz
    match z, hz with
    | .error e, hz =>
      obtain ⟨_, _, _, _, _, _, _, _, _, _, _, _, no⟩ := hz
      exact no.elim
    | .ok (.ret u), hz => exact hz⟩
end Vl
/-! Things: data of any kind, lists among them, that nobody writes. -/
namespace Vl
open PySem PySem.Spec PyProof.Rows L2 Hw
section
variable {K : PySem.W.Frag} {H' : Hp} {w : Wd} {σ : L2.St} {env : List Sl} {vs us ws : List V} {ts bs rs : List Sl} {v : V} {r : Sl} {d : PyData} {ds : List PyData} {xs : List V}
/-- one object more is shared -/
theorem Rel.addSh (R : Rel K w σ env vs ts us bs) {p : Addr} (hp : w.H p ≠ none) (no : p ∉ w.O) : Rel K ⟨w.H, fun a => w.Sh a ∨ a = p, w.O⟩ σ env vs ts us bs := by
  obtain ⟨F, G, B, h1, h2, h3, e⟩ := R.ex
  have im : ∀ a, w.Sh a → w.Sh a ∨ a = p := fun _ z => .inl z
  refine ⟨⟨F, G, B, ?_, ?_, ?_, e⟩, R.nd, fun a ha z => ?_, fun a z => ?_, R.kl⟩
  · have := h1.tr (Tr.shm im); rwa [mapId] at this
  · have := h2.tr (Tr.shm im); rwa [mapId] at this
  · have := h3.tr (Tr.shm im); rwa [mapId] at this
  · rcases z with z | z
    · exact R.out a ha z
    · exact no (z ▸ ha)
  · rcases z with z | z
    · exact R.lv a z
    · exact z ▸ hp
/-- what is at hand becomes a new shared list -/
theorem Rel.newS (R : Rel K w σ env (ws ++ vs) (rs ++ ts) us bs) (el : ws.length = rs.length) (k : Kp Non w.H H') {p : Addr} (np : w.H p = none) (hp : H' p = some (.lst xs)) (h : Shds K w.H w.Sh xs ds) (hl : ds.length ≤ sizeLine) (hz : szAll ds) :
    ∃ w', w'.H = H' ∧ Rel K w' σ env (.ref p :: vs) (.shr (.list ds) :: ts) us bs ∧ Step w w' := by
  obtain ⟨w1, e1, R1, s1⟩ := R.pops el
  have k1 : Kp Non w1.H H' := by rw [e1]; exact k
  have R2 := R1.non k1
  have no : p ∉ w1.O := fun z => R1.live p z (by rw [e1]; exact np)
  have R3 := R2.addSh (p := p) (by show H' p ≠ none; rw [hp]; simp) no
  have hs : Shds K H' (fun a => w.Sh a ∨ a = p) xs ds := (h.kp k (fun _ _ z => z)).mono fun _ z => .inl z
  have esh : ∀ a, w.Sh a → w1.Sh a := s1.sh
  have hs2 : Shds K H' (fun a => w1.Sh a ∨ a = p) xs ds := hs.mono fun a z => z.imp (esh a) id
  refine ⟨⟨H', fun a => w1.Sh a ∨ a = p, w1.O⟩, rfl, R3.push0 ⟨rfl, .lst (.inl (.inl hp)) (.inl (.inr rfl)) hs2, hl, hz⟩, ?_⟩
  refine s1.trans ⟨k1.wide fun _ z => z.elim, fun a ha => .inl ha, fun a z => .inl z, fun a z => ?_⟩
  rcases z with z | z
  · exact .inl z
  · exact .inr (.inr (by rw [z, e1]; exact np))
/-- one's own thing at hand is from now on read only -/
theorem Rel.freezeT (R : Rel K w σ env (v :: vs) (.own d :: ts) us bs) : ∃ w', w'.H = w.H ∧ Rel K w' σ env (v :: vs) (.shr d :: ts) us bs ∧ Step w w' := by
  obtain ⟨F, G, B, h1, h2, h3, e⟩ := R.ex
  have lv := R.live
  have nd := R.nd
  have out := R.out
  cases h2 with
  | cons hs h2 =>
    rename_i F2 G2
    rw [e] at nd
    let Sh' : Addr → Prop := fun a => w.Sh a ∨ a ∈ F2
    have i : ∀ a, w.Sh a → Sh' a := fun _ h => .inl h
    have m2 : ∀ a ∈ F2, a ∈ w.O := fun a h => by rw [e]; exact List.mem_append_right _ (List.mem_append_left _ (List.mem_append_left _ h))
    have p : List.Perm (F ++ ((F2 ++ G2) ++ B)) (F2 ++ (F ++ (G2 ++ B))) := by
      refine List.perm_iff_count.mpr fun a => ?_
      simp only [List.count_append]
      omega
    have nd2 := p.nodup_iff.mp nd
    have sub : ∀ a ∈ F ++ (G2 ++ B), a ∈ w.O := fun a m => by rw [e]; exact p.mem_iff.mpr (List.mem_append_right _ m)
    have h1' := h1.tr (Tr.shm i)
    have h2' := h2.tr (Tr.shm i)
    have h3' := h3.tr (Tr.shm i)
    rw [mapId] at h1' h2' h3'
    refine ⟨⟨w.H, Sh', F ++ (G2 ++ B)⟩, rfl, ⟨⟨F, G2, B, h1', Tms.cons (F := []) ⟨rfl, hs.1.shd fun a h => .inr h, hs.2⟩ h2', h3', rfl⟩, (List.nodup_append.mp nd2).2.1, fun a m q => ?_, fun a q => ?_, R.kl⟩, ⟨Kp.refl, fun a m => .inl (sub a m), i, fun a q => ?_⟩⟩
    · rcases q with q | q
      · exact out a (sub a m) q
      · exact (List.nodup_append.mp nd2).2.2 a q a m rfl
    · rcases q with q | q
      · exact R.lv a q
      · exact lv a (m2 a q)
    · rcases q with q | q
      · exact .inl q
      · exact .inr (.inl (m2 a q))
/-- the top root told otherwise -/
theorem Rel.retop {r' : Sl} (R : Rel K w σ env (v :: vs) (r :: ts) us bs) (h : ∀ F, SlR K w.H w.Sh v r F → F = [] ∧ SlR K w.H w.Sh v r' []) : Rel K w σ env (v :: vs) (r' :: ts) us bs := by
  obtain ⟨F, G, B, h1, h2, h3, e⟩ := R.ex
  cases h2 with
  | cons hs h2 =>
    obtain ⟨rfl, h'⟩ := h _ hs
    exact ⟨⟨F, _, B, h1, Tms.cons (F := []) h' h2, h3, e⟩, R.nd, R.out, R.lv, R.kl⟩
end
section
variable {Γ : Ctx} {β : Type} {m : R β} {env env' ts : List Sl} {te tu : TE} {ta : TA} {Φ : Sl → List Sl → R β → Prop} {Ψ : List PyData → (PyData → Sl) → List Sl → R β → Prop}
theorem ev_toShr (h : EV Γ te env ts m fun r env1 m1 => ∃ d, r = .own d ∧ Φ (.shr d) env1 m1) : EV Γ te env ts m Φ := by
  intro o e1 e2 σ w vs us bs Q R X kz
  refine h o e1 e2 σ w vs us bs _ R X fun r env1 m1 x w1 ⟨d, er, hk⟩ em1 R1 s1 => ?_
  subst er
  obtain ⟨w2, e2', R2, s2⟩ := R1.freezeT
  rw [← e2']
  exact kz _ env1 m1 x w2 hk em1 R2 (s1.trans s2)
theorem ev_upS (h : EV Γ te env ts m fun r env1 m1 => ∃ d, r = .imm d ∧ Φ (.shr d) env1 m1) : EV Γ te env ts m Φ := by
  intro o e1 e2 σ w vs us bs Q R X kz
  refine h o e1 e2 σ w vs us bs _ R X fun r env1 m1 x w1 ⟨d, er, hk⟩ em1 R1 s1 => ?_
  subst er
  exact kz _ env1 m1 x w1 hk em1 (R1.retop fun F hF => ⟨hF.1, rfl, .leaf hF.2.1, hF.2.2⟩) s1
/-- data without lists, found so -/
theorem ev_asIs (h : EV Γ te env ts m fun r env1 m1 => ∃ d kk, r = .shr d ∧ m1 = (asI d).bind kk ∧ ∀ z, Φ (.imm z) env1 (kk z)) : EV Γ te env ts m Φ := by
  intro o e1 e2 σ w vs us bs Q R X kz
  refine h o e1 e2 σ w vs us bs _ R X fun r env1 m1 x w1 ⟨d, kk, er, em, hk⟩ em1 R1 s1 => ?_
  subst er
  by_cases c : immD d = true
  · rw [show asI d = .ok d from if_pos c] at em
    obtain ⟨hd, hz⟩ := R1.dp (.shr d)
    exact kz _ env1 _ x w1 (hk d) (by rw [← em1, em]; rfl) (R1.retop fun F hF => ⟨hF.1, rfl, dpImm hd c, hz⟩) s1
  · rw [show asI d = .stuck from if_neg c] at em
    rw [em] at em1
    exact absurd em1.symm e2
/-- a list of things -/
theorem ev_lstS (h : EA Γ ta env ts m fun rs env1 m1 => ∃ ds : List PyData, Shps rs ds ∧ ds.length ≤ 1000 ∧ Φ (.shr (.list ds)) env1 m1) : EV Γ (tLstG ta) env ts m Φ := by
  intro o e1 e2 σ w vs us bs Q R X kk
  refine h o e1 e2 σ w vs us bs _ R X fun rs env1 m1 ws w1 ⟨ds, er, hl, h1⟩ em1 R1 el s1 => ?_
  have el2 : ws.length = ds.length := by rw [el, er.len]
  refine ⟨Nat.le_of_lt (small1000 (by omega)), fun p H' k np hp => ?_⟩
  obtain ⟨F, G, B, g1, g2, g3, g4⟩ := R1.ex
  obtain ⟨A, G', eG, ha, _⟩ := g2.split (by simp [el])
  obtain ⟨A', ha', _⟩ := ha.unrev
  obtain ⟨t1, t2⟩ := tmsShps er ha'
  obtain ⟨w', rfl, R', st⟩ := Rel.newS R1 (by simp [el]) k np hp t1 (Nat.le_of_lt (small1000 hl)) t2
  exact kk _ _ _ _ w' h1 em1 R' (s1.trans st)
/-! one behind the other -/
theorem strAppLen (a b : Str) : (a ++ b).length = a.length + b.length := by
  show (a.cps ++ b.cps).size = _
  rw [Array.size_append]; rfl
def catS : PyData → PyData → R PyData
  | .list a, .list b => if a.length + b.length ≤ sizeLine then .ok (.list (a ++ b)) else .stuck
  | .tuple a, .tuple b => if a.length + b.length ≤ sizeLine then .ok (.tuple (a ++ b)) else .stuck
  | .str a, .str b => if a.length + b.length ≤ sizeLine then .ok (.str (a ++ b)) else .stuck
  | _, _ => .stuck
theorem catS_l {a b : List PyData} (h : a.length + b.length ≤ sizeLine) : catS (.list a) (.list b) = .ok (.list (a ++ b)) := if_pos h
theorem catS_t {a b : List PyData} (h : a.length + b.length ≤ sizeLine) : catS (.tuple a) (.tuple b) = .ok (.tuple (a ++ b)) := if_pos h
theorem shdStr {K : PySem.W.Frag} {H : Hp} {Sh : Addr → Prop} {v : V} {x : Str} (h : Shd K H Sh v (.str x)) : v = .str x := by
  cases h with
  | leaf h => cases h; rfl
def rCatS (K : PySem.W.Frag) : R2 := fun x y H Q => (∃ i j, x = .str i ∧ y = .str j ∧ i.length + j.length ≤ sizeLine ∧ Q (.str (i ++ j)) H) ∨ ∃ a b xs ys, x = .ref a ∧ y = .ref b ∧ xs.length + ys.length ≤ sizeLine ∧
  ((SqT K H a xs ∧ SqT K H b ys ∧ ∀ p H', Kp Non H H' → SqT K H' p (xs ++ ys) → Q (.ref p) H') ∨
   (SqL K H a xs ∧ SqL K H b ys ∧ ∀ p H', Kp Non H H' → H p = none → H' p = some (.lst (xs ++ ys)) → Q (.ref p) H'))
theorem op_catS {X : Cx} : OpR X (binaryOp .Add) (rCatS X.K) := by
  intro pins s σ H x y v u Q I rx ry hs
  rcases hs with hs | ⟨a, b, xs, ys, ex, ey, hl, hh⟩
  · exact op_add_str pins s σ H _ _ v u Q I rx ry hs
  rcases hh with ⟨h1, g1, q⟩ | ⟨h1, g1, q⟩
  · exact op_catG pins s σ H _ _ v u Q I rx ry ⟨a, b, xs, ys, ex, ey, h1, g1, hl, q⟩
  · subst ex ey
    cases rx
    cases ry
    obtain ⟨i1, rv, ⟨⟨cl1, dd1, dt1, sl1⟩, n1, ho1, hc1, hn1, hd1⟩, hz1⟩ := I.list h1
    obtain ⟨i2, rw', ⟨⟨cl2, dd2, dt2, sl2⟩, n2, ho2, hc2, hn2, hd2⟩, hz2⟩ := I.list g1
    simp only at hc1 hd1 hc2 hd2
    subst hc1 hd1 hc2 hd2
    have l1 := rv.length
    have l2 := rw'.length
    have e : i1.toArray ++ i2.toArray = (i1 ++ i2).toArray := by simp
    refine concat_meets ⟨_, ho1, rfl⟩ ⟨_, ho2, rfl⟩ noFill_list_add seq_list_add PySem.F.slot_list_add PySem.F.entry_list_add (PySem.F.args_list_add_2 _ _) (list_addW _ _ i1.toArray i2.toArray n1 n2 dd1 dd2 sl1 sl2 (by simp; omega)) ⟨ho1, ho2, ?_⟩
    rw [e]
    exact ⟨.ref _, _, I.lnew (t' := s.toks) (rv.append rw') (by rw [List.length_append]; omega), rfl, q _ _ (Kp.new I.fresh) I.fresh upd_same⟩
theorem Shds.app {K : PySem.W.Frag} {H : Hp} {Sh : Addr → Prop} : ∀ {xs ys : List V} {ds es : List PyData}, Shds K H Sh xs ds → Shds K H Sh ys es → Shds K H Sh (xs ++ ys) (ds ++ es)
  | _, _, _, _, .nil, q => q
  | _, _, _, _, .cons h r, q => .cons h (Shds.app r q)
theorem opK_cat {d e : PyData} {k : PyData → R β} (hm : m = (catS d e).bind k) (z : ∀ a, Φ (.shr a) env (k a)) : OpK Γ (rCatS Γ.K) (.shr d) (.shr e) env ts m Φ := by
  intro o e1 e2 σ w vs us bs x y Q R X kk
  obtain ⟨F2, g2⟩ := R.top
  obtain ⟨F1, g1⟩ := R.under
  have stuck : catS d e ≠ .stuck := fun q => by rw [hm, q] at e1; exact e2 e1.symm
  match d, e, hm, R, g1, g2, stuck with
  | .list a, .list b, hm, R, g1, g2, stuck =>
    have c : a.length + b.length ≤ sizeLine := by
      by_cases c : a.length + b.length ≤ sizeLine
      · exact c
      · exact absurd (if_neg c) stuck
    obtain ⟨a1, xs, rfl, h1, h2⟩ := shdLst g1.2.1
    obtain ⟨b1, ys, rfl, h3, h4⟩ := shdLst g2.2.1
    refine .inr ⟨a1, b1, xs, ys, rfl, rfl, by rw [shdsLn h2, shdsLn h4]; exact c, .inr ⟨h1, h3, fun p H' kp np hp => ?_⟩⟩
    obtain ⟨w', rfl, R', st⟩ := Rel.newS (ws := [V.ref b1, V.ref a1]) (rs := [.shr (.list b), .shr (.list a)]) R rfl kp np hp (h2.app h4) (by rw [List.length_append]; exact c) (szAll_append g1.2.2.2 g2.2.2.2)
    exact kk _ _ _ _ w' (z _) (by rw [← e1, hm, catS_l c]; rfl) R' st
  | .tuple a, .tuple b, hm, R, g1, g2, stuck =>
    have c : a.length + b.length ≤ sizeLine := by
      by_cases c : a.length + b.length ≤ sizeLine
      · exact c
      · exact absurd (if_neg c) stuck
    obtain ⟨a1, xs, rfl, h1, h2⟩ := shdTup g1.2.1
    obtain ⟨b1, ys, rfl, h3, h4⟩ := shdTup g2.2.1
    refine .inr ⟨a1, b1, xs, ys, rfl, rfl, by rw [shdsLn h2, shdsLn h4]; exact c, .inl ⟨h1, h3, fun p H' kp hp => ?_⟩⟩
    obtain ⟨w', rfl, R', st⟩ := Rel.take (v := .ref p) (r := .shr (.tuple (a ++ b))) (ws := [V.ref b1, V.ref a1]) (rs := [.shr (.tuple b), .shr (.tuple a)]) R rfl kp (fun A ht =>
      ⟨[], ⟨rfl, .tup hp ((h2.app h4).kp kp (fun _ _ z => z)), by rw [List.length_append]; exact c, szAll_append g1.2.2.2 g2.2.2.2⟩, List.nodup_nil, fun _ q => (List.not_mem_nil q).elim⟩)
    exact kk _ _ _ _ w' (z _) (by rw [← e1, hm, catS_t c]; rfl) R' st
  | .none, _, _, _, _, _, q => exact absurd rfl q
  | .bool _, _, _, _, _, _, q => exact absurd rfl q
  | .int _, _, _, _, _, _, q => exact absurd rfl q
  | .str a, .str b, hm, R, g1, g2, stuck =>
    have c : a.length + b.length ≤ sizeLine := by
      by_cases c : a.length + b.length ≤ sizeLine
      · exact c
      · exact absurd (if_neg c) stuck
    have ex := shdStr g1.2.1
    have ey := shdStr g2.2.1
    subst ex ey
    refine .inl ⟨a, b, rfl, rfl, c, ?_⟩
    obtain ⟨w', ew, R', st⟩ := Rel.take (H' := w.H) (v := .str (a ++ b)) (r := .shr (.str (a ++ b))) (ws := [V.str b, V.str a]) (rs := [.shr (.str b), .shr (.str a)]) R rfl Kp.refl (fun A ht =>
      ⟨[], ⟨rfl, .leaf (.str _), Nat.le_trans (Nat.le_of_eq (strAppLen a b)) c⟩, List.nodup_nil, fun _ q => (List.not_mem_nil q).elim⟩)
    rw [← ew]
    exact kk _ _ _ _ w' (z _) (by rw [← e1, hm, show catS (.str a) (.str b) = .ok (.str (a ++ b)) from if_pos c]; rfl) R' st
  | .str _, .none, _, _, _, _, q => exact absurd rfl q
  | .str _, .bool _, _, _, _, _, q => exact absurd rfl q
  | .str _, .int _, _, _, _, _, q => exact absurd rfl q
  | .str _, .list _, _, _, _, _, q => exact absurd rfl q
  | .str _, .tuple _, _, _, _, _, q => exact absurd rfl q
  | .str _, .dict _, _, _, _, _, q => exact absurd rfl q
  | .dict _, _, _, _, _, _, q => exact absurd rfl q
  | .list _, .none, _, _, _, _, q => exact absurd rfl q
  | .list _, .bool _, _, _, _, _, q => exact absurd rfl q
  | .list _, .int _, _, _, _, _, q => exact absurd rfl q
  | .list _, .str _, _, _, _, _, q => exact absurd rfl q
  | .list _, .tuple _, _, _, _, _, q => exact absurd rfl q
  | .list _, .dict _, _, _, _, _, q => exact absurd rfl q
  | .tuple _, .none, _, _, _, _, q => exact absurd rfl q
  | .tuple _, .bool _, _, _, _, _, q => exact absurd rfl q
  | .tuple _, .int _, _, _, _, _, q => exact absurd rfl q
  | .tuple _, .str _, _, _, _, _, q => exact absurd rfl q
  | .tuple _, .list _, _, _, _, _, q => exact absurd rfl q
  | .tuple _, .dict _, _, _, _, _, q => exact absurd rfl q
/-! an item -/
def ixA (d e : PyData) : R PyData := match e with
  | .int n => match d with
    | .tuple ds => match atI ds n with
      | some z => .ok z
      | none => .stuck
    | .list ds => match atI ds n with
      | some z => .ok z
      | none => .stuck
    | _ => .stuck
  | _ => .stuck
theorem ixA_t {ds : List PyData} {i : Nat} {z : PyData} (h : ds[i]? = some z) : ixA (.tuple ds) (.int (i : Int)) = .ok z := by
  unfold ixA; simp only [atI_nat h]
theorem ixA_l {ds : List PyData} {i : Nat} {z : PyData} (h : ds[i]? = some z) : ixA (.list ds) (.int (i : Int)) = .ok z := by
  unfold ixA; simp only [atI_nat h]
def rIxA (K : PySem.W.Frag) : R2 := fun x y H Q => ∃ a xs n v, x = .ref a ∧ y = .int n ∧ (SqT K H a xs ∨ SqL K H a xs) ∧ atI xs n = some v ∧ Q v H
theorem ix_A {X : Cx} : IxR X (rIxA X.K) := by
  intro value slice pins s σ H x y v u Q I rx ry ⟨a, xs, n, z, ex, ey, h, ha, q⟩ hs
  rcases h with h | h
  · exact ix_tup value slice pins s σ H _ _ v u Q I rx ry ⟨_, _, n, z, ex, ey, h, ha, q⟩ hs
  · exact ix_list value slice pins s σ H _ _ v u Q I rx ry ⟨_, _, n, z, ex, ey, h, ha, q⟩ hs
theorem opK_ixA {d e : PyData} {k : PyData → R β} (hm : m = (ixA d e).bind k) (z : ∀ a, Φ (.shr a) env (k a)) : OpK Γ (rIxA Γ.K) (.shr d) (.imm e) env ts m Φ := by
  intro o e1 e2 σ w vs us bs x y Q R X kk
  obtain ⟨F2, g2⟩ := R.top
  obtain ⟨F1, g1⟩ := R.under
  have fin : ∀ (n : Int) (ds : List PyData) (a : Addr) (xs : List V), y = .int n → x = .ref a → (SqT Γ.K w.H a xs ∨ SqL Γ.K w.H a xs) → Shds Γ.K w.H w.Sh xs ds → szAll ds → ixA d e = (match atI ds n with | some z => .ok z | none => .stuck) → rIxA Γ.K x y w.H Q := by
    intro n ds a xs ey ex hq hs hz hi
    cases hg : atI ds n with
    | none => rw [hg] at hi; rw [hm, hi] at e1; exact absurd e1.symm e2
    | some q =>
      rw [hg] at hi
      obtain ⟨j, v, _, e2', e3, e4⟩ := atI_map (shdsLn hs) hg
      refine ⟨a, xs, n, v, ex, ey, hq, e4, ?_⟩
      obtain ⟨w', ew, R', st⟩ := Rel.take (H' := w.H) (v := v) (r := .shr q) (ws := [y, x]) (rs := [.imm e, .shr d]) R rfl Kp.refl (fun A ht =>
        ⟨[], ⟨rfl, shdsGt hs e2' e3, szAt hz e3⟩, List.nodup_nil, fun _ q => (List.not_mem_nil q).elim⟩)
      rw [← ew]
      exact kk _ _ _ v w' (z q) (by rw [← e1, hm, hi]; rfl) R' st
  have stuck : ixA d e ≠ .stuck := fun q => by rw [hm, q] at e1; exact e2 e1.symm
  cases e with
  | int n =>
    have ey := g2.2.1.toInt
    cases d with
    | tuple ds =>
      obtain ⟨a, xs, rfl, h1, h2⟩ := shdTup g1.2.1
      exact fin n ds a xs ey rfl (.inl h1) h2 g1.2.2.2 rfl
    | list ds =>
      obtain ⟨a, xs, rfl, h1, h2⟩ := shdLst g1.2.1
      exact fin n ds a xs ey rfl (.inr h1) h2 g1.2.2.2 rfl
    | _ => exact absurd rfl stuck
  | _ => exact absurd rfl stuck
/-! a part -/
def cutA (d : PyData) (lo hi : Option Int) : R PyData := match d with
  | .tuple ds => .ok (.tuple (cutD ds lo hi))
  | .list ds => .ok (.list (cutD ds lo hi))
  | .str z => .ok (.str (cutS z lo hi))
  | _ => .stuck
def slA (d : PyData) (lo hi : Option PyData) : R PyData := (intO lo).bind fun lo => (intO hi).bind fun hi => cutA d lo hi
def rSlA (K : PySem.W.Frag) : V → Option Int → Option Int → Hp → VK → Prop := fun x lo hi H Q => rSlS x lo hi H Q ∨ ∃ a xs, x = .ref a ∧
  ((SqT K H a xs ∧ ∀ p H', Kp Non H H' → SqT K H' p (cutV xs lo hi) → Q (.ref p) H') ∨ (SqL K H a xs ∧ ∀ p H', Kp Non H H' → H p = none → H' p = some (.lst (cutV xs lo hi)) → Q (.ref p) H'))
theorem sl_A {X : Cx} : L2.SlR X (rSlA X.K) := by
  intro pins s σ H x v vl vu lo hi sl Q I rx hs pl pu h0
  rcases h0 with h0 | ⟨a, xs, ex, h⟩
  · exact sl_str pins s σ H _ v vl vu lo hi sl Q I rx hs pl pu h0
  rcases h with ⟨h, q⟩ | ⟨h, q⟩
  · exact sl_tupG pins s σ H _ v vl vu lo hi sl Q I rx hs pl pu ⟨a, xs, ex, h, q⟩
  · exact sl_listG pins s σ H _ v vl vu lo hi sl Q I rx hs pl pu ⟨a, xs, ex, h, q⟩
theorem Shds.drop' {K : PySem.W.Frag} {H : Hp} {Sh : Addr → Prop} : ∀ {xs : List V} {ds : List PyData} (n : Nat), Shds K H Sh xs ds → Shds K H Sh (xs.drop n) (ds.drop n)
  | _, _, 0, h => h
  | _, _, n + 1, .nil => .nil
  | _, _, n + 1, .cons h r => Shds.drop' n r
theorem Shds.take' {K : PySem.W.Frag} {H : Hp} {Sh : Addr → Prop} : ∀ {xs : List V} {ds : List PyData} (n : Nat), Shds K H Sh xs ds → Shds K H Sh (xs.take n) (ds.take n)
  | _, _, 0, h => by simp; exact .nil
  | _, _, n + 1, .nil => by simp; exact .nil
  | _, _, n + 1, .cons h r => by rw [List.take_succ_cons, List.take_succ_cons]; exact .cons h (Shds.take' n r)
theorem shdsCut {K : PySem.W.Frag} {H : Hp} {Sh : Addr → Prop} {xs : List V} {ds : List PyData} (h : Shds K H Sh xs ds) (lo hi : Option Int) : Shds K H Sh (cutV xs lo hi) (cutD ds lo hi) := by
  unfold cutV cutD
  rw [shdsLn h]
  exact Shds.take' _ (Shds.drop' _ h)
theorem ev_slA {tlo thi : TO} (h : EV Γ te env ts m fun r env1 m1 => EO Γ tlo env1 (r :: ts) m1 fun lo env2 m2 => EO Γ thi env2 (r :: ts) m2 fun hi env3 m3 => ∃ d kk, r = .shr d ∧ m3 = (slA d lo hi).bind kk ∧ ∀ z, Φ (.shr z) env3 (kk z)) : EV Γ (tSl (rSlA Γ.K) te tlo thi) env ts m Φ := by
  intro o e1 e2 σ w vs us bs Q R X kz
  refine h o e1 e2 σ w vs us bs _ R X fun r env1 m1 x w1 h1 em1 R1 s1 => ?_
  refine h1 o em1 e2 σ w1 (x :: vs) us bs _ R1 (X.step s1) fun lo env2 m2 w2 oi h2 em2 el R2 s2 => ?_
  refine h2 o em2 e2 σ w2 (x :: vs) us bs _ R2 ((X.step s1).step s2) fun hi env3 m3 w3 oj ⟨d, kk, er, em, hk⟩ em3 eh R3 s3 => ?_
  subst er
  rw [show slA d lo hi = cutA d oi oj by unfold slA; rw [el, eh]; rfl] at em
  obtain ⟨F, g⟩ := R3.top
  cases d with
  | tuple ds =>
    obtain ⟨a, xs, rfl, h1, h2⟩ := shdTup g.2.1
    refine .inr ⟨a, xs, rfl, .inl ⟨h1, fun p H' kp hp => ?_⟩⟩
    obtain ⟨w', rfl, R', st⟩ := Rel.take (v := .ref p) (r := .shr (.tuple (cutD ds oi oj))) (ws := [V.ref a]) (rs := [.shr (.tuple ds)]) R3 rfl kp (fun A ht =>
      ⟨[], ⟨rfl, .tup hp ((shdsCut h2 oi oj).kp kp (fun _ _ z => z)), Nat.le_trans (cutDLen _ _ _) g.2.2.1, szCut g.2.2.2 oi oj⟩, List.nodup_nil, fun _ q => (List.not_mem_nil q).elim⟩)
    exact kz _ env3 _ _ w' (hk _) (by rw [← em3, em]; rfl) R' (((s1.trans s2).trans s3).trans st)
  | list ds =>
    obtain ⟨a, xs, rfl, h1, h2⟩ := shdLst g.2.1
    refine .inr ⟨a, xs, rfl, .inr ⟨h1, fun p H' kp np hp => ?_⟩⟩
    obtain ⟨w', rfl, R', st⟩ := Rel.newS (ws := [V.ref a]) (rs := [.shr (.list ds)]) R3 rfl kp np hp (shdsCut h2 oi oj) (Nat.le_trans (cutDLen _ _ _) g.2.2.1) (szCut g.2.2.2 oi oj)
    exact kz _ env3 _ _ w' (hk _) (by rw [← em3, em]; rfl) R' (((s1.trans s2).trans s3).trans st)
  | str z =>
    have ex := shdStr g.2.1
    subst ex
    refine .inl ⟨z, rfl, g.2.2, ?_⟩
    obtain ⟨w', ew, R', st⟩ := Rel.take (H' := w3.H) (v := .str (cutS z oi oj)) (r := .shr (.str (cutS z oi oj))) (ws := [V.str z]) (rs := [.shr (.str z)]) R3 rfl Kp.refl (fun A ht =>
      ⟨[], ⟨rfl, .leaf (.str _), Nat.le_trans (cutS_length z _ _) g.2.2⟩, List.nodup_nil, fun _ q => (List.not_mem_nil q).elim⟩)
    rw [← ew]
    exact kz _ env3 _ _ w' (hk _) (by rw [← em3, em]; rfl) R' (((s1.trans s2).trans s3).trans st)
  | _ => rw [em] at em3; exact absurd em3.symm e2
/-- a text from behind -/
def revS (z : Str) : Str := ⟨z.cps.toList.reverse.toArray⟩
theorem revSLen (z : Str) : (revS z).length = z.length := by
  show z.cps.toList.reverse.toArray.size = z.cps.size
  simp
def revA : PyData → R PyData
  | .tuple ds => .ok (.tuple ds.reverse)
  | .str z => .ok (.str (revS z))
  | _ => .stuck
theorem sliceBackS {x : Str} {t : Tok} {st : Option (Int × Tok)} (hs : st.map (·.1) = some (-1)) : sliceMade x t none none st = .str (revS x) := by
  unfold sliceMade slicePicked
  rw [hs]
  show (if ((-1 : Int) == 1 && _) = true then _ else _) = _
  rw [if_neg (by simp)]
  congr 1
  show (⟨_⟩ : Str) = ⟨_⟩
  congr 1
  have e : Builtin.Str.strSliceIndices none none (-1) x.length = (List.range x.length).reverse := by
    unfold Builtin.Str.strSliceIndices
    show sliceRange ((x.length : Int) - 1) (-1) (-1) = _
    rw [PySem.W.krv_sliceRange, PySem.W.krv_range]
  show ((Builtin.Str.strSliceIndices none none (-1) x.length).filterMap (x.cps[·]?)).toArray = _
  rw [e, List.filterMap_reverse]
  have e2 := PySem.W.krv_all x.cps
  show ((List.range x.cps.size).filterMap (x.cps[·]?)).reverse.toArray = _
  rw [e2]
section
variable {X : Cx}
def tRevTS (K : PySem.W.Frag) (te : TE) : TE := fun σ H Q => te σ H fun x H1 => (∃ a xs, x = .ref a ∧ SqT K H1 a xs ∧ ∀ p H', Kp Non H1 H' → SqT K H' p xs.reverse → Q (.ref p) H') ∨ ∃ z, x = .str z ∧ z.length ≤ sizeLine ∧ Q (.str (revS z)) H1
theorem pe_revTS {e : Expr} {te : TE} {k : Nat} {p1 p2 p3 pos : Pos} (he : PE X e te) : PE X (.Subscript e (.Slice none none (some (.UnaryOp .USub (.Constant (.int 1) k p1) p2)) p3) pos) (tRevTS X.K te) := by
  constructor
  intro pins s σ H Q I h
  apply Subscript_
  refine thn (he.run pins s σ H _ I h) ?_
  rintro v s1 ⟨x, H1, I1, r1, hx⟩
  have one : PO X (some (.UnaryOp .USub (.Constant (.int 1) k p1) p2)) (tPart (tUn (rU fun i => .int (-i)) (tC (.int 1)))) := po_some (pe_un un_neg pe_int)
  apply wpAny_Slice
  refine thn (po_none.run pins s1 σ H1 (fun o H2 => o = none ∧ H2 = H1) I1 ⟨rfl, rfl⟩) ?_
  rintro vl s2 ⟨_, _, I2, pl, rfl, rfl⟩
  refine thn (po_none.run pins s2 σ _ (fun o H3 => o = none ∧ H3 = _) I2 ⟨rfl, rfl⟩) ?_
  rintro vu s3 ⟨_, _, I3, pu, rfl, rfl⟩
  refine thn (one.run pins s3 σ _ (fun o H4 => o = some (-1) ∧ H4 = _) I3 ⟨1, rfl, -1, rfl, rfl, rfl⟩) ?_
  rintro vs s4 ⟨_, _, I4, ps, rfl, rfl⟩
  have nl : vl = Value.none := by cases pl; rfl
  have nu : vu = Value.none := by cases pu; rfl
  subst nl nu
  have I5 := I4.kept (h' := s4.heap.push { cls := .type "slice", data := .fields #[Value.none, Value.none, vs] }) (t' := s4.toks) fun b ob q => Heap.get?_push_of_some _ q
  rcases hx with ⟨a, xs, rfl, hx, q⟩ | ⟨z, rfl, hz, q⟩
  · have r1 : v = Value.ref a := r1
    subst r1
    obtain ⟨its, r, ht, hz⟩ := I5.tuple hx
    refine tail_any (ops := [.ref a, .ref s4.heap.objs.size]) ht.typeIs PyProof.Rows.slot_tuple_getitem.lookup ?_ (by with_unfolding_all rfl)
    refine backTuple ht (Heap.IsSliceOf.new _ Value.none Value.none vs) ps ?_ (by rw [List.size_toArray, ← r.length]; exact hz)
    have fr := I5.hok.fresh (Nat.le_refl _)
    refine ⟨.ref _, _, I5.laid (t' := s4.toks) (o := .tup xs.reverse) (fun b ob q => Heap.get?_push_of_some _ q) (Nat.le_refl _) ?_, rfl, q _ _ (Kp.new fr) (.of upd_same)⟩
    refine ⟨by rw [List.length_reverse]; exact hz, its.reverse, r.reverse, ⟨_, Heap.get?_push_size _ rfl, rfl, ?_⟩⟩
    exact ⟨_, rfl⟩
  · obtain ⟨t, rfl⟩ := r1
    obtain ⟨st, rfl, hst⟩ := IsPart.raw ps
    refine tail_any (ops := [.str z t, .ref s4.heap.objs.size]) (typeIs_str _ _ _) PySem.F.slot_str_getitem.lookup ?_ (by with_unfolding_all rfl)
    refine wpAny_getItem_str_slice (l := none) (u := none) (st := st) ⟨_, Heap.get?_push_size _ rfl, rfl, rfl⟩ (by rw [hst]; rfl) ?_
    rw [sliceBackS hst]
    exact ⟨by rw [revSLen]; exact hz, .str _, _, I5.tok _, ⟨_, rfl⟩, q⟩
end
theorem Shds.rev' {K : PySem.W.Frag} {H : Hp} {Sh : Addr → Prop} : ∀ {xs : List V} {ds : List PyData}, Shds K H Sh xs ds → Shds K H Sh xs.reverse ds.reverse
  | _, _, .nil => .nil
  | _, _, .cons h r => by rw [List.reverse_cons, List.reverse_cons]; exact Shds.app (Shds.rev' r) (.cons h .nil)
theorem ev_revA (h : EV Γ te env ts m fun r env1 m1 => ∃ d kk, r = .shr d ∧ m1 = (revA d).bind kk ∧ ∀ z, Φ (.shr z) env1 (kk z)) : EV Γ (tRevTS Γ.K te) env ts m Φ := by
  intro o e1 e2 σ w vs us bs Q R X kz
  refine h o e1 e2 σ w vs us bs _ R X fun r env1 m1 x w1 ⟨d, kk, er, em, hk⟩ em1 R1 s1 => ?_
  subst er
  obtain ⟨F, g⟩ := R1.top
  cases d with
  | tuple ds =>
    obtain ⟨a, xs, rfl, h1, h2⟩ := shdTup g.2.1
    refine .inl ⟨a, xs, rfl, h1, fun p H' kp hp => ?_⟩
    obtain ⟨w', rfl, R', st⟩ := Rel.take (v := .ref p) (r := .shr (.tuple ds.reverse)) (ws := [V.ref a]) (rs := [.shr (.tuple ds)]) R1 rfl kp (fun A ht =>
      ⟨[], ⟨rfl, .tup hp (h2.rev'.kp kp (fun _ _ z => z)), by rw [List.length_reverse]; exact g.2.2.1, szAll_iff.mpr fun d hd => szAll_iff.mp g.2.2.2 d (List.mem_reverse.mp hd)⟩, List.nodup_nil, fun _ q => (List.not_mem_nil q).elim⟩)
    exact kz _ env1 _ _ w' (hk _) (by rw [← em1, em]; rfl) R' (s1.trans st)
  | str z =>
    have ex := shdStr g.2.1
    subst ex
    refine .inr ⟨z, rfl, g.2.2, ?_⟩
    obtain ⟨w', ew, R', st⟩ := Rel.take (H' := w1.H) (v := .str (revS z)) (r := .shr (.str (revS z))) (ws := [V.str z]) (rs := [.shr (.str z)]) R1 rfl Kp.refl (fun A ht =>
      ⟨[], ⟨rfl, .leaf (.str _), Nat.le_trans (Nat.le_of_eq (revSLen z)) g.2.2⟩, List.nodup_nil, fun _ q => (List.not_mem_nil q).elim⟩)
    rw [← ew]
    exact kz _ env1 _ _ w' (hk _) (by rw [← em1, em]; rfl) R' (s1.trans st)
  | _ => rw [em] at em1; exact absurd em1.symm e2
/-! upper letters -/
def upperV : PyData → R PyData
  | .str a => if a.length ≤ 1000000 then .ok (.str (Txt.upper a)) else .stuck
  | _ => .stuck
theorem ev_upper (h : EV Γ te env ts m fun r env1 m1 => ∃ d kk, r = .imm d ∧ m1 = (upperV d).bind kk ∧ ∀ z, Φ (.imm z) env1 (kk z)) : EV Γ (tM0 (fun x xs H Q => ∃ a, x = .str a ∧ xs = [] ∧ a.length ≤ 5592405 ∧ Q (.str (Txt.upper a)) H) te) env ts m Φ := by
  intro o e1 e2 σ w vs us bs Q R X kz
  refine h o e1 e2 σ w vs us bs _ R X fun r env1 m1 x w1 ⟨d, kk, er, em, hk⟩ em1 R1 s1 => ?_
  subst er
  obtain ⟨F, g⟩ := R1.top
  cases d with
  | str z =>
    have ex : x = .str z := by
      have := g.2.1
      cases this; rfl
    subst ex
    by_cases c : z.length ≤ 1000000
    · refine ⟨⟨z, rfl⟩, z, rfl, rfl, by omega, ?_⟩
      have hl := PyProof.Rows.len_upper z
      obtain ⟨w', ew, R', st⟩ := Rel.take (H' := w1.H) (v := .str (Txt.upper z)) (r := .imm (.str (Txt.upper z))) (ws := [V.str z]) (rs := [.imm (.str z)]) R1 rfl Kp.refl (fun A ht =>
        ⟨[], ⟨rfl, .str _, (by show _ ≤ sizeLine; rw [sizeLine_eq]; omega)⟩, List.nodup_nil, fun _ q => (List.not_mem_nil q).elim⟩)
      rw [← ew]
      exact kz _ env1 _ _ w' (hk _) (by rw [← em1, em, show upperV (.str z) = .ok (.str (Txt.upper z)) from if_pos c]; rfl) R' (s1.trans st)
    · rw [em, show upperV (.str z) = .stuck from if_neg c] at em1
      exact absurd em1.symm e2
  | _ => rw [em] at em1; exact absurd em1.symm e2
/-! list(..) of a thing -/
def lstA : PyData → R PyData
  | .tuple ds => .ok (.list ds)
  | .list ds => .ok (.list ds)
  | _ => .stuck
def rLstA (K : PySem.W.Frag) : V → Hp → VK → Prop := fun x H Q => ∃ a xs, x = .ref a ∧ (SqT K H a xs ∨ SqL K H a xs) ∧ ∀ p H', Kp Non H H' → H p = none → H' p = some (.lst xs) → Q (.ref p) H'
theorem call_lstA {X : Cx} : CallR X (.type "list") (arg1 (rLstA X.K)) := by
  intro pins s σ H vs us Q I r0 ⟨x, e, a, xs, ex, h, q⟩
  subst e ex
  rcases h with h | h
  · exact call_listG pins s σ H _ us Q I r0 (sListT h fun l H' kp nl hl => q l H' kp nl hl)
  · exact call_listG pins s σ H _ us Q I r0 (sListL h fun l H' kp nl hl => q l H' kp nl hl)
theorem caK_lstA {d : PyData} {k : PyData → R β} (hm : m = (lstA d).bind k) (z : ∀ a, Φ (.shr a) env (k a)) : CaK Γ (arg1 (rLstA Γ.K)) [.shr d] env ts m Φ := by
  intro o e1 e2 σ w vs us ws bs Q R el X kk
  match ws, el with
  | [x], _ =>
    have R : Rel Γ.K w σ env (x :: vs) (.shr d :: ts) us bs := R
    obtain ⟨F, g⟩ := R.top
    cases d with
    | tuple ds =>
      obtain ⟨a, xs, rfl, h1, h2⟩ := shdTup g.2.1
      refine ⟨_, rfl, a, xs, rfl, .inl h1, fun p H' kp np hp => ?_⟩
      obtain ⟨w', rfl, R', st⟩ := Rel.newS (ws := [V.ref a]) (rs := [.shr (.tuple ds)]) R rfl kp np hp h2 g.2.2.1 g.2.2.2
      exact kk _ _ _ _ w' (z _) (by rw [← e1, hm]; rfl) R' st
    | list ds =>
      obtain ⟨a, xs, rfl, h1, h2⟩ := shdLst g.2.1
      refine ⟨_, rfl, a, xs, rfl, .inr h1, fun p H' kp np hp => ?_⟩
      obtain ⟨w', rfl, R', st⟩ := Rel.newS (ws := [V.ref a]) (rs := [.shr (.list ds)]) R rfl kp np hp h2 g.2.2.1 g.2.2.2
      exact kk _ _ _ _ w' (z _) (by rw [← e1, hm]; rfl) R' st
    | _ => rw [hm] at e1; exact absurd e1.symm e2
end
end Vl
/-! Calls that hand things on. -/
namespace Vl
open PySem PySem.Spec PyProof.Rows L2 Hw
inductive FitS : List Pm → List Arg → List PyData → Prop
  | nil : FitS [] [] []
  | imm {d : PyData} {ps : List Pm} {as : List Arg} {ds : List PyData} : FitS ps as ds → FitS (.imm :: ps) (.val (.imm d) :: as) (d :: ds)
  | shr {d : PyData} {ps : List Pm} {as : List Arg} {ds : List PyData} : FitS ps as ds → FitS (.shr :: ps) (.val (.shr d) :: as) (d :: ds)
  | shi {d : PyData} {ps : List Pm} {as : List Arg} {ds : List PyData} : FitS ps as ds → FitS (.shr :: ps) (.val (.imm d) :: as) (d :: ds)
theorem fitS {K : PySem.W.Frag} {H : Hp} {Sh : Addr → Prop} {σ : L2.St} : ∀ {ps : List Pm} {as : List Arg} {ds : List PyData} {all ws : List V} {A : List Addr},
    FitS ps as ds → Fits σ as all ws → Tms K H Sh ws (vals as) A → ArgsR K H Sh ps all ds [] ∧ ∀ {H' : Hp} {ios : List PyData} {F : List Addr}, IoR K H' ps all ios F → ios = [] ∧ F = []
  | _, _, _, _, _, _, .nil, .nil, _ => ⟨.nil, fun h => by cases h; exact ⟨rfl, rfl⟩⟩
  | _, _, _, _, _, _, .imm q, .val f, .cons h t => by
    obtain ⟨q1, q2⟩ := fitS q f t
    exact ⟨.imm h.2.1 h.2.2 q1, fun z => by cases z with | imm z => exact q2 z⟩
  | _, _, _, _, _, _, .shr q, .val f, .cons h t => by
    obtain ⟨q1, q2⟩ := fitS q f t
    exact ⟨.shr h.2.1 h.2.2 q1, fun z => by cases z with | shr z => exact q2 z⟩
  | _, _, _, _, _, _, .shi q, .val f, .cons h t => by
    obtain ⟨q1, q2⟩ := fitS q f t
    exact ⟨.shr (.leaf h.2.1) h.2.2 q1, fun z => by cases z with | shr z => exact q2 z⟩
inductive FitIS (env : List Sl) : List Pm → List Arg → List PyData → Nat → PyData → (PyData → Sl) → Bool → Prop
  | io {j : Nat} {r : Sl} {d : PyData} {mk : PyData → Sl} {ps : List Pm} {as : List Arg} {ds : List PyData} : env[j]? = some r → OwnSl r d mk → FitS ps as ds → FitIS env (.io :: ps) (.al j :: as) (d :: ds) j d mk false
  | fd {j : Nat} {r : Sl} {d : PyData} {mk : PyData → Sl} {ps : List Pm} {as : List Arg} {ds : List PyData} : env[j]? = some r → FdSl r d mk → FitS ps as ds → FitIS env (.fd :: ps) (.al j :: as) (d :: ds) j d mk true
theorem fitIS {b : Bool} {K : PySem.W.Frag} {H : Hp} {Sh : Addr → Prop} {σ : L2.St} {env : List Sl} {j : Nat} {ps : List Pm} {as : List Arg} {ds : List PyData} {x : PyData} {mk : PyData → Sl} {all ws : List V} {A F2 : List Addr} {v : V}
    (h : FitIS env ps as ds j x mk b) (f : Fits σ as all ws) (t : Tms K H Sh ws (vals as) A) (ej : σ[j]? = some (some v)) (ho : WrR K b H v x F2) :
    ArgsR K H Sh ps all ds F2 ∧ ∀ {H' : Hp} {ios : List PyData} {F : List Addr}, IoR K H' ps all ios F → ∃ d', ios = [d'] ∧ WrR K b H' v d' F := by
  cases h with
  | io e om q =>
    cases f with
    | al es f =>
      rw [es] at ej
      cases ej
      obtain ⟨q1, q2⟩ := fitS q f t
      refine ⟨by have := ArgsR.io ho.1 ho.2 q1; rwa [List.append_nil] at this, fun z => ?_⟩
      cases z with
      | io z1 z2 z3 =>
        obtain ⟨rfl, rfl⟩ := q2 z3
        exact ⟨_, rfl, by rw [List.append_nil]; exact ⟨z1, z2⟩⟩
  | fd e om q =>
    cases f with
    | al es f =>
      rw [es] at ej
      cases ej
      obtain ⟨q1, q2⟩ := fitS q f t
      refine ⟨by have := ArgsR.fd ho q1; rwa [List.append_nil] at this, fun z => ?_⟩
      cases z with
      | fd z1 z3 =>
        obtain ⟨rfl, rfl⟩ := q2 z3
        exact ⟨_, rfl, by rw [List.append_nil]; exact z1⟩
theorem fitISj {env : List Sl} {ps : List Pm} {as : List Arg} {ds : List PyData} {j : Nat} {x : PyData} {mk : PyData → Sl} {b : Bool} (h : FitIS env ps as ds j x mk b) : ∃ r, env[j]? = some r ∧ WrSl b r x mk := by
  cases h with
  | io e om _ => exact ⟨_, e, om⟩
  | fd e om _ => exact ⟨_, e, om⟩
inductive RetS : Sl → Prop
  | imm (d : PyData) : RetS (.imm d)
  | shr (d : PyData) : RetS (.shr d)
theorem Tr.nonm {K : PySem.W.Frag} {H H' : Hp} {Sh Sh' : Addr → Prop} (k : Kp Non H H') (i : ∀ a, Sh a → Sh' a) {F : List Addr} : Tr K H H' Sh Sh' F id := ⟨fun _ _ _ _ h => (h.non k).mono i, rfl⟩
theorem Tr.kpm {K : PySem.W.Frag} {H H' : Hp} {S Sh Sh' : Addr → Prop} (k : Kp S H H') (s : ∀ a, Sh a → ¬ S a) (i : ∀ a, Sh a → Sh' a) {F : List Addr} (f : ∀ a ∈ F, ¬ S a) : Tr K H H' Sh Sh' F kill :=
  ⟨fun _ _ _ m h => (h.kp k s fun a ha => f a (m a ha)).mono i, rfl⟩
theorem retS_nil {K : PySem.W.Frag} {H : Hp} {Sh : Addr → Prop} {v : V} {r : Sl} {G : List Addr} (h : SlR K H Sh v r G) (q : RetS r) : G = [] := by
  cases q with
  | imm d => exact h.1
  | shr d => exact h.1
section
variable {Γ : Ctx} {β : Type} {m : R β} {env ts : List Sl} {ta : TA} {Φ : Sl → List Sl → R β → Prop}
theorem ev_callSX {α ω : Type} {ps : List Pm} {enc : α → List PyData} {f : α → R ω} {rm : ω → Sl} {io : ω → List PyData}
    (h : EX Γ ta env ts m fun as env1 m1 => ∃ a, FitS ps as (enc a) ∧ Γ.L env1 ∧ ∃ kk : ω → R β, m1 = (f a).bind kk ∧ ∀ z, RetS (rm z) ∧ Φ (rm z) env1 (kk z)) : EV Γ (tCallS (spV Γ.K Γ.cm ps enc f rm io) Γ.E ta) env ts m Φ := by
  intro o e1 e2 σ w vs us bs Q R X kz
  refine h o e1 e2 σ w vs us bs _ R X fun as env1 m1 all ws w1 ⟨a, hf, hL, kk, em, hk⟩ em1 R1 el ft s1 => ?_
  have X1 := X.step s1
  obtain ⟨F, G, B, h1, h2, h3, eO⟩ := R1.ex
  obtain ⟨A, G', eG, ha, h2'⟩ := h2.split (by simp [el])
  obtain ⟨A', ha', _⟩ := ha.unrev
  have eo : (f a).bind kk = o := by rw [← em1, em]
  obtain ⟨ar, ioE⟩ := fitS hf ft ha'
  show spV Γ.K Γ.cm ps enc f rm io all w1.H Q (Γ.E σ)
  refine ⟨a, w1.Sh, [], ar, List.nodup_nil, fun _ z => (List.not_mem_nil z).elim, R1.lv, fun z => by rw [z] at eo; exact e2 eo.symm, fun z hz v w' st ⟨Fz, Gz, q1, q2, q3⟩ nd ok => ?_, fun e he C d H' hc hx hk fr => ?_⟩
  · have kp : Kp Non w1.H w'.H := st.kp.wide fun _ z => (List.not_mem_nil z).elim
    obtain ⟨ro, hφ⟩ := hk z
    have eGz := retS_nil q2 ro
    subst eGz
    have nd0 := R1.nd
    rw [eO, eG] at nd0
    have sub : ∀ b ∈ F ++ (G' ++ B), b ∈ w1.O := fun b m => by
      rw [eO, eG]
      rcases List.mem_append.mp m with y | y
      · exact List.mem_append_left _ y
      · rcases List.mem_append.mp y with y | y
        · exact List.mem_append_right _ (List.mem_append_left _ (List.mem_append_right _ y))
        · exact List.mem_append_right _ (List.mem_append_right _ y)
    have sn : ∀ b, w'.Sh b → w1.Sh b ∨ w1.H b = none := fun b q => (st.sn b q).imp_right fun y => y.elim (fun y => (List.not_mem_nil y).elim) id
    have t1 := h1.tr (Tr.nonm (F := F) kp st.sh)
    have t2 := h2'.tr (Tr.nonm (F := G') kp st.sh)
    have t3 := h3.tr (Tr.nonm (F := B) kp st.sh)
    rw [mapId] at t1 t2 t3
    have R2 : Rel Γ.K ⟨w'.H, w'.Sh, F ++ (G' ++ B)⟩ σ env1 (v :: vs) (rm z :: ts) us bs := by
      refine ⟨⟨F, G', B, t1, Tms.cons (F := []) q2 t2, t3, rfl⟩, nodupSub (B' := G') nd0 (List.nodup_append.mp (List.nodup_append.mp (List.nodup_append.mp nd0).2.1).1).2.1 fun x hx => List.mem_append_right _ hx, fun b hb q => ?_, ok.2, R1.kl⟩
      rcases sn b q with y | y
      · exact R1.out b (sub b hb) y
      · exact R1.live b (sub b hb) y
    exact kz _ _ _ v ⟨w'.H, w'.Sh, F ++ (G' ++ B)⟩ hφ (by rw [← eo, hz]; rfl) R2 (s1.trans ⟨kp.wide fun _ z => z.elim, fun b hb => .inl (sub b hb), st.sh, fun b q => (sn b q).imp_right .inr⟩)
  · have kp : Kp Non w1.H H' := hk.wide fun _ z => (List.not_mem_nil z).elim
    exact Γ.go (X1 e (by rw [← eo, he]; rfl)) (Step.non kp) (R1.non kp) hL hc hx fr
theorem ev_callS {K : PySem.W.Frag} {cm : Str → Option Addr} {E : XK} {α ω : Type} {ps : List Pm} {enc : α → List PyData} {f : α → R ω} {rm : ω → Sl} {io : ω → List PyData}
    (h : EX (ctxF K cm E) ta env ts m fun as env1 m1 => ∃ a, FitS ps as (enc a) ∧ ∃ kk : ω → R β, m1 = (f a).bind kk ∧ ∀ z, RetS (rm z) ∧ Φ (rm z) env1 (kk z)) : EV (ctxF K cm E) (tCall (spV K cm ps enc f rm io) [] E ta) env ts m Φ := by
  rw [tCall_S]
  refine ev_callSX (Γ := ctxF K cm E) ?_
  intro o e1 e2 σ w vs us bs Q R X kk
  exact h o e1 e2 σ w vs us bs Q R X fun as env' m' all ws w' ⟨a, h1, h2⟩ => kk as env' m' all ws w' ⟨a, h1, trivial, h2⟩
theorem ev_callISX {α ω : Type} {ps : List Pm} {enc : α → List PyData} {f : α → R ω} {rm : ω → Sl} {io : ω → List PyData} (kt : ts.map kill = ts)
    (h : EX Γ ta env ts m fun as env1 m1 => ∃ a j x mk wb, FitIS env1 ps as (enc a) j x mk wb ∧ Γ.L ((env1.map kill).set j .no) ∧ ∃ kk : ω → R β, m1 = (f a).bind kk ∧ ∀ z, ∃ d', io z = [d'] ∧ RetS (rm z) ∧ Φ (rm z) ((env1.map kill).set j (mk d')) (kk z)) :
    EV Γ (tCallS (spV Γ.K Γ.cm ps enc f rm io) Γ.E ta) env ts m Φ := by
  intro o e1 e2 σ w vs us bs Q R X kz
  refine h o e1 e2 σ w vs us bs _ R X fun as env1 m1 all ws w1 ⟨a, j, x, mk, wb, hf, hL, kk, em, hk⟩ em1 R1 el ft s1 => ?_
  have X1 := X.step s1
  obtain ⟨F, G, B, h1, h2, h3, eO⟩ := R1.ex
  obtain ⟨A, G', eG, ha, h2'⟩ := h2.split (by simp [el])
  obtain ⟨A', ha', _⟩ := ha.unrev
  have eo : (f a).bind kk = o := by rw [← em1, em]
  obtain ⟨r0, ej, om⟩ := fitISj hf
  obtain ⟨ov, F1, F2, F3, es, hs, eF, go⟩ := h1.split ej
  rcases hs with ⟨z, _⟩ | ⟨vj, rfl, hs⟩
  · subst z; cases wb <;> cases om
  have hs0 : WrR Γ.K wb w1.H vj x F2 := by
    cases wb with
    | false =>
      cases om with
      | own => exact hs
      | iow => exact hs.1
    | true =>
      cases om with
      | fdo => exact hs
      | fdw => exact hs.1
  have nd0 := R1.nd
  rw [eO, eF, eG] at nd0
  have p : List.Perm ((F1 ++ (F2 ++ F3)) ++ ((A ++ G') ++ B)) (F2 ++ (A ++ ((F1 ++ F3) ++ (G' ++ B)))) := by
    refine List.perm_iff_count.mpr fun b => ?_
    simp only [List.count_append]
    omega
  have nd1 := p.nodup_iff.mp nd0
  have memO : ∀ b, b ∈ w1.O ↔ b ∈ F2 ++ (A ++ ((F1 ++ F3) ++ (G' ++ B))) := fun b => by rw [eO, eF, eG]; exact p.mem_iff
  obtain ⟨n1, n2, n3⟩ := List.nodup_append.mp nd1
  have nrest := (List.nodup_append.mp n2).2.1
  have offR : ∀ b ∈ (F1 ++ F3) ++ (G' ++ B), b ∉ F2 := fun b hb z => n3 b z b (List.mem_append_right _ hb) rfl
  have shOff : ∀ b, w1.Sh b → ¬ (b ∈ F2) := fun b q z => R1.out b ((memO b).mpr (List.mem_append_left _ z)) q
  have restO : ∀ b ∈ (F1 ++ F3) ++ (G' ++ B), b ∈ w1.O := fun b hb => (memO b).mpr (List.mem_append_right _ (List.mem_append_right _ hb))
  obtain ⟨ar, ioE⟩ := fitIS hf ft ha' es hs0
  show spV Γ.K Γ.cm ps enc f rm io all w1.H Q (Γ.E σ)
  refine ⟨a, w1.Sh, F2, ar, n1, fun b z q => shOff b q z, R1.lv, fun z => by rw [z] at eo; exact e2 eo.symm, fun z hz v w' st ⟨Fz, Gz, q1, q2, q3⟩ nd ok => ?_, fun e he C d H' hc hx hk2 fr => ?_⟩
  · obtain ⟨d', eio, ro, hφ⟩ := hk z
    have eGz := retS_nil q2 ro
    subst eGz
    rw [List.append_nil] at q3
    obtain ⟨d2, eio2, ow⟩ := ioE q1
    rw [eio] at eio2
    cases eio2
    have kp := st.kp
    have mkR : SlR Γ.K w'.H w'.Sh vj (mk d') Fz := by
      cases wb with
      | false =>
        cases om with
        | own => exact ow
        | iow => exact ⟨ow, hs.2⟩
      | true =>
        cases om with
        | fdo => exact ow
        | fdw => exact ⟨ow, hs.2⟩
    have tr : ∀ {L : List Addr}, (∀ b ∈ L, b ∈ (F1 ++ F3) ++ (G' ++ B)) → Tr Γ.K w1.H w'.H w1.Sh w'.Sh L kill := fun hL => Tr.kpm kp shOff st.sh fun b hb => offR b (hL b hb)
    have s1' := go (some vj) (mk d') Fz (tr fun b hb => List.mem_append_left _ hb) (.inr ⟨vj, rfl, mkR⟩)
    rw [setSome es] at s1'
    have t2 := h2'.tr (tr fun b hb => List.mem_append_right _ (List.mem_append_left _ hb))
    have t3 := h3.tr (tr fun b hb => List.mem_append_right _ (List.mem_append_right _ hb))
    rw [kt] at t2
    rw [R1.kl] at t3
    have ownZ : ∀ b, b ∈ Fz → b ∈ F2 ∨ w1.H b = none := fun b hb => st.own b (by rw [q3]; exact hb)
    have lvR := R1.live
    have apart : ∀ b, b ∈ Fz → b ∉ (F1 ++ F3) ++ (G' ++ B) := fun b hb hc => by
      rcases ownZ b hb with z | z
      · exact offR b hc z
      · exact lvR b (restO b hc) z
    have nO : Fz.Nodup := by rw [← q3]; exact nd
    have p2 : List.Perm ((F1 ++ (Fz ++ F3)) ++ (G' ++ B)) (Fz ++ ((F1 ++ F3) ++ (G' ++ B))) := by
      refine List.perm_iff_count.mpr fun b => ?_
      simp only [List.count_append]
      omega
    have outs : ∀ b ∈ (F1 ++ (Fz ++ F3)) ++ (G' ++ B), b ∈ w1.O ∨ w1.H b = none := fun b hb => by
      rcases List.mem_append.mp (p2.mem_iff.mp hb) with z | z
      · rcases ownZ b z with y | y
        · exact .inl ((memO b).mpr (List.mem_append_left _ y))
        · exact .inr y
      · exact .inl (restO b z)
    have R2 : Rel Γ.K ⟨w'.H, w'.Sh, (F1 ++ (Fz ++ F3)) ++ (G' ++ B)⟩ σ ((env1.map kill).set j (mk d')) (v :: vs) (rm z :: ts) us bs := by
      refine ⟨⟨_, G', B, s1', Tms.cons (F := []) q2 t2, t3, rfl⟩, p2.nodup_iff.mpr (List.nodup_append.mpr ⟨nO, nrest, fun b hb c hc e => apart b hb (e ▸ hc)⟩), fun b hb q => ?_, ok.2, R1.kl⟩
      rcases List.mem_append.mp (p2.mem_iff.mp hb) with y | y
      · exact ok.1 b (by rw [q3]; exact y) q
      · rcases st.sn b q with q | q | q
        · exact R1.out b (restO b y) q
        · exact offR b y q
        · exact lvR b (restO b y) q
    refine kz _ _ _ v ⟨w'.H, w'.Sh, (F1 ++ (Fz ++ F3)) ++ (G' ++ B)⟩ hφ (by rw [← eo, hz]; rfl) R2 (s1.trans ⟨kp.wide fun b z => (memO b).mpr (List.mem_append_left _ z), outs, st.sh, fun b q => ?_⟩)
    rcases st.sn b q with q | q | q
    · exact .inl q
    · exact .inr (.inl ((memO b).mpr (List.mem_append_left _ q)))
    · exact .inr (.inr q)
  · have tr : ∀ {L : List Addr}, (∀ b ∈ L, b ∈ (F1 ++ F3) ++ (G' ++ B)) → Tr Γ.K w1.H H' w1.Sh w1.Sh L kill := fun hL => Tr.kp hk2 shOff fun b hb => offR b (hL b hb)
    have s1' := go (some vj) .no [] (tr fun b hb => List.mem_append_left _ hb) (.inl ⟨rfl, rfl⟩)
    rw [setSome es] at s1'
    have t2 := h2'.tr (tr fun b hb => List.mem_append_right _ (List.mem_append_left _ hb))
    have t3 := h3.tr (tr fun b hb => List.mem_append_right _ (List.mem_append_right _ hb))
    rw [kt] at t2
    rw [R1.kl] at t3
    have outs : ∀ b ∈ (F1 ++ ([] ++ F3)) ++ (G' ++ B), b ∈ w1.O := restO
    have R2 : Rel Γ.K ⟨H', w1.Sh, (F1 ++ ([] ++ F3)) ++ (G' ++ B)⟩ σ ((env1.map kill).set j .no) vs ts us bs :=
      ⟨⟨_, G', B, s1', t2, t3, rfl⟩, nrest, fun b hb q => R1.out b (outs b hb) q, fun b q z => R1.lv b q (hk2.live b z), R1.kl⟩
    have st : Step w1 ⟨H', w1.Sh, (F1 ++ ([] ++ F3)) ++ (G' ++ B)⟩ := ⟨hk2.wide fun b z => (memO b).mpr (List.mem_append_left _ z), fun b hb => .inl (outs b hb), fun _ q => q, fun _ q => .inl q⟩
    exact Γ.go (X1 e (by rw [← eo, he]; rfl)) st R2 hL hc hx fr
theorem ev_callIS {K : PySem.W.Frag} {cm : Str → Option Addr} {E : XK} {α ω : Type} {ps : List Pm} {enc : α → List PyData} {f : α → R ω} {rm : ω → Sl} {io : ω → List PyData} (kt : ts.map kill = ts)
    (h : EX (ctxF K cm E) ta env ts m fun as env1 m1 => ∃ a j x mk wb, FitIS env1 ps as (enc a) j x mk wb ∧ ∃ kk : ω → R β, m1 = (f a).bind kk ∧ ∀ z, ∃ d', io z = [d'] ∧ RetS (rm z) ∧ Φ (rm z) ((env1.map kill).set j (mk d')) (kk z)) :
    EV (ctxF K cm E) (tCall (spV K cm ps enc f rm io) [] E ta) env ts m Φ := by
  rw [tCall_S]
  refine ev_callISX (Γ := ctxF K cm E) kt ?_
  intro o e1 e2 σ w vs us bs Q R X kk
  exact h o e1 e2 σ w vs us bs Q R X fun as env' m' all ws w' ⟨a, j, x, mk, wb, h1, h2⟩ => kk as env' m' all ws w' ⟨a, j, x, mk, wb, h1, trivial, h2⟩
end
section
variable {Γ : Ctx} {β : Type} {m : R β} {env ts : List Sl} {te : TE} {gs : TGs} {is : List Nat} {Φ : List Sl → R β → Prop} {Ψ : List PyData → (PyData → Sl) → List Sl → R β → Prop}
/-- items of a list, whatever they are -/
def itemsA : PyData → R (List PyData)
  | .list ds => .ok ds
  | _ => .stuck
@[simp] theorem itemsA_l (ds : List PyData) : itemsA (.list ds) = .ok ds := rfl
theorem iv_lstA (h : EV Γ te env ts m fun r env1 m1 => ∃ d kk, r = .shr d ∧ m1 = (itemsA d).bind kk ∧ ∀ ds, Ψ ds .shr env1 (kk ds)) : IV Γ (iList Γ.K te) env ts m Ψ := by
  refine iv_lstS ?_
  intro o e1 e2 σ w vs us bs Q R X kz
  refine h o e1 e2 σ w vs us bs _ R X fun r env1 m1 v w1 ⟨d, kk, er, em, hk⟩ em1 R1 s1 => ?_
  match d, er, em with
  | .list ds, er, em => exact kz r env1 _ v w1 ⟨ds, er, hk ds⟩ (by rw [← em1, em]; rfl) R1 s1
  | .none, _, em => rw [em] at em1; exact absurd em1.symm e2
  | .bool _, _, em => rw [em] at em1; exact absurd em1.symm e2
  | .int _, _, em => rw [em] at em1; exact absurd em1.symm e2
  | .str _, _, em => rw [em] at em1; exact absurd em1.symm e2
  | .tuple _, _, em => rw [em] at em1; exact absurd em1.symm e2
  | .dict _, _, em => rw [em] at em1; exact absurd em1.symm e2
theorem gv_tupA2 {d : PyData} {k : PyData × PyData → R β} (hm : m = (unpk2 d).bind k) (h : ∀ z, GVs Γ gs is [.shr z.1, .shr z.2] env (k z) Φ) : GV Γ (gTup Γ.K 2 gs) is (.shr d) env m Φ := by
  intro o e1 e2
  have ns : unpk2 d ≠ .stuck := fun z => by rw [hm, z] at e1; exact e2 e1.symm
  match d, hm, ns with
  | .tuple [a, b], hm, _ => exact gv_tupNS (ds := [a, b]) rfl rfl (by rw [hm]; exact h (a, b)) o e1 e2
  | .tuple [], _, ns => exact absurd rfl ns
  | .tuple [_], _, ns => exact absurd rfl ns
  | .tuple (_ :: _ :: _ :: _), _, ns => exact absurd rfl ns
  | .none, _, ns => exact absurd rfl ns
  | .bool _, _, ns => exact absurd rfl ns
  | .int _, _, ns => exact absurd rfl ns
  | .str _, _, ns => exact absurd rfl ns
  | .list _, _, ns => exact absurd rfl ns
  | .dict _, _, ns => exact absurd rfl ns
theorem gv_tupA3 {d : PyData} {k : PyData × PyData × PyData → R β} (hm : m = (unpk3 d).bind k) (h : ∀ z, GVs Γ gs is [.shr z.1, .shr z.2.1, .shr z.2.2] env (k z) Φ) : GV Γ (gTup Γ.K 3 gs) is (.shr d) env m Φ := by
  intro o e1 e2
  have ns : unpk3 d ≠ .stuck := fun z => by rw [hm, z] at e1; exact e2 e1.symm
  match d, hm, ns with
  | .tuple [a, b, c], hm, _ => exact gv_tupNS (ds := [a, b, c]) rfl rfl (by rw [hm]; exact h (a, b, c)) o e1 e2
  | .tuple [], _, ns => exact absurd rfl ns
  | .tuple [_], _, ns => exact absurd rfl ns
  | .tuple [_, _], _, ns => exact absurd rfl ns
  | .tuple (_ :: _ :: _ :: _ :: _), _, ns => exact absurd rfl ns
  | .none, _, ns => exact absurd rfl ns
  | .bool _, _, ns => exact absurd rfl ns
  | .int _, _, ns => exact absurd rfl ns
  | .str _, _, ns => exact absurd rfl ns
  | .list _, _, ns => exact absurd rfl ns
  | .dict _, _, ns => exact absurd rfl ns
end
/-! one's own list, and one more behind it: items move -/
def catO (a b : List PyData) : R (List PyData) := if a.length + b.length ≤ sizeLine then .ok (a ++ b) else .stuck
theorem catO_eq {a b : List PyData} (h : a.length + b.length ≤ sizeLine) : catO a b = .ok (a ++ b) := if_pos h
theorem Owns.app {K : PySem.W.Frag} {H : Hp} {ys : List V} {es : List PyData} {G : List Addr} (q : Owns K H ys es G) : ∀ {xs : List V} {ds : List PyData} {F : List Addr}, Owns K H xs ds F → (∀ a ∈ F, a ∉ G) → Owns K H (xs ++ ys) (ds ++ es) (F ++ G)
  | _, _, _, .nil, _ => q
  | _, _, _, .cons (F := F) (G := G') h r n, d => by
    rw [List.append_assoc]
    exact .cons h (Owns.app q r fun a ha => d a (List.mem_append_right _ ha)) fun a ha z => by
      rcases List.mem_append.mp z with e | e
      · exact n a ha e
      · exact d a (List.mem_append_left _ ha) e
theorem ownLst {K : PySem.W.Frag} {H : Hp} {v : V} {ds : List PyData} {F : List Addr} (h : Own K H v (.list ds) F) : ∃ a xs F', v = .ref a ∧ F = a :: F' ∧ H a = some (.lst xs) ∧ Owns K H xs ds F' ∧ a ∉ F' := by
  cases h with
  | leaf h => cases h
  | lst h1 h2 h3 => exact ⟨_, _, _, rfl, rfl, h1, h2, h3⟩
theorem ownsLn {K : PySem.W.Frag} {H : Hp} : ∀ {xs : List V} {ds : List PyData} {F : List Addr}, Owns K H xs ds F → xs.length = ds.length
  | _, _, _, .nil => rfl
  | _, _, _, .cons _ r _ => by rw [List.length_cons, List.length_cons, ownsLn r]
section
variable {Γ : Ctx} {β : Type} {m : R β} {env env' ts : List Sl} {Φ : Sl → List Sl → R β → Prop}
theorem opK_catO {a b : List PyData} {k : List PyData → R β} (hm : m = (catO a b).bind k) (z : ∀ c, Φ (.own (.list c)) env (k c)) : OpK Γ (rCatS Γ.K) (.own (.list a)) (.own (.list b)) env ts m Φ := by
  intro o e1 e2 σ w vs us bs x y Q R X kk
  have c : a.length + b.length ≤ sizeLine := by
    by_cases c : a.length + b.length ≤ sizeLine
    · exact c
    · rw [hm, show catO a b = .stuck from if_neg c] at e1
      exact absurd e1.symm e2
  obtain ⟨F2, g2⟩ := R.top
  obtain ⟨F1, g1⟩ := R.under
  obtain ⟨p1, xs, F1', rfl, rfl, h1, o1, n1⟩ := ownLst g1.1
  obtain ⟨p2, ys, F2', rfl, rfl, h2, o2, n2⟩ := ownLst g2.1
  refine .inr ⟨p1, p2, xs, ys, rfl, rfl, by rw [ownsLn o1, ownsLn o2]; exact c, .inr ⟨.inl (.of h1), .inl (.of h2), fun p H' kp np hp => ?_⟩⟩
  obtain ⟨w', rfl, R', st⟩ := Rel.takeN (v := .ref p) (r := .own (.list (a ++ b))) (ws := [V.ref p2, V.ref p1]) (rs := [.own (.list b), .own (.list a)]) R rfl kp (fun A nA ht => by
    cases ht with
    | cons hb ht =>
    cases ht with
    | cons ha ht =>
    cases ht
    obtain ⟨q2, ys', G2, e2', rfl, j2, s2, m2⟩ := ownLst hb.1
    obtain ⟨q1, xs', G1, e1', rfl, j1, s1, m1⟩ := ownLst ha.1
    cases e1'
    cases e2'
    rw [h1] at j1
    rw [h2] at j2
    cases j1
    cases j2
    have nd := List.nodup_append.mp nA
    have dj : ∀ x ∈ G1, x ∉ G2 := fun x hx hy => nd.2.2 x (List.mem_cons_of_mem _ hy) x (by simp [hx]) rfl
    have on := Owns.app s2 s1 dj
    refine ⟨p :: (G1 ++ G2), ⟨.lst hp (Owns.kp kp on (fun _ _ z => z)) (fun z => on.live p z np), by rw [List.length_append]; exact c, szAll_append g1.2.2 g2.2.2⟩, List.nodup_cons.mpr ⟨fun z => on.live p z np, on.nd⟩, fun x hx => ?_⟩
    rcases List.mem_cons.mp hx with e | e
    · exact .inr (e ▸ np)
    · refine .inl ?_
      rcases List.mem_append.mp e with e | e
      · simp [e]
      · simp [e])
  exact kk _ _ _ _ w' (z _) (by rw [← e1, hm, catO_eq c]; rfl) R' st
end
/-! the last one out; the other way about -/
theorem tdsDropLast {K : PySem.W.Frag} {H : Hp} : ∀ {xs : List V} {ds : List PyData}, TDs K H xs ds → TDs K H xs.dropLast ds.dropLast
  | _, _, .nil => .nil
  | _, _, .cons h .nil => .nil
  | _, _, .cons h (.cons h2 r) => .cons h (tdsDropLast (.cons h2 r))
theorem tdsRev {K : PySem.W.Frag} {H : Hp} : ∀ {xs : List V} {ds : List PyData}, TDs K H xs ds → TDs K H xs.reverse ds.reverse
  | _, _, .nil => .nil
  | _, _, .cons h r => by rw [List.reverse_cons, List.reverse_cons]; exact (tdsRev r).append (.cons h .nil)
def popL (a : List PyData) : R (List PyData) := if immAll a = true ∧ a ≠ [] then .ok a.dropLast else .stuck
def turnL (a : List PyData) : R (List PyData) := if immAll a = true then .ok a.reverse else .stuck
section
variable {Γ : Ctx} {β : Type} {m : R β} {env : List Sl} {k : Ks β} {j : Nat} {kk : List PyData → R β}
theorem sv_pop {xs0 : List PyData} {r0 : Sl} {mk0 : PyData → Sl} (h0 : env[j]? = some r0) (om0 : OwnSl r0 (.list xs0) mk0) (hm : m = (popL xs0).bind kk) (hk : ∀ z, k.N ((env.map kill).set j (mk0 (.list z))) (kk z)) :
    SV Γ (tDrop (tBM0 Γ.K "list" rPop (tVar j))) env m k := by
  intro o e1 e2 σ w us bs D R X kN kB kC kT
  by_cases c : immAll xs0 = true ∧ xs0 ≠ []
  · obtain ⟨a, vs, es, ha, hl, hz, el, go⟩ := R.mut h0 om0
    have hp : 0 < xs0.length := List.length_pos_iff.mpr c.2
    have hy := List.getElem?_eq_getElem (show vs.length - 1 < vs.length by omega)
    refine ⟨.ref a, es, .inl ⟨rfl, _, .of ha⟩, a, vs, _, rfl, rfl, ha, hy, ?_⟩
    obtain ⟨w2, e, R2, s2⟩ := go (upd w.H a (.lst vs.dropLast)) vs.dropLast xs0.dropLast (Kp.putL ha) upd_same (fun Fi A oi tm nd na => ⟨[], Owns.imm (tdsDropLast (ownsImm oi c.1).1), List.nodup_nil, fun _ z => nomatch z⟩)
      (by rw [List.length_dropLast]; omega) (szAll_iff.mpr fun d hd => szAll_iff.mp hz d (List.dropLast_subset _ hd))
    rw [← e]
    exact kN _ _ σ w2 (hk _) (by rw [← e1, hm, show popL xs0 = .ok xs0.dropLast from if_pos c]; rfl) R2 s2
  · rw [hm, show popL xs0 = .stuck from if_neg c] at e1
    exact absurd e1.symm e2
theorem sv_turn {xs0 : List PyData} {r0 : Sl} {mk0 : PyData → Sl} (h0 : env[j]? = some r0) (om0 : OwnSl r0 (.list xs0) mk0) (hm : m = (turnL xs0).bind kk) (hk : ∀ z, k.N ((env.map kill).set j (mk0 (.list z))) (kk z)) :
    SV Γ (tDrop (tBM0 Γ.K "list" rReverse (tVar j))) env m k := by
  intro o e1 e2 σ w us bs D R X kN kB kC kT
  by_cases c : immAll xs0 = true
  · obtain ⟨a, vs, es, ha, hl, hz, el, go⟩ := R.mut h0 om0
    refine ⟨.ref a, es, .inl ⟨rfl, _, .of ha⟩, a, vs, rfl, rfl, ha, ?_⟩
    obtain ⟨w2, e, R2, s2⟩ := go (upd w.H a (.lst vs.reverse)) vs.reverse xs0.reverse (Kp.putL ha) upd_same (fun Fi A oi tm nd na => ⟨[], Owns.imm (tdsRev (ownsImm oi c).1), List.nodup_nil, fun _ z => nomatch z⟩)
      (by rw [List.length_reverse]; exact hl) (szAll_iff.mpr fun d hd => szAll_iff.mp hz d (List.mem_reverse.mp hd))
    rw [← e]
    exact kN _ _ σ w2 (hk _) (by rw [← e1, hm, show turnL xs0 = .ok xs0.reverse from if_pos c]; rfl) R2 s2
  · rw [hm, show turnL xs0 = .stuck from if_neg c] at e1
    exact absurd e1.symm e2
end
/-! put in at a place -/
def rInsG : V → List V → Hp → VK → Prop := fun x vs H Q => ∃ (l : Addr) (xs : List V) (i : Int) (y : V), x = .ref l ∧ vs = [.int i, y] ∧ H l = some (.lst xs) ∧ xs.length < sizeLine ∧ 0 ≤ i ∧ i < 2 ^ 63 ∧
  ∀ H', Kp (At l) H H' → H' l = some (.lst (xs.take i.toNat ++ [y] ++ xs.drop i.toNat)) → Q .non H'
theorem mt_insertG {X : Cx} : MtR X "list.insert" rInsG := by
  intro pins s σ H x xs v us Q I rx rv ⟨l, ys, i, y, e1, e2, h, hl, h0, h1, q⟩
  exact mt_insert pins s σ H x xs v us Q I rx rv ⟨l, ys, i, y, e1, e2, h, hl, h0, h1, q _ (Kp.putL h) upd_same⟩
def insL (a : List PyData) (n d : PyData) : R (List PyData) := match n with
  | .int i => if 0 ≤ i ∧ i < 2 ^ 63 ∧ immAll a = true ∧ a.length < sizeLine then .ok (a.take i.toNat ++ [d] ++ a.drop i.toNat) else .stuck
  | _ => .stuck
section
variable {Γ : Ctx} {β : Type} {m : R β} {env : List Sl} {k : Ks β} {j : Nat} {ta : TA}
theorem tdsTake {K : PySem.W.Frag} {H : Hp} : ∀ {xs : List V} {ds : List PyData} (n : Nat), TDs K H xs ds → TDs K H (xs.take n) (ds.take n)
  | _, _, 0, _ => by simp; exact .nil
  | _, _, n + 1, .nil => by simp; exact .nil
  | _, _, n + 1, .cons h r => by rw [List.take_succ_cons, List.take_succ_cons]; exact .cons h (tdsTake n r)
theorem tdsDrop {K : PySem.W.Frag} {H : Hp} : ∀ {xs : List V} {ds : List PyData} (n : Nat), TDs K H xs ds → TDs K H (xs.drop n) (ds.drop n)
  | _, _, 0, h => h
  | _, _, n + 1, .nil => .nil
  | _, _, n + 1, .cons h r => tdsDrop n r
theorem sv_ins {xs0 : List PyData} {r0 : Sl} {mk0 : PyData → Sl} (h0 : env[j]? = some r0) (om0 : OwnSl r0 (.list xs0) mk0)
    (h : EA Γ ta env [] m fun rs env1 m1 => ∃ n d xs r1 mk kk, rs = [.imm n, .imm d] ∧ env1[j]? = some r1 ∧ OwnSl r1 (.list xs) mk ∧ m1 = (insL xs n d).bind kk ∧ ∀ z, k.N ((env1.map kill).set j (mk (.list z))) (kk z)) :
    SV Γ (tDrop (tBM Γ.K "list" rInsG (tVar j) ta)) env m k := by
  intro o e1 e2 σ w us bs D R X kN kB kC kT
  obtain ⟨a0, xs0', es0, ha0, _⟩ := R.mut h0 om0
  refine ⟨.ref a0, es0, .inl ⟨rfl, _, .of ha0⟩, ?_⟩
  refine h o e1 e2 σ w [] us bs _ R X fun rs env1 m1 ws w1 ⟨n, d, xs, r1, mk, kk, er, hj, om, em, hk⟩ em1 R1 el s1 => ?_
  subst er
  match ws, el, R1 with
  | [x, y], _, R1 =>
  have R1 : Rel Γ.K w1 σ env1 [y, x] [.imm d, .imm n] us bs := R1
  cases n with
  | int i =>
    by_cases c : 0 ≤ i ∧ i < 2 ^ 63 ∧ immAll xs = true ∧ xs.length < sizeLine
    · rw [show insL xs (.int i) d = .ok (xs.take i.toNat ++ [d] ++ xs.drop i.toNat) from if_pos c] at em
      obtain ⟨F2, g2⟩ := R1.top
      obtain ⟨F1, g1⟩ := Rel.under (vs := []) (ts := []) R1
      have ex := g1.2.1.toInt
      subst ex
      obtain ⟨a, vs, es, ha, hl, hz, el2, go⟩ := R1.mut hj om
      rw [es0] at es
      cases es
      refine ⟨a0, vs, i, y, rfl, rfl, ha, by omega, c.1, c.2.1, fun H' kp ha' => ?_⟩
      obtain ⟨w2, rfl, R2, s2⟩ := go H' (vs.take i.toNat ++ [y] ++ vs.drop i.toNat) (xs.take i.toNat ++ [d] ++ xs.drop i.toNat) kp ha' (fun Fi A oi tm nd na => by
        have t := (ownsImm oi c.2.2.1).1
        exact ⟨[], Owns.imm (((tdsTake i.toNat t).append (.cons g2.2.1 .nil)).append (tdsDrop i.toNat t)), List.nodup_nil, fun _ z => nomatch z⟩) (by
          simp only [List.length_append, List.length_take, List.length_drop, List.length_cons, List.length_nil]
          omega) (szAll_iff.mpr fun e he => by
          rcases List.mem_append.mp he with q | q
          · rcases List.mem_append.mp q with q | q
            · exact szAll_iff.mp hz e (List.mem_of_mem_take q)
            · rw [List.mem_singleton.mp q]; exact g2.2.2
          · exact szAll_iff.mp hz e (List.mem_of_mem_drop q))
      exact kN _ _ σ w2 (hk _) (by rw [← em1, em]; rfl) R2 (s1.trans s2)
    · rw [show insL xs (.int i) d = .stuck from if_neg c] at em
      rw [em] at em1
      exact absurd em1.symm e2
  | _ => rw [em] at em1; exact absurd em1.symm e2
end
/-! walked: a tuple or a list, whichever it is -/
section
variable {X : Cx}
def iSeq (K : PySem.W.Frag) (tl : TE) : TI := fun σ H R => tl σ H fun x G => ∃ a, x = .ref a ∧ (((∃ xs, SqL K G a xs) ∧ R (Itl K a) G) ∨ ((∃ xs, SqT K G a xs) ∧ R (Itt K a) G))
theorem pi_seq {tg l : Expr} {tl : TE} (he : PE X l tl) : PI X tg l (iSeq X.K tl) := by
  constructor
  intro pins s σ H R I h
  refine thn (he.run pins s σ H _ I h) ?_
  rintro v z ⟨x, G, J, rx, a, rfl, hh⟩
  cases rx
  have fp : ∀ b : Addr, b ∈ [z.heap.objs.size] → FpOk X pins G b := fun b hb => by
    rw [List.mem_singleton.mp hb]
    exact J.fpOk (Nat.le_refl _) (J.hok.fresh (Nat.le_refl _))
  rcases hh with ⟨⟨xs, hq⟩, q⟩ | ⟨⟨xs, hq⟩, q⟩
  · obtain ⟨us, rv, p, hz⟩ := J.list hq
    exact wpAny_pyIter_list p.isList ⟨_, [_], _, _, G, rfl, J.kept (t' := z.toks) (fun _ _ e => Heap.get?_push_of_some _ e), turn_list a _, ⟨_, Heap.get?_push_size _ rfl, rfl, rfl⟩, fp, q⟩
  · obtain ⟨us, rv, p, hz⟩ := J.tuple hq
    exact wpAny_pyIter_tuple (show z.heap.IsTuple a us.toArray from p) ⟨_, [_], _, _, G, rfl, J.kept (t' := z.toks) (fun _ _ e => Heap.get?_push_of_some _ e), turn_tuple a _, ⟨_, Heap.get?_push_size _ rfl, rfl, rfl⟩, fp, q⟩
end
def itemsTL : PyData → R (List PyData)
  | .list ds => .ok ds
  | .tuple ds => .ok ds
  | _ => .stuck
section
variable {Γ : Ctx} {β : Type} {m : R β} {env ts : List Sl} {te : TE} {Ψ : List PyData → (PyData → Sl) → List Sl → R β → Prop}
theorem iv_seqA (h : EV Γ te env ts m fun r env1 m1 => ∃ d kk, r = .shr d ∧ m1 = (itemsTL d).bind kk ∧ ∀ ds, Ψ ds .shr env1 (kk ds)) : IV Γ (iSeq Γ.K te) env ts m Ψ := by
  intro o e1 e2 σ w vs us bs Z R X kz
  refine h o e1 e2 σ w vs us bs _ R X fun r env1 m1 v w1 ⟨d, kk, er, em, hk⟩ em1 R1 s1 => ?_
  subst er
  obtain ⟨F, hF⟩ := R1.top
  cases d with
  | tuple ds =>
    obtain ⟨a, xs, rfl, h1, h2⟩ := shdTup hF.2.1
    have hz := hF.2.2
    obtain ⟨w2, e2', R2, s2⟩ := R1.toIt (r' := .itP a xs ds) rfl fun F2 hF2 => ⟨hF2.1, h1, h2, hz.2⟩
    refine ⟨a, rfl, .inr ⟨⟨xs, h1⟩, ?_⟩⟩
    rw [← e2']
    exact kz _ ds .shr _ _ env1 _ w2 (hk ds) (by rw [← em1, em]; rfl) (walkTP (shdsLen h2) hz.1) R2 (s1.trans s2)
  | list ds =>
    obtain ⟨_, h, hz⟩ := hF
    cases h with
    | leaf h => cases h
    | lst ha hs hi =>
      rename_i a xs
      obtain ⟨w2, e2', R2, s2⟩ := R1.toIt (r' := .itS a xs ds) rfl fun F2 hF2 => ⟨hF2.1, ha, hs, hi, hz.2⟩
      refine ⟨a, rfl, .inl ⟨⟨xs, ha⟩, ?_⟩⟩
      rw [← e2']
      exact kz _ ds .shr [_] [_] env1 _ w2 (hk ds) (by rw [← em1, em]; rfl) (walkSS (shdsLen hi) hz.1) R2 (s1.trans s2)
  | _ => rw [em] at em1; exact absurd em1.symm e2
end
end Vl
/-! Comprehensions whose items are things: what they gather is a thing, too. -/
namespace Vl
open PySem PySem.Spec PyProof.Rows L2 Hw
/-- a list that is being filled, apart from all else -/
structure Stand (K : PySem.W.Frag) (w : Wd) (D : Addr) (xs : List V) (acc : List PyData) : Prop where
  at_ : w.H D = some (.lst xs)
  no : D ∉ w.O
  ns : ¬ w.Sh D
  it : Shds K w.H w.Sh xs acc
  sz : szAll acc
section
variable {K : PySem.W.Frag} {w w' w1 w2 : Wd} {σ : L2.St} {env : List Sl} {vs us ws : List V} {ts bs rs : List Sl} {D : Addr} {xs ys : List V} {acc : List PyData} {o : HO}
theorem Stand.step (S : Stand K w D xs acc) (ho : ∀ a ∈ w.O, ¬ w.Sh a) (s : Step w w') : Stand K w' D xs acc :=
  have nn : ¬ w.H D = none := fun z => by have := S.at_; rw [z] at this; cases this
  ⟨s.kp.same D _ S.no S.at_, (fun h => (s.own D h).elim S.no nn),
    (fun h => (s.sn D h).elim S.ns fun q => q.elim S.no nn),
    (S.it.kp s.kp fun a q z => ho a z q).mono s.sh, S.sz⟩
theorem stepPoke (s : Step w1 w2) (n : w1.H D = none) : Step w1 ⟨upd w2.H D o, w2.Sh, w2.O⟩ := by
  have ne : ∀ {c : Addr} {q : HO}, w1.H c = some q → c ≠ D := fun e z => by rw [z, n] at e; cases e
  refine ⟨⟨fun c q h e => ?_, fun c q e => ?_, fun c q u e => ?_, fun c e => ?_⟩, s.own, s.sh, s.sn⟩
  · show upd w2.H D o c = _
    rw [upd_ne (ne e)]
    exact s.kp.same c q h e
  · show upd w2.H D o c = _
    rw [upd_ne (ne e)]
    exact s.kp.tups c q e
  · show upd w2.H D o c = _
    rw [upd_ne (ne e)]
    exact s.kp.frzs c q u e
  · have e : upd w2.H D o c = none := e
    by_cases z : c = D
    · rw [z]; exact n
    · rw [upd_ne z] at e
      exact s.kp.live c e
theorem Rel.poke (R : Rel K w σ env vs ts us bs) (S : Stand K w D xs acc) (kl : ts.map kill = ts) (ke : env.map kill = env) : Rel K ⟨upd w.H D (.lst ys), w.Sh, w.O⟩ σ env vs ts us bs := by
  obtain ⟨F, G, B, h1, h2, h3, e⟩ := R.ex
  have kp : Kp (At D) w.H (upd w.H D (.lst ys)) := Kp.putL S.at_
  have off : ∀ b ∈ w.O, b ≠ D := fun b hb z => S.no (z ▸ hb)
  have shOff : ∀ b, w.Sh b → ¬ At D b := fun b q z => S.ns ((show b = D from z) ▸ q)
  have s1 := h1.tr (Tr.kp kp shOff (fun b hb => off b (by rw [e]; exact List.mem_append_left _ hb)))
  have s2 := h2.tr (Tr.kp kp shOff (fun b hb => off b (by rw [e]; exact List.mem_append_right _ (List.mem_append_left _ hb))))
  have s3 := h3.tr (Tr.kp kp shOff (fun b hb => off b (by rw [e]; exact List.mem_append_right _ (List.mem_append_right _ hb))))
  rw [ke] at s1
  rw [kl] at s2
  rw [R.kl] at s3
  exact ⟨⟨F, G, B, s1, s2, s3, e⟩, R.nd, R.out, fun b q z => R.lv b q (kp.live b z), R.kl⟩
theorem shdsSnoc {H : Hp} {Sh : Addr → Prop} : ∀ {xs : List V} {ds : List PyData} {v : V} {d : PyData}, Shds K H Sh xs ds → Shd K H Sh v d → Shds K H Sh (xs ++ [v]) (ds ++ [d])
  | _, _, _, _, .nil, h => .cons h .nil
  | _, _, _, _, .cons a t, h => .cons a (shdsSnoc t h)
theorem Rel.dropBase (R : Rel K w σ env vs ts (ws ++ us) (rs ++ bs)) (el : ws.length = rs.length) : ∃ w', w'.H = w.H ∧ Rel K w' σ env vs ts us bs ∧ Step w w' := by
  obtain ⟨F, G, B, h1, h2, h3, e⟩ := R.ex
  obtain ⟨A, B', eB, _, g3⟩ := h3.split el
  subst eB
  have p : List.Perm (F ++ (G ++ (A ++ B'))) (A ++ (F ++ (G ++ B'))) := by
    refine List.perm_iff_count.mpr fun b => ?_
    simp only [List.count_append]
    omega
  have nd := R.nd
  rw [e] at nd
  have nd2 := (List.nodup_append.mp (p.nodup_iff.mp nd)).2.1
  have sb : ∀ a ∈ F ++ (G ++ B'), a ∈ w.O := fun a ha => by rw [e]; exact p.mem_iff.mpr (List.mem_append_right _ ha)
  have klb : bs.map kill = bs := by
    have := R.kl
    rw [List.map_append] at this
    exact (List.append_inj this (List.length_map _)).2
  exact ⟨⟨w.H, w.Sh, F ++ (G ++ B')⟩, rfl, ⟨⟨F, G, B', h1, h2, g3, rfl⟩, nd2, fun a ha => R.out a (sb a ha), R.lv, klb⟩, ⟨Kp.refl, fun a ha => .inl (sb a ha), fun _ q => q, fun _ q => .inl q⟩⟩
end
section
variable {Γ : Ctx} {β : Type} {m : R β} {env ts : List Sl} {te : TE} {tt : TT} {wi : TI} {g : TG} {is : List Nat} {Φ : Sl → List Sl → R β → Prop}
theorem ev_lcA {S : Type} {vs : List Nat} (envOf : S → List Sl) (hno : ∀ s, ∀ i ∈ vs, ∀ r, (envOf s)[i]? = some r → r = .no) (hkl : ∀ s, (envOf s).map kill = envOf s) (his : ∀ i ∈ is, i ∈ vs) (ktl : ts.map kill = ts)
    (h : IV Γ wi env ts m fun ds md env1 m1 => ∃ (s0 : S) (body : PyData → S → R (Option PyData × S)) (kk : List PyData × S → R β), m1 = (lcR ds s0 body).bind kk ∧ Les env1 (envOf s0) ∧
      (∀ d s, d ∈ ds → GV Γ g is (md d) (envOf s) (body d s) fun env2 m2 => TV Γ tt env2 ts m2 fun b env3 m3 => ∃ ma mb, m3 = (bif b then ma else mb) ∧
        (b = true → EV Γ te env3 ts ma fun r env4 m4 => ∃ s y, m4 = .ok (some y, s) ∧ r = .shr y ∧ Les env4 (envOf s)) ∧ (b = false → ∃ s, mb = .ok (Option.none, s) ∧ Les env3 (envOf s))) ∧
      ∀ p, Φ (.shr (.list p.1)) (envOf p.2) (kk p)) : EV Γ (tLc wi g tt te vs) env ts m Φ := by
  intro o e1 e2 σ w vs0 us bs Q R X kz
  refine h o e1 e2 σ w vs0 us bs _ R X fun J ds md rs ws env1 m1 w1 ⟨s0, body, kk, em, l0, hb, hk⟩ em1 W R1 st1 => ?_
  obtain ⟨Gh, Y, wk, wG, wY⟩ := W.ex
  intro D nD
  let Pv : Nat → Hp → Prop := fun i H2 => ∃ w2 s acc xs, w2.H = H2 ∧ Stand Γ.K w2 D xs acc ∧ Rel Γ.K w2 σ (envOf s) vs0 ts (ws ++ us) (rs ++ bs) ∧ Step w1 w2 ∧ acc.length ≤ i ∧ ((lcR (ds.drop i) s body).bind fun q => .ok (acc ++ q.1, q.2)).bind kk = o
  refine lc_it wk Pv ?_ ?_ ?_ ?_
  · obtain ⟨w2, e3, R2, st2⟩ := R1.les l0
    have nD2 : w2.H D = none := by rw [e3]; exact nD
    have kp : Kp Non w2.H (upd w2.H D (.lst [])) := Kp.new (o := .lst []) nD2
    refine ⟨{ w2 with H := upd w2.H D (.lst []) }, s0, [], [], by rw [← e3], ⟨upd_same, fun z => R2.live D z nD2, fun z => R2.lv D z nD2, .nil, trivial⟩, R2.non kp, st2.trans (Step.non kp), Nat.zero_le _, ?_⟩
    rw [List.drop_zero, ← em1, em]
    cases lcR ds s0 body <;> rfl
  · rintro i H2 _ ⟨w2, s, acc, xs, rfl, _, R2, _⟩
    obtain ⟨A, ha⟩ := Rel.under1 (ws := ws) (rs := rs) (us := us) (bs := bs) R2 W.le
    exact wG _ _ _ ha
  · rintro i x H2 H3 hi ⟨w2, s, acc, xs, rfl, hS, R2, st2, hac, eo⟩ y
    obtain ⟨A, ha⟩ := Rel.under1 (ws := ws) (rs := rs) (us := us) (bs := bs) R2 W.le
    have ed : ds[i]? = some ds[i] := List.getElem?_eq_getElem hi
    obtain ⟨kp, sr⟩ := wY i _ _ _ _ _ _ ed ha R2.lv y
    rw [List.drop_eq_getElem_cons hi] at eo
    have R2w : Rel Γ.K w2 (wipe σ vs) (envOf s) vs0 ts (ws ++ us) (rs ++ bs) := by
      obtain ⟨F, G, B, h1, h2, h3, e⟩ := R2.ex
      exact ⟨⟨F, G, B, h1.wipe (hno s), h2, h3, e⟩, R2.nd, R2.out, R2.lv, R2.kl⟩
    have R3 := (R2w.non kp).push0 sr
    have s3 : Step w2 { w2 with H := H3 } := Step.non kp
    have hS3 := hS.step R2.out s3
    have X3 := X.step ((st1.trans st2).trans s3)
    generalize hbd : body ds[i] s = ob at *
    have eo2 : ((ob.bind fun p => (lcR (ds.drop (i + 1)) p.2 body).bind fun q => .ok (p.1.toList ++ q.1, q.2)).bind fun q => .ok (acc ++ q.1, q.2)).bind kk = o := by
      rw [← eo, ← hbd]; rfl
    have Xb : XOk Γ ob { w2 with H := H3 } (ws ++ us) (rs ++ bs) := fun e he => (X3.lay (ws := ws) (rs := rs) W.le) e (by rw [← eo2, he]; rfl)
    have nb : ob ≠ .stuck := fun z => by rw [z] at eo2; exact e2 eo2.symm
    refine hb ds[i] s (List.getElem_mem hi) ob hbd nb (wipe σ vs) { w2 with H := H3 } x vs0 (ws ++ us) ts (rs ++ bs) _ R3 Xb fun env2 m2 σ3 w3 h2 em2 R4 s4 q4 => ?_
    refine ⟨(q4 vs his).trans (by refine List.ext_getElem? fun n => ?_; simp only [wipeGet, wipe_length]; split <;> rfl), ?_⟩
    have wσ : wipe σ3 vs = wipe σ vs := (q4 vs his).trans (by refine List.ext_getElem? fun n => ?_; simp only [wipeGet, wipe_length]; split <;> rfl)
    refine h2 ob em2 nb σ3 w3 vs0 (ws ++ us) (rs ++ bs) _ R4 (Xb.step s4) fun b env3 m3 w5 ⟨ma, mb, em3, ha3, hb3⟩ em4 R5 s5 => ?_
    have bas := ((st2.trans s3).trans s4).trans s5
    have hS5 := hS3.step R3.out (s4.trans s5)
    have back : ∀ {wz : Wd} {e : List Sl} {vz : List V} {tz : List Sl} {s' : S}, Rel Γ.K wz σ3 e vz tz (ws ++ us) (rs ++ bs) → Les e (envOf s') → ∃ wy, wy.H = wz.H ∧ Rel Γ.K wy σ (envOf s') vz tz (ws ++ us) (rs ++ bs) ∧ Step wz wy := by
      intro wz e vz tz s' Rz l
      obtain ⟨wy, ey, Ry, sy⟩ := Rz.les l
      refine ⟨wy, ey, ?_, sy⟩
      obtain ⟨F, G, B, h1, h2, h3, e⟩ := Ry.ex
      have h1' := h1.wipe (hno s')
      rw [wσ] at h1'
      exact ⟨⟨F, G, B, h1'.unwipe (hno s'), h2, h3, e⟩, Ry.nd, Ry.out, Ry.lv, Ry.kl⟩
    cases b with
    | false =>
      rw [if_neg (by decide)]
      obtain ⟨s', es, l⟩ := hb3 rfl
      obtain ⟨wy, ey, Ry, sy⟩ := back R5 l
      refine ⟨wy, s', acc, xs, ey, hS5.step R5.out sy, Ry, bas.trans sy, by omega, ?_⟩
      have : ob = .ok (none, s') := by rw [← em4, em3, ← es]; rfl
      rw [← eo2, this]
      simp only [Vl.R.bind_ok]
      cases lcR (ds.drop (i + 1)) s' body <;> rfl
    | true =>
      rw [if_pos rfl]
      refine ha3 rfl ob (by rw [← em4, em3]; rfl) nb σ3 w5 vs0 (ws ++ us) (rs ++ bs) _ R5 ((Xb.step s4).step s5) fun r env4 m4 v w6 ⟨s', y2, es, er, l⟩ em5 R6 s6 => ?_
      subst er
      have hS6 := hS5.step R5.out s6
      have hsz := W.sz
      have hxl := shdsLen hS6.it
      have hsl : acc.length < sizeLine := by omega
      refine ⟨xs, hS6.at_, by omega, ?_⟩
      obtain ⟨w7, e7, R7, s7⟩ := back R6 l
      have hS7 := hS6.step R6.out s7
      obtain ⟨Fv, hv⟩ := R7.top
      obtain ⟨w8, e8, R8, s8⟩ := Rel.pops (ws := [v]) (rs := [.shr y2]) R7 rfl
      have hS8 := hS7.step R7.out s8
      have hv8 : Shd Γ.K w8.H w8.Sh v y2 := by rw [e8]; exact hv.2.1.mono s8.sh
      have kp8 : Kp (At D) w8.H (upd w8.H D (.lst (xs ++ [v]))) := Kp.putL hS8.at_
      have shOff : ∀ b, w8.Sh b → ¬ At D b := fun b q z => hS8.ns ((show b = D from z) ▸ q)
      refine ⟨⟨upd w8.H D (.lst (xs ++ [v])), w8.Sh, w8.O⟩, s', acc ++ [y2], xs ++ [v], by rw [e8, e7], ⟨upd_same, hS8.no, hS8.ns, (shdsSnoc hS8.it hv8).kp kp8 shOff, szAll_append hS8.sz ⟨hv.2.2, trivial⟩⟩, R8.poke hS8 ktl (hkl s'), stepPoke ((((bas.trans s6).trans s7).trans s8)) nD, by rw [List.length_append]; simp; omega, ?_⟩
      rw [← eo2, ← em5, es]
      simp only [Vl.R.bind_ok]
      cases lcR (ds.drop (i + 1)) s' body with
      | ok q => simp
      | exc e => rfl
      | stuck => rfl
  · rintro H2 ⟨w2, s, acc, xs, rfl, hS, R2, st2, hac, eo⟩
    rw [List.drop_of_length_le (Nat.le_refl _)] at eo
    obtain ⟨w3, e3, R3, s3⟩ := R2.dropBase W.le
    have hS3 := hS.step R2.out s3
    have hsz := W.sz
    have R4 := R3.addSh (p := D) (by rw [hS3.at_]; simp) hS3.no
    have R5 := R4.push0 (v := .ref D) (r := .shr (.list acc)) ⟨rfl, .lst (.inl (.inl hS3.at_)) (.inl (.inr rfl)) (hS3.it.mono fun _ z => .inl z), by omega, hS3.sz⟩
    have s5 : Step w3 ⟨w3.H, fun a => w3.Sh a ∨ a = D, w3.O⟩ → Step w1 ⟨w3.H, fun a => w3.Sh a ∨ a = D, w3.O⟩ := fun z => (st2.trans s3).trans z
    have s6 : Step w1 ⟨w3.H, fun a => w3.Sh a ∨ a = D, w3.O⟩ := by
      have q := st2.trans s3
      refine ⟨q.kp, q.own, fun a z => .inl (q.sh a z), fun a z => ?_⟩
      rcases z with z | z
      · exact q.sn a z
      · exact .inr (.inr (by rw [z]; exact nD))
    rw [← e3]
    refine kz _ _ _ _ ⟨w3.H, fun a => w3.Sh a ∨ a = D, w3.O⟩ (hk (acc, s)) ?_ R5 (st1.trans s6)
    rw [← eo]
    simp [lcR]
/-- plain: no test, nothing that goes on -/
theorem ev_mapA {vs : List Nat} (envC : List Sl) (hno : HNo envC vs) (hkl : envC.map kill = envC) (his : ∀ i ∈ is, i ∈ vs) (ktl : ts.map kill = ts)
    (h : IV Γ wi env ts m fun ds md env1 m1 => ∃ (body : PyData → R PyData) (kk : List PyData → R β), m1 = (mapR ds body).bind kk ∧ Les env1 envC ∧
      (∀ d, d ∈ ds → GV Γ g is (md d) envC (body d) fun env2 m2 => EV Γ te env2 ts m2 fun r env4 m4 => ∃ y, m4 = .ok y ∧ r = .shr y ∧ Les env4 envC) ∧ ∀ l, Φ (.shr (.list l)) envC (kk l)) : EV Γ (tLc wi g tYes te vs) env ts m Φ := by
  refine ev_lcA (S := Unit) (is := is) (fun _ => envC) (fun _ => hno) (fun _ => hkl) his ktl ?_
  intro o e1 e2 σ w vs us bs Z R X kk0
  refine h o e1 e2 σ w vs us bs Z R X fun J ds md rs ws env1 m1 w1 ⟨body, kk, em, l0, hb, hk⟩ em1 W R1 st1 => ?_
  refine kk0 J ds md rs ws env1 m1 w1 ⟨(), fun x _ => (body x).bind fun y => .ok (some y, ()), fun q => kk q.1, ?_, l0, fun d s hd => ?_, fun p => hk p.1⟩ em1 W R1 st1
  · rw [em, mapR_lc, Vl.R.bind_assoc]; rfl
  · refine gv_bind (hb d hd) rfl fun e2 m2 h2 => ?_
    intro o2 f1 f2 σ2 w2 vs2 us2 bs2 Q2 R2 X2 k2
    refine k2 true e2 _ w2 ⟨_, .ok (none, ()), rfl, fun _ => ?_, fun z => nomatch z⟩ f1 R2 Step.refl
    intro o3 g1 g2 σ3 w3 vs3 us3 bs3 Q3 R3 X3 k3
    have nb : m2 ≠ .stuck := fun z => g2 (g1.symm.trans (by rw [z]))
    refine h2 m2 rfl nb σ3 w3 vs3 us3 bs3 _ R3 (fun e he => X3 e (g1.symm.trans (by rw [he]))) fun r4 e4 m4 v4 w4 ⟨y, hy, ho, l⟩ em4 R4 s4 => ?_
    exact k3 r4 e4 _ v4 w4 ⟨(), y, rfl, ho, l⟩ (g1.symm.trans (by rw [← em4, hy])).symm R4 s4
/-- with what goes on from item to item -/
theorem ev_mapSA {S : Type} {vs : List Nat} (envOf : S → List Sl) (hno : ∀ s, HNo (envOf s) vs) (hkl : ∀ s, (envOf s).map kill = envOf s) (his : ∀ i ∈ is, i ∈ vs) (ktl : ts.map kill = ts)
    (h : IV Γ wi env ts m fun ds md env1 m1 => ∃ (s0 : S) (body : PyData → S → R (PyData × S)) (kk : List PyData × S → R β), m1 = (mapS ds s0 body).bind kk ∧ Les env1 (envOf s0) ∧
      (∀ d s, d ∈ ds → GV Γ g is (md d) (envOf s) (body d s) fun env2 m2 => EV Γ te env2 ts m2 fun r env4 m4 => ∃ y s, m4 = .ok (y, s) ∧ r = .shr y ∧ Les env4 (envOf s)) ∧ ∀ p, Φ (.shr (.list p.1)) (envOf p.2) (kk p)) : EV Γ (tLc wi g tYes te vs) env ts m Φ := by
  refine ev_lcA (S := S) (is := is) envOf hno hkl his ktl ?_
  intro o e1 e2 σ w vs us bs Z R X kk0
  refine h o e1 e2 σ w vs us bs Z R X fun J ds md rs ws env1 m1 w1 ⟨s0, body, kk, em, l0, hb, hk⟩ em1 W R1 st1 => ?_
  refine kk0 J ds md rs ws env1 m1 w1 ⟨s0, fun x s => (body x s).bind fun p => .ok (some p.1, p.2), kk, ?_, l0, fun d s hd => ?_, hk⟩ em1 W R1 st1
  · rw [em, mapS_lc]
  · refine gv_bind (hb d s hd) rfl fun e2 m2 h2 => ?_
    intro o2 f1 f2 σ2 w2 vs2 us2 bs2 Q2 R2 X2 k2
    refine k2 true e2 _ w2 ⟨_, .stuck, rfl, fun _ => ?_, fun z => nomatch z⟩ f1 R2 Step.refl
    intro o3 g1 g2 σ3 w3 vs3 us3 bs3 Q3 R3 X3 k3
    have nb : m2 ≠ .stuck := fun z => g2 (g1.symm.trans (by rw [z]))
    refine h2 m2 rfl nb σ3 w3 vs3 us3 bs3 _ R3 (fun e he => X3 e (g1.symm.trans (by rw [he]))) fun r4 e4 m4 v4 w4 ⟨y, s', hy, ho, l⟩ em4 R4 s4 => ?_
    exact k3 r4 e4 _ v4 w4 ⟨s', y, rfl, ho, l⟩ (g1.symm.trans (by rw [← em4, hy])).symm R4 s4
end
section
variable {Γ : Ctx} {β : Type} {m : R β} {env env' : List Sl} {t : TS} {k : Ks β} {i : Nat} {d : PyData}
/-- one's own thing in a slot is from here on read only -/
theorem sv_frz (e : env[i]? = some (.own d)) (en : env.set i (.shr d) = env') (h : SV Γ t env' m k) : SV Γ t env m k := by
  intro o e1 e2 σ w us bs D R X kN kB kC kT
  subst en
  obtain ⟨w2, e2', R2, s2⟩ := R.freeze e
  rw [← e2']
  exact h o e1 e2 σ w2 us bs D R2 (X.step s2) (fun a b c d p q r s => kN a b c d p q r (s2.trans s)) (fun a b c d p q r s => kB a b c d p q r (s2.trans s)) (fun a b c d p q r s => kC a b c d p q r (s2.trans s)) (fun r a b c v d p q r2 s => kT r a b c v d p q r2 (s2.trans s))
end
/-! ### raise C(), C's own __init__ laying no field -/
section
variable {X : Cx}
/-- C() -/
def tMkO0 (C : Addr) (sp : Sp) : L2.St → Hp → XK → Prop := fun _ H1 Q => ∀ a, H1 a = none → sp [.ref a] (upd H1 a (exo a C none))
  (fun v H2 => v = .non ∧ H2 a = some (exo a C none) ∧ Q (.ref C) none (del H2 a)) (fun _ _ _ => False)
theorem mk0_end {pins : List (Addr × Obj)} {σ : L2.St} {H1 H2 : Hp} {Q : XK} {hp hp2 h2 : Heap} {g1 g2 : Array GenState} {d1 d2 : Drawn} {t1 t2 : Nat} {os1 os2 : OsState} {a C : Addr} (T : Raises X (.ref C)) (I1 : Inv X pins σ H1 ⟨hp, g1, d1, t1, os1⟩)
    (ha : hp.objs.size ≤ a) (k : ∀ b o, hp.get? b = some o → hp2.get? b = some o) (un : Un (frs X.stack) [] (upd H1 a (exo a C none)) H2 hp2 h2) (hok : HOk X.prog X.w H2 h2) (ho : os2 = os1) (hb : AllBare g2)
    (ea : H2 a = some (exo a C none)) (q : Q (.ref C) none (del H2 a)) : MkP X pins σ Q (.ref a) ⟨h2, g2, d2, t2, os2⟩ := by
  obtain ⟨t0, hoe⟩ := exo_at hok ea
  have hn : H1 a = none := I1.hok.fresh ha
  obtain ⟨G, g1', g2'⟩ := restrict h2 fun b => decide (b ≠ a)
  have gk : ∀ b, b ≠ a → G.get? b = h2.get? b := fun b hb => g1' b (decide_eq_true hb)
  have ge : G.get? a = none := g2' a (by simp)
  have nha : ∀ {b : Addr} {o : Obj}, hp.get? b = some o → b ≠ a := fun {b o} z => Nat.ne_of_lt (Nat.lt_of_lt_of_le (Heap.lt_size z) ha)
  have up : ∀ {b : Addr}, b ≠ a → H1 b = none → upd H1 a (exo a C none) b = none := fun {b} hb n => by rw [upd_ne hb]; exact n
  have U : Un (frs X.stack) [] H1 (del H2 a) hp G := {
    keep := fun b o z n hf hx => by
      rw [gk b (nha z)]
      exact un.keep b o (k b o z) (up (nha z) n) hf hx
    slot := fun b o z n hf hx => by
      rw [gk b (nha z)]
      exact un.slot b o (k b o z) (up (nha z) n) hf hx
    free := fun b o z n hx => by
      rw [del_ne (nha z)]
      exact un.free b o (k b o z) (up (nha z) n) hx
    there := fun b o z hx => by
      rw [gk b (nha z)]
      exact un.there b o (k b o z) hx
    tups := fun b xs z => by
      rw [del_ne (ne_of_none z hn)]
      exact un.tups b xs (by rw [upd_ne (ne_of_none z hn)]; exact z)
    frzs := fun b o v z => by
      rw [del_ne (ne_of_none z hn)]
      exact un.frzs b o v (by rw [upd_ne (ne_of_none z hn)]; exact z)
    tbls := fun b ps z => by
      rw [del_ne (ne_of_none z hn)]
      exact un.tbls b ps (by rw [upd_ne (ne_of_none z hn)]; exact z) }
  have hok3 : HOk X.prog X.w (del H2 a) G := fun b o z => by
    have hba : b ≠ a := fun e => by
      rw [e, del_same] at z
      cases z
    rw [del_ne hba] at z
    have noa : ∀ {c : Addr}, H2 c = some (.own b) → c ≠ a := fun {c} hc => at_ne ea hc exo_own
    exact (hok b o z).stay (fun c v hc y => by
        have hca : c ≠ a := by
          rcases hc with hc | hc
          · rw [hc]
            exact hba
          · exact noa hc
        rw [gk c hca]
        exact y)
      (fun c hc => by rw [del_ne (noa hc)]; exact hc) (fun c xs hc => by rw [del_ne (at_ne ea hc exo_tup)]; exact hc)
  have J : Inv X pins σ (del H2 a) ⟨G, g2, d2, t2, os2⟩ := I1.call' (ch := []) ho U hok3 hb (fun b z => absurd z (by simp))
  have kG : ∀ b o, G.get? b = some o → h2.get? b = some o := fun b o z => by
    by_cases hba : b = a
    · rw [hba, ge] at z
      cases z
    · exact (gk b hba).symm.trans z
  exact ⟨a, _, _, ⟨G, g2, d2, t2, os2⟩, _, .ref C, none, rfl, J, kG, ge, hoe, ⟨rfl, rfl⟩, rfl, rfl, del_same, rfl, hb, T, q⟩
theorem pmk_oex0 {CX : CXT} {x : Str} {C fI : Addr} {k : Nat} {fd : FuncData} {ps : List Str} {sp : Sp} {p pos : Pos} (T : OexC X.K C) (iC : PySem.W.findIn X.K (.ref C) "__init__" = some (some (.ref fI))) (tI : PySem.W.typeIn X.K (.ref fI) = some (.type "function"))
    (F1 : FnOk X.prog X.w X.K X.mg X.base CX k fI fd ps sp) (hr : Room (k + 1) X.A) (hb : Binds X.K fd ps []) (hx : Passes CX X (fun _ _ _ => False)) (hg : Gl X x) (hm : X.mg x = some (.ref C))
    (hdb : (x == ("__debug__" : Str)) = false := by decide) :
    PMk X (.Call (.Name x p) [] [] pos) (tMkO0 C sp) := by
  intro pins s σ H Q I h
  obtain ⟨nm, q, N, bs, bm, sn, sub, ab, col, dd, k0, k1, k2, k3, k5, hC, hbm⟩ := T.cls
  refine wpAny_Call_Name_kw (ld_glob I hg hm ?_ hdb)
  obtain ⟨hp, g, dr, tk, os⟩ := s
  refine PySem.W.callWith_K0 I.kIn T.kC ?_
  show wpAny _ _ (call (.ref C) ([] : List Value)) _ _ _
  have hsz : hp.objs.size ≤ hp.objs.size + 1 := Nat.le_succ _
  have hn : H (hp.objs.size + 1) = none := I.hok.fresh hsz
  have hq := h (hp.objs.size + 1) hn
  have kk : ∀ b o, hp.get? b = some o → ((hp.push (PySem.W.kdv_tup ([] : List Value))).push (PySem.HandSPX.excO C hp.objs.size)).get? b = some o := fun b o e => Heap.get?_push_of_some _ (Heap.get?_push_of_some _ e)
  have hget : ((hp.push (PySem.W.kdv_tup ([] : List Value))).push (PySem.HandSPX.excO C hp.objs.size)).get? (hp.objs.size + 1) = some (PySem.HandSPX.excO C hp.objs.size) := by heap_get
  have I2 : Inv X pins σ (upd H (hp.objs.size + 1) (exo (hp.objs.size + 1) C none)) ⟨(hp.push (PySem.W.kdv_tup ([] : List Value))).push (PySem.HandSPX.excO C hp.objs.size), g, dr, tk, os⟩ :=
    I.laid (t' := tk) (a := hp.objs.size + 1) (o := exo (hp.objs.size + 1) C none) (h' := (hp.push (PySem.W.kdv_tup ([] : List Value))).push (PySem.HandSPX.excO C hp.objs.size)) kk hsz (exo_ok hget)
  have r2 : Vals [V.ref (hp.objs.size + 1)] [Value.ref (hp.objs.size + 1)] := .cons rfl .nil
  have hl : [Value.ref (hp.objs.size + 1)].length = ps.length := by
    have e := r2.length
    rw [F1.len _ _ _ _ hq] at e
    exact e.symm
  refine wpAny_call (PySem.HandSPX.call_own F.excBase_ValueError (fun Y => PySem.HandSPX.refsVE_contains Y bm hbm) (I.kIn _ _ hC) (PySem.W.looks_findIn I.kIn iC) (fun self => PySem.W.bind_fn I.kIn self tI) (Nat.zero_le _)
    (codeAny_mono (F1.run _ X.stack _ _ ⟨[Value.ref (hp.objs.size + 1)], []⟩ [Value.ref (hp.objs.size + 1)] _ _ (fun _ _ _ => False) (hr.make C [] []) (I2.env0.make C [] []) (hb _ [Value.ref (hp.objs.size + 1)] I2.kIn hl) r2 hq) fun r s' hq' => ?_))
  cases r with
  | error er => exact hx pins σ _ _ er s' I2 hq'
  | ok fl =>
    cases fl with
    | ret u =>
      obtain ⟨v, H2, os2, bare2, un2, hok2, rv, ev, ea, q2⟩ := hq'
      subst ev
      obtain ⟨h2, g2, d2, t2, os'⟩ := s'
      exact ⟨rv, mk0_end (raises_own T.exC T.tyC) I hsz kk un2 hok2 os2 bare2 ea q2⟩
    | next => exact False.elim hq'
    | brk => exact False.elim hq'
    | cont => exact False.elim hq'
end
/-- what such an __init__ promises: nothing is laid -/
def spI0 (K : PySem.W.Frag) (C : Addr) : Sp := fun vs H Q _ => ∃ a : Addr, vs = [.ref a] ∧ OexC K C ∧ H a = some (exo a C none) ∧ Q .non H
theorem spI0_len {K : PySem.W.Frag} {C : Addr} : ∀ vs H Q E, spI0 K C vs H Q E → vs.length = 1 := by
  rintro vs H Q E ⟨a, rfl, _⟩
  rfl
theorem init0 {K : PySem.W.Frag} {C : Addr} {s : Str} {N : List Str} {vs : List V} {H : Hp} {Q : VK} {E : XK} (hN : N.length = 1) (h : spI0 K C vs H Q E) :
    tDrop (tVeI K (tCons (tVar 0) (tCons (tC (.str s)) tNil))) { nx := fun _ H' => Q .non H', rt := Q } (L2.start N vs) H := by
  obtain ⟨a, rfl, T, ha, hq⟩ := h
  have hs : L2.start N [V.ref a] = [some (.ref a)] := by unfold L2.start; rw [show N.length - [V.ref a].length = 0 by rw [hN]; rfl]; rfl
  rw [hs]
  exact ⟨_, rfl, a, C, [.str s], rfl, (by simp), T, ha, hq⟩
section
variable {Γ : Ctx} {β : Type} {m : R β} {env : List Sl} {k : Ks β}
theorem sv_raise0 {cls : Str} {C : Addr} (hC : Γ.cm cls = some C) (T : OexC Γ.K C) (hL : Γ.L env) (em : m = .exc ⟨cls, []⟩) :
    SV Γ (fun _ σ H => tMkO0 C (spI0 Γ.K C) σ H fun c d H' => Γ.E σ c d H') env m k := by
  intro o e1 e2 σ w us bs D R X kN kB kC kT
  intro a na
  refine ⟨a, rfl, T, upd_same, rfl, upd_same, ?_⟩
  have eqH : del (upd w.H a (exo a C none)) a = w.H := by
    funext b
    by_cases z : b = a
    · rw [z, del_same, na]
    · rw [del_ne z, upd_ne z]
  rw [eqH]
  refine Γ.go (w := w) (X ⟨cls, []⟩ (by rw [← e1, em])) Step.refl R hL hC ⟨fun dd e => (by cases e), fun f x e => (by cases e)⟩ fun x hx => (by cases hx)
end
end Vl
/-! What can be shown: data whose text has room. -/
namespace Hw
open PySem PySem.Spec PyProof.Rows L2
/-- data without dicts, at most dp deep, of weight at most n, its numbers of at most 220 signs -/
structure Sh (dp n : Nat) (d : PyData) : Prop where
  s : d.showable = true
  nd : d.hasDict = false
  dep : d.depth ≤ dp
  lv : d.leavesShort 220 = true
  wt : d.weight ≤ n
structure ShAll (dp n : Nat) (ds : List PyData) : Prop where
  s : PyData.showableAll ds = true
  nd : PyData.hasDictAll ds = false
  dep : PyData.depthAll ds ≤ dp
  lv : PyData.leavesShortAll 220 ds = true
  wt : PyData.weightAll ds ≤ n
section
variable {dp n m : Nat} {d : PyData} {ds : List PyData}
theorem Sh.mono {dp' n' : Nat} (h : Sh dp n d) (h1 : dp ≤ dp') (h2 : n ≤ n') : Sh dp' n' d := ⟨h.s, h.nd, Nat.le_trans h.dep h1, h.lv, Nat.le_trans h.wt h2⟩
theorem Sh.non : Sh dp n .none := ⟨rfl, rfl, Nat.zero_le _, rfl, Nat.zero_le _⟩
theorem Sh.bl (b : Bool) : Sh dp n (.bool b) := ⟨rfl, rfl, Nat.zero_le _, rfl, Nat.zero_le _⟩
theorem Sh.int {i : Int} (h : i.natAbs < 10 ^ 12) : Sh dp 40 (.int i) := by
  have hl : i.natAbs.log2 < 40 ∨ i.natAbs = 0 := by
    by_cases z : i.natAbs = 0
    · exact .inr z
    · exact .inl ((Nat.log2_lt z).mpr (by omega))
  refine ⟨?_, rfl, Nat.zero_le _, ?_, ?_⟩
  · show decide (i.natAbs.log2 < 1920) = true
    refine decide_eq_true ?_
    rcases hl with z | z
    · omega
    · rw [z]; decide
  · show decide ((PyData.shown (.int i)).length ≤ 220) = true
    exact decide_eq_true (Nat.le_trans (PyData.shown_int_le h) (by decide))
  · show (if i == 0 then 0 else i.natAbs.log2 + 1) ≤ 40
    split
    · exact Nat.zero_le _
    · rename_i z
      rcases hl with y | y
      · omega
      · exact absurd (Int.natAbs_eq_zero.mp y) (by simpa using z)
theorem Sh.str {x : Str} (h : x.cps.toList.all (fun c => decide (c < 16 ^ 8)) = true) : Sh dp x.cps.size (.str x) := ⟨rfl, rfl, Nat.zero_le _, h, Nat.le_refl _⟩
theorem ShAll.nil : ShAll dp n [] := ⟨rfl, rfl, Nat.zero_le _, rfl, Nat.zero_le _⟩
theorem ShAll.cons (h : Sh dp n d) (r : ShAll dp m ds) : ShAll dp (n + 1 + m) (d :: ds) :=
  ⟨by rw [PyData.showableAll, h.s, r.s]; rfl, by rw [PyData.hasDictAll, h.nd, r.nd]; rfl, by rw [PyData.depthAll]; exact Nat.max_le.mpr ⟨h.dep, r.dep⟩,
    by rw [PyData.leavesShortAll, h.lv, r.lv]; rfl, by rw [PyData.weightAll]; have := h.wt; have := r.wt; omega⟩
theorem ShAll.of : ∀ {ds : List PyData}, (∀ x ∈ ds, Sh dp n x) → ShAll dp (ds.length * (n + 1)) ds
  | [], _ => .nil
  | d :: r, h => by
    have e : (d :: r).length * (n + 1) = n + 1 + r.length * (n + 1) := by rw [List.length_cons, Nat.add_mul, Nat.one_mul, Nat.add_comm]
    rw [e]
    exact .cons (h d List.mem_cons_self) (ShAll.of fun x hx => h x (List.mem_cons_of_mem _ hx))
theorem Sh.tup (h : ShAll dp n ds) : Sh (dp + 1) n (.tuple ds) := ⟨h.s, h.nd, Nat.succ_le_succ h.dep, h.lv, h.wt⟩
theorem Sh.lst (h : ShAll dp n ds) : Sh (dp + 1) n (.list ds) := ⟨h.s, h.nd, Nat.succ_le_succ h.dep, h.lv, h.wt⟩
theorem Sh.room (h : Sh dp n d) (hn : n ≤ 70000) : d.shown.length ≤ sizeLine := by
  have h1 := PyData.shown_le 220 (by decide) d h.lv
  have h2 : (220 + 2) * d.weight ≤ 222 * 70000 := Nat.mul_le_mul (by decide) (Nat.le_trans h.wt hn)
  rw [sizeLine_eq]
  omega
end
theorem sReprS {K : PySem.W.Frag} {H : Hp} {Q : VK} {v : V} {d : PyData} {dp n : Nat} (h : Dp K H v d) (s : Sh dp n d) (h1 : dp ≤ 100) (h2 : n ≤ 70000) (q : Q (.str d.shown) H) : rRepr K [v] H Q :=
  sRepr h s.s s.nd (Nat.le_trans s.dep h1) (s.room h2) q
theorem shWord {w : Str} (h : w ∈ words8) : Sh 0 8 (.str w) := by
  have e : ∀ w ∈ words8, w.cps.toList.all (fun c => decide (c < 16 ^ 8)) = true ∧ w.cps.size ≤ 8 := by decide +kernel
  exact (Sh.str (e w h).1).mono (Nat.le_refl _) (e w h).2
theorem shHouse {h : House} (k : HouseOk h) : Sh 1 92 h.d := by
  refine (Sh.tup (dp := 0) (.cons (Sh.int ?_) (.cons (n := 40) ?_ (.cons (shWord k.rl) (.nil (n := 0)))))).mono (by omega) (by omega)
  · have := k.h3; omega
  · cases e : h.places with
    | none => exact Sh.non
    | some n => exact Sh.int (by have := k.pl n e; omega)
theorem shPerson {p : Person} (k : PersonOk p) : Sh 1 123 p.d := by
  refine (Sh.tup (dp := 0) (.cons (Sh.int ?_) (.cons (Sh.int ?_) (.cons (n := 40) (Sh.bl _) (.nil (n := 0)))))).mono (by omega) (by omega)
  · have := k.rk; omega
  · have := k.l6; omega
theorem shStand {st : List Person} (k : ∀ p ∈ st, PersonOk p) : Sh 2 (st.length * 124) (standD st) := by
  have := ShAll.of (dp := 1) (n := 123) (ds := st.map Person.d) (fun x hx => by
    obtain ⟨p, hp, rfl⟩ := List.mem_map.mp hx
    exact shPerson (k p hp))
  rw [List.length_map] at this
  exact .tup this
theorem shNats {ns : List Nat} (k : ∀ n ∈ ns, n < 10 ^ 12) : Sh 1 (ns.length * 41) (.tuple (ns.map fun n : Nat => PyData.int n)) := by
  have := ShAll.of (dp := 0) (n := 40) (ds := ns.map fun n : Nat => PyData.int n) (fun x hx => by
    obtain ⟨p, hp, rfl⟩ := List.mem_map.mp hx
    exact Sh.int (by have := k p hp; omega))
  rw [List.length_map] at this
  exact .tup this
end Hw
/-! One beat, as it is reckoned. -/
namespace Hw
open PySem PySem.Spec PyProof.Rows L2
def keepW (w : Str) : Bool := decide (w ∈ keep4)
def natsD (ns : List Nat) : PyData := .tuple (ns.map fun n : Nat => PyData.int n)
/-- who stays in his place, who goes behind all, who is gone -/
def keptAt (w : Str) (sm : List Nat) (ins : List Person) (i : Nat) : List Person := match ins[i]? with
  | none => []
  | some p => if i ∈ sm then (if p.left = 1 then [] else if w = "turns" then [] else [⟨p.rank, p.left - 1, keepW w⟩]) else [p]
def behindAt (w : Str) (sm : List Nat) (ins : List Person) (i : Nat) : List Person := match ins[i]? with
  | none => []
  | some p => if i ∈ sm then (if p.left = 1 then [] else if w = "turns" then [⟨p.rank, p.left - 1, false⟩] else []) else []
def goneAt (sm : List Nat) (ins : List Person) (i : Nat) : List Nat := match ins[i]? with
  | none => []
  | some p => if i ∈ sm then (if p.left = 1 then [i] else []) else []
structure Told where
  stand : List Person
  lost : Nat
  gone : List Nat
def workedOf (h : House) (ins : List Person) : List Person × List Nat :=
  let sm := picks h.hands h.rule ins
  ((List.range ins.length).flatMap (keptAt h.rule sm ins) ++ (List.range ins.length).flatMap (behindAt h.rule sm ins), (List.range ins.length).flatMap (goneAt sm ins))
def stepOf (h : House) (st : List Person) (bt : List Comer) : Told :=
  let ins := (letIn h.places st bt).1
  ⟨(workedOf h ins).1, (letIn h.places st bt).2, (workedOf h ins).2⟩
def Told.d (t : Told) : PyData := .tuple [standD t.stand, .int t.lost, natsD t.gone]
theorem flatSnoc {α : Type} (f : Nat → List α) (i : Nat) : (List.range (i + 1)).flatMap f = (List.range i).flatMap f ++ f i := by
  rw [List.range_succ, List.flatMap_append]
  simp
section
variable {K : PySem.W.Frag} {H : Hp} {v : V}
theorem TDs.nats : ∀ {ns : List Nat} {vs : List V}, TDs K H vs (ns.map fun n : Nat => PyData.int n) → vs = ns.map fun n : Nat => V.int n
  | [], _, h => h.nil'
  | n :: r, _, h => by
    obtain ⟨v, q, rfl, h1, h2⟩ := h.cons'
    rw [h1.toInt, TDs.nats h2]
    rfl
theorem TDs.mkNats (K : PySem.W.Frag) (H : Hp) : ∀ ns : List Nat, TDs K H (ns.map fun n : Nat => V.int n) (ns.map fun n : Nat => PyData.int n)
  | [] => .nil
  | _ :: r => .cons (.int _) (TDs.mkNats K H r)
theorem natsCast (ns : List Nat) : (ns.map fun n : Nat => V.int n) = (ns.map fun n : Nat => (n : Int)).map V.int := by
  rw [List.map_map]; rfl
theorem memCast (ns : List Nat) (i : Nat) : ((i : Int) ∈ ns.map fun n : Nat => (n : Int)) ↔ i ∈ ns := by
  rw [List.mem_map]
  constructor
  · rintro ⟨a, ha, e⟩
    rw [show i = a by omega]; exact ha
  · exact fun h => ⟨i, h, rfl⟩
theorem TD.nats {ns : List Nat} (h : TD K H v (natsD ns)) : ∃ t, v = .ref t ∧ SqT K H t (ns.map fun n : Nat => V.int n) := by
  obtain ⟨t, xs, rfl, h1, h2⟩ := h.ref
  rw [h2.nats] at h1
  exact ⟨t, rfl, h1⟩
/-- whether a place is among such -/
theorem sNiN {a : Addr} {ns : List Nat} {i : Nat} {Q : VK} (h : SqT K H a (ns.map fun n : Nat => V.int n)) (q : Q (.bl (!decide (i ∈ ns))) H) : rIn K true (.int i) (.ref a) H Q := by
  rw [natsCast] at h
  refine sNiTI h ?_
  rw [show decide ((i : Int) ∈ ns.map fun n : Nat => (n : Int)) = decide (i ∈ ns) from decide_eq_decide.mpr (memCast ns i)]
  exact q
theorem sInN {a : Addr} {ns : List Nat} {i : Nat} {Q : VK} (h : SqT K H a (ns.map fun n : Nat => V.int n)) (q : Q (.bl (decide (i ∈ ns))) H) : rIn K false (.int i) (.ref a) H Q := by
  rw [natsCast] at h
  refine sInTI h ?_
  rw [show decide ((i : Int) ∈ ns.map fun n : Nat => (n : Int)) = decide (i ∈ ns) from decide_eq_decide.mpr (memCast ns i)]
  exact q
theorem sNiNL {a : Addr} {ns : List Nat} {i : Nat} {Q : VK} (h : SqL K H a (ns.map fun n : Nat => V.int n)) (q : Q (.bl (!decide (i ∈ ns))) H) : rIn K true (.int i) (.ref a) H Q := by
  rw [natsCast] at h
  refine sNiLI h ?_
  rw [show decide ((i : Int) ∈ ns.map fun n : Nat => (n : Int)) = decide (i ∈ ns) from decide_eq_decide.mpr (memCast ns i)]
  exact q
theorem sInNL {a : Addr} {ns : List Nat} {i : Nat} {Q : VK} (h : SqL K H a (ns.map fun n : Nat => V.int n)) (q : Q (.bl (decide (i ∈ ns))) H) : rIn K false (.int i) (.ref a) H Q := by
  rw [natsCast] at h
  refine sInLI h ?_
  rw [show decide ((i : Int) ∈ ns.map fun n : Nat => (n : Int)) = decide (i ∈ ns) from decide_eq_decide.mpr (memCast ns i)]
  exact q
end
theorem flatLen {α : Type} (f : Nat → List α) (h : ∀ i, (f i).length ≤ 1) : ∀ n, ((List.range n).flatMap f).length ≤ n
  | 0 => by simp
  | n + 1 => by
    rw [flatSnoc, List.length_append]
    have := flatLen f h n
    have := h n
    omega
theorem keptLen (w : Str) (sm : List Nat) (ins : List Person) (i : Nat) : (keptAt w sm ins i).length ≤ 1 := by
  unfold keptAt
  split
  · simp
  · split
    · split
      · simp
      · split <;> simp
    · simp
theorem behindLen (w : Str) (sm : List Nat) (ins : List Person) (i : Nat) : (behindAt w sm ins i).length ≤ 1 := by
  unfold behindAt
  split
  · simp
  · split
    · split
      · simp
      · split <;> simp
    · simp
theorem goneLen (sm : List Nat) (ins : List Person) (i : Nat) : (goneAt sm ins i).length ≤ 1 := by
  unfold goneAt
  split
  · simp
  · split
    · split <;> simp
    · simp
theorem bothLen (w : Str) (sm : List Nat) (ins : List Person) : ∀ n, ((List.range n).flatMap (keptAt w sm ins)).length + ((List.range n).flatMap (behindAt w sm ins)).length ≤ n
  | 0 => by simp
  | n + 1 => by
    rw [flatSnoc, flatSnoc, List.length_append, List.length_append]
    have := bothLen w sm ins n
    have : (keptAt w sm ins n).length + (behindAt w sm ins n).length ≤ 1 := by
      unfold keptAt behindAt
      split
      · simp
      · split
        · split
          · simp
          · split <;> simp
        · simp
    omega
theorem memFlat {α : Type} {f : Nat → List α} {n : Nat} {x : α} (h : x ∈ (List.range n).flatMap f) : ∃ i, i < n ∧ x ∈ f i := by
  obtain ⟨i, hi, hx⟩ := List.mem_flatMap.mp h
  exact ⟨i, List.mem_range.mp hi, hx⟩
theorem keptOk {w : Str} {sm : List Nat} {ins : List Person} (hk : ∀ p ∈ ins, PersonOk p) {i : Nat} {q : Person} (h : q ∈ keptAt w sm ins i) : PersonOk q := by
  unfold keptAt at h
  cases e : ins[i]? with
  | none => rw [e] at h; cases h
  | some p =>
    rw [e] at h
    have k := hk p (List.mem_of_getElem? e)
    have k1 := k.l1
    have k6 := k.l6
    dsimp only at h
    split at h
    · split at h
      · cases h
      · split at h
        · cases h
        · rw [List.mem_singleton.mp h]
          exact ⟨k.rk, by show 1 ≤ p.left - 1; omega, by show p.left - 1 ≤ 6; omega⟩
    · rw [List.mem_singleton.mp h]; exact k
theorem behindOk {w : Str} {sm : List Nat} {ins : List Person} (hk : ∀ p ∈ ins, PersonOk p) {i : Nat} {q : Person} (h : q ∈ behindAt w sm ins i) : PersonOk q := by
  unfold behindAt at h
  cases e : ins[i]? with
  | none => rw [e] at h; cases h
  | some p =>
    rw [e] at h
    have k := hk p (List.mem_of_getElem? e)
    have k1 := k.l1
    have k6 := k.l6
    dsimp only at h
    split at h
    · split at h
      · cases h
      · split at h
        · rw [List.mem_singleton.mp h]
          exact ⟨k.rk, by show 1 ≤ p.left - 1; omega, by show p.left - 1 ≤ 6; omega⟩
        · cases h
    · cases h
theorem goneLt {sm : List Nat} {ins : List Person} {n q : Nat} (h : q ∈ (List.range n).flatMap (goneAt sm ins)) : q < n := by
  obtain ⟨i, hi, h⟩ := memFlat h
  unfold goneAt at h
  split at h
  · cases h
  · split at h
    · split at h
      · rw [List.mem_singleton.mp h]; exact hi
      · cases h
    · cases h
theorem workedOk {h : House} {ins : List Person} (hk : ∀ p ∈ ins, PersonOk p) : ∀ p ∈ (workedOf h ins).1, PersonOk p := by
  intro p hp
  rcases List.mem_append.mp hp with z | z
  · obtain ⟨i, _, z⟩ := memFlat z
    exact keptOk hk z
  · obtain ⟨i, _, z⟩ := memFlat z
    exact behindOk hk z
theorem workedLen (h : House) (ins : List Person) : (workedOf h ins).1.length ≤ ins.length := by
  unfold workedOf
  dsimp only
  rw [List.length_append]
  exact bothLen _ _ _ _
theorem goneLen2 (h : House) (ins : List Person) : (workedOf h ins).2.length ≤ ins.length := flatLen _ (goneLen _ _) _
theorem letInOk {pl : Option Nat} {st : List Person} {bt : List Comer} (h1 : ∀ p ∈ st, PersonOk p) (h2 : ∀ x ∈ bt, ComerOk x) : ∀ p ∈ (letIn pl st bt).1, PersonOk p := by
  intro p hp
  rcases List.mem_append.mp hp with z | z
  · exact h1 p z
  · obtain ⟨x, hx, rfl⟩ := List.mem_map.mp z
    have k := h2 x (List.mem_of_mem_take hx)
    exact ⟨k.rk, k.w1, k.w6⟩
theorem letInLen (pl : Option Nat) (st : List Person) (bt : List Comer) : (letIn pl st bt).1.length ≤ st.length + bt.length := by
  show (st ++ _).length ≤ _
  rw [List.length_append, List.length_map, List.length_take]
  omega
theorem letInPl {pl : Option Nat} {st : List Person} {bt : List Comer} (h : ∀ n, pl = some n → st.length ≤ n) : ∀ n, pl = some n → (letIn pl st bt).1.length ≤ n := by
  rintro n rfl
  have := h n rfl
  show (st ++ _).length ≤ _
  rw [List.length_append, List.length_map, List.length_take]
  show st.length + min (min bt.length (n - st.length)) bt.length ≤ n
  omega
theorem stepOk {h : House} {st : List Person} {bt : List Comer} (h1 : ∀ p ∈ st, PersonOk p) (h2 : ∀ x ∈ bt, ComerOk x) : ∀ p ∈ (stepOf h st bt).stand, PersonOk p := workedOk (letInOk h1 h2)
theorem stepLen (h : House) (st : List Person) (bt : List Comer) : (stepOf h st bt).stand.length ≤ st.length + bt.length := Nat.le_trans (workedLen _ _) (letInLen _ _ _)
theorem stepPl {h : House} {st : List Person} {bt : List Comer} (k : ∀ n, h.places = some n → st.length ≤ n) : ∀ n, h.places = some n → (stepOf h st bt).stand.length ≤ n := fun n e => Nat.le_trans (workedLen _ _) (letInPl k n e)
theorem stepGone (h : House) (st : List Person) (bt : List Comer) : (stepOf h st bt).gone.length ≤ st.length + bt.length ∧ ∀ i ∈ (stepOf h st bt).gone, i < st.length + bt.length := by
  have := letInLen h.places st bt
  refine ⟨Nat.le_trans (goneLen2 _ _) this, fun i hi => Nat.lt_of_lt_of_le (goneLt hi) this⟩
theorem shComer {x : Comer} (k : ComerOk x) : Sh 1 82 x.d := by
  refine (Sh.tup (dp := 0) (.cons (Sh.int ?_) (.cons (Sh.int ?_) (.nil (n := 0))))).mono (by omega) (by omega)
  · have := k.rk; omega
  · have := k.w6; omega
theorem shBeat {bt : List Comer} (k : ∀ x ∈ bt, ComerOk x) : Sh 2 (bt.length * 83) (beatD bt) := by
  have := ShAll.of (dp := 1) (n := 82) (ds := bt.map Comer.d) (fun x hx => by
    obtain ⟨p, hp, rfl⟩ := List.mem_map.mp hx
    exact shComer (k p hp))
  rw [List.length_map] at this
  exact .tup this
theorem shTold {h : House} {st : List Person} {bt : List Comer} (h1 : ∀ p ∈ st, PersonOk p) (h2 : ∀ x ∈ bt, ComerOk x) (hl : st.length + bt.length ≤ 200) : Sh 3 40000 (stepOf h st bt).d := by
  have l1 := stepLen h st bt
  have g := stepGone h st bt
  have l2 : (stepOf h st bt).lost ≤ bt.length := Nat.sub_le _ _
  refine (Sh.tup (dp := 2) (.cons ((shStand (stepOk h1 h2)).mono (Nat.le_refl _) (by omega : _ ≤ 24800)) (.cons (Sh.int ?_) (.cons ((shNats (ns := (stepOf h st bt).gone) fun n hn => ?_).mono (by omega) (by omega : _ ≤ 8200)) (.nil (n := 0)))))).mono (by omega) (by omega)
  · omega
  · have := g.2 n hn; omega
/-! ### names in the place of places -/
section
variable {names : List Nat} {F : Nat → Person} {q : Nat → Bool}
theorem seg {f : Nat → List Person} (st : ∀ k m, names[k]? = some m → (if q m = true then [F m] else []) = f k) : ∀ k, k ≤ names.length → ((names.take k).filter q).map F = (List.range k).flatMap f
  | 0, _ => rfl
  | k + 1, h => by
    have hm : names[k]? = some names[k] := List.getElem?_eq_getElem (by omega)
    rw [List.take_add_one, hm, List.filter_append, List.map_append, seg st k (by omega), flatSnoc, ← st k _ hm]
    congr 1
    by_cases c : q names[k] = true
    · simp [c]
    · simp [c]
end
end Hw
/-! Ways and runs; data that can be compared. -/
namespace Hw
open PySem PySem.Spec PyProof.Rows L2
/-! ### data that can be compared -/
structure Ly (dp : Nat) (d : PyData) : Prop where
  s : d.canLay0 = true
  dep : d.depth ≤ dp
structure LyAll (dp : Nat) (ds : List PyData) : Prop where
  s : PyData.canLayAll0 ds = true
  dep : PyData.depthAll ds ≤ dp
section
variable {dp n : Nat} {d : PyData} {ds : List PyData}
theorem Ly.non : Ly dp .none := ⟨rfl, Nat.zero_le _⟩
theorem Ly.bl (b : Bool) : Ly dp (.bool b) := ⟨rfl, Nat.zero_le _⟩
theorem Ly.int (i : Int) : Ly dp (.int i) := ⟨rfl, Nat.zero_le _⟩
theorem Ly.mono {dp' : Nat} (h : Ly dp d) (e : dp ≤ dp') : Ly dp' d := ⟨h.s, Nat.le_trans h.dep e⟩
theorem LyAll.nil : LyAll dp [] := ⟨rfl, Nat.zero_le _⟩
theorem LyAll.cons (h : Ly dp d) (r : LyAll dp ds) : LyAll dp (d :: ds) :=
  ⟨by rw [PyData.canLayAll0, h.s, r.s]; rfl, by rw [PyData.depthAll]; exact Nat.max_le.mpr ⟨h.dep, r.dep⟩⟩
theorem LyAll.of : ∀ {ds : List PyData}, (∀ x ∈ ds, Ly dp x) → LyAll dp ds
  | [], _ => .nil
  | d :: r, h => .cons (h d List.mem_cons_self) (LyAll.of fun x hx => h x (List.mem_cons_of_mem _ hx))
theorem LyAll.map {α : Type} {f : α → PyData} {l : List α} (h : ∀ x ∈ l, Ly dp (f x)) : LyAll dp (l.map f) := .of fun x hx => by
  obtain ⟨y, hy, rfl⟩ := List.mem_map.mp hx
  exact h y hy
theorem Ly.tup (h : LyAll dp ds) : Ly (dp + 1) (.tuple ds) := ⟨h.s, Nat.succ_le_succ h.dep⟩
theorem Ly.lst (h : LyAll dp ds) : Ly (dp + 1) (.list ds) := ⟨h.s, Nat.succ_le_succ h.dep⟩
theorem Ly.shaped (h : Ly dp d) (e : dp ≤ 64) : SeqAt.shaped d = true := by
  show (d.canLay0 && decide (d.depth ≤ 64)) = true
  rw [h.s, decide_eq_true (Nat.le_trans h.dep e)]
  rfl
theorem lyPerson (p : Person) : Ly 1 p.d := .tup (.cons (.int _) (.cons (.int _) (.cons (.bl _) .nil)))
theorem lyStand (st : List Person) : Ly 2 (standD st) := .tup (.map fun p _ => lyPerson p)
theorem lyComer (c : Comer) : Ly 1 c.d := .tup (.cons (.int _) (.cons (.int _) .nil))
theorem lyBeat (b : List Comer) : Ly 2 (beatD b) := .tup (.map fun p _ => lyComer p)
theorem eqvNil (ds : List PyData) : PyData.eqv (.tuple ds) (.tuple []) = decide (ds = []) := by
  cases ds with
  | nil => simp [PyData.eqv, PyData.eqvAll]
  | cons a r => simp [PyData.eqv, PyData.eqvAll]
theorem eqvAllRefl : ∀ {ds : List PyData}, (∀ d ∈ ds, PyData.eqv d d = true) → PyData.eqvAll ds ds = true
  | [], _ => by simp [PyData.eqvAll]
  | d :: r, h => by
    rw [PyData.eqvAll, h d List.mem_cons_self, eqvAllRefl fun x hx => h x (List.mem_cons_of_mem _ hx)]
    rfl
theorem eqvListRefl {ds : List PyData} (h : ∀ d ∈ ds, PyData.eqv d d = true) : PyData.eqv (.list ds) (.list ds) = true := by
  rw [PyData.eqv]
  exact eqvAllRefl h
theorem eqvInt (i : Int) : PyData.eqv (.int i) (.int i) = true := by simp [PyData.eqv]
theorem eqvBool (i : Bool) : PyData.eqv (.bool i) (.bool i) = true := by simp [PyData.eqv]
end
/-! ### ways -/
def wayD (way : List (List Comer)) : PyData := .tuple (way.map beatD)
def manyIn (way : List (List Comer)) : Nat := (way.map List.length).sum
structure WayOk (w : Nat) (way : List (List Comer)) : Prop where
  rk : ∀ b ∈ way, ∀ c ∈ b, c.rank < 2
  w1 : ∀ b ∈ way, ∀ c ∈ b, 1 ≤ c.work
  wm : ∀ b ∈ way, ∀ c ∈ b, c.work ≤ w
/-- the stand ahead of beat i -/
def stAt (h : House) (way : List (List Comer)) (st : List Person) : Nat → List Person
  | 0 => st
  | i + 1 => (stepOf h (stAt h way st i) (way.getD i [])).stand
def toldAt (h : House) (way : List (List Comer)) (st : List Person) (i : Nat) : Told := stepOf h (stAt h way st i) (way.getD i [])
def standsOf (h : House) (way : List (List Comer)) (st : List Person) : List (List Person) := (List.range (way.length + 1)).map (stAt h way st)
def lostOf (h : House) (way : List (List Comer)) (st : List Person) : List Nat := (List.range way.length).map fun i => (toldAt h way st i).lost
def goneOf (h : House) (way : List (List Comer)) (st : List Person) : List Nat := (List.range way.length).map fun i => (toldAt h way st i).gone.length
def runD (h : House) (way : List (List Comer)) (st : List Person) : PyData := .tuple [.tuple ((standsOf h way st).map standD), natsD (lostOf h way st), natsD (goneOf h way st)]
def cameBy (way : List (List Comer)) (i : Nat) : Nat := ((way.take i).map List.length).sum
theorem cameSucc (way : List (List Comer)) (i : Nat) : cameBy way (i + 1) = cameBy way i + (way.getD i []).length := by
  unfold cameBy
  rw [List.take_add_one, List.map_append, List.sum_append, List.getD_eq_getElem?_getD]
  cases way[i]? <;> simp
theorem cameLe (way : List (List Comer)) : ∀ i, cameBy way i ≤ manyIn way := by
  intro i
  unfold cameBy manyIn
  have : (way.map List.length).sum = ((way.take i).map List.length).sum + ((way.drop i).map List.length).sum := by
    rw [← List.sum_append, ← List.map_append, List.take_append_drop]
  omega
theorem stAtLen (h : House) (way : List (List Comer)) (st : List Person) : ∀ i, (stAt h way st i).length ≤ st.length + cameBy way i
  | 0 => Nat.le_add_right _ _
  | i + 1 => by
    have h1 := stAtLen h way st i
    have h2 := stepLen h (stAt h way st i) (way.getD i [])
    rw [cameSucc]
    show (stepOf h (stAt h way st i) (way.getD i [])).stand.length ≤ _
    omega
theorem getBeat {P : List Comer → Prop} {way : List (List Comer)} (h0 : P []) (h : ∀ b ∈ way, P b) (i : Nat) : P (way.getD i []) := by
  rw [List.getD_eq_getElem?_getD]
  cases e : way[i]? with
  | none => exact h0
  | some b => exact h b (List.mem_of_getElem? e)
/-! left above nought -/
theorem keptPos {w : Str} {sm : List Nat} {ins : List Person} (hk : ∀ p ∈ ins, 1 ≤ p.left) {i : Nat} {q : Person} (h : q ∈ keptAt w sm ins i) : 1 ≤ q.left := by
  unfold keptAt at h
  cases e : ins[i]? with
  | none => rw [e] at h; cases h
  | some p =>
    rw [e] at h
    have k := hk p (List.mem_of_getElem? e)
    dsimp only at h
    split at h
    · split at h
      · cases h
      · split at h
        · cases h
        · rw [List.mem_singleton.mp h]; show 1 ≤ p.left - 1; omega
    · rw [List.mem_singleton.mp h]; exact k
theorem behindPos {w : Str} {sm : List Nat} {ins : List Person} (hk : ∀ p ∈ ins, 1 ≤ p.left) {i : Nat} {q : Person} (h : q ∈ behindAt w sm ins i) : 1 ≤ q.left := by
  unfold behindAt at h
  cases e : ins[i]? with
  | none => rw [e] at h; cases h
  | some p =>
    rw [e] at h
    have k := hk p (List.mem_of_getElem? e)
    dsimp only at h
    split at h
    · split at h
      · cases h
      · split at h
        · rw [List.mem_singleton.mp h]; show 1 ≤ p.left - 1; omega
        · cases h
    · cases h
theorem workedPos {h : House} {ins : List Person} (hk : ∀ p ∈ ins, 1 ≤ p.left) : ∀ p ∈ (workedOf h ins).1, 1 ≤ p.left := by
  intro p hp
  rcases List.mem_append.mp hp with z | z
  · obtain ⟨i, _, z⟩ := memFlat z
    exact keptPos hk z
  · obtain ⟨i, _, z⟩ := memFlat z
    exact behindPos hk z
theorem letInPos {pl : Option Nat} {st : List Person} {bt : List Comer} (h1 : ∀ p ∈ st, 1 ≤ p.left) (h2 : ∀ x ∈ bt, 1 ≤ x.work) : ∀ p ∈ (letIn pl st bt).1, 1 ≤ p.left := by
  intro p hp
  rcases List.mem_append.mp hp with z | z
  · exact h1 p z
  · obtain ⟨x, hx, rfl⟩ := List.mem_map.mp z
    exact h2 x (List.mem_of_mem_take hx)
theorem stAtPos {h : House} {way : List (List Comer)} {st : List Person} (h1 : ∀ p ∈ st, 1 ≤ p.left) (h2 : ∀ b ∈ way, ∀ c ∈ b, 1 ≤ c.work) : ∀ i, ∀ p ∈ stAt h way st i, 1 ≤ p.left
  | 0 => h1
  | i + 1 => workedPos (letInPos (stAtPos h1 h2 i) (getBeat (P := fun b => ∀ c ∈ b, 1 ≤ c.work) (fun c hc => by cases hc) h2 i))
theorem stAtPl {h : House} {way : List (List Comer)} {st : List Person} (k : ∀ n, h.places = some n → st.length ≤ n) : ∀ i, ∀ n, h.places = some n → (stAt h way st i).length ≤ n
  | 0 => k
  | i + 1 => stepPl (stAtPl k i)
theorem stAtOk {h : House} {way : List (List Comer)} {st : List Person} (h1 : ∀ p ∈ st, PersonOk p) (h2 : ∀ b ∈ way, ∀ c ∈ b, ComerOk c) : ∀ i, ∀ p ∈ stAt h way st i, PersonOk p
  | 0 => h1
  | i + 1 => stepOk (stAtOk h1 h2 i) (getBeat (P := fun b => ∀ c ∈ b, ComerOk c) (fun c hc => by cases hc) h2 i)
/-! ### the work -/
def workIn (b : List Comer) : Nat := (b.map (·.work)).sum
theorem workApp (a b : List Person) : workOf (a ++ b) = workOf a + workOf b := by
  unfold workOf
  rw [List.map_append, List.sum_append]
theorem workOne (sm : List Nat) (w : Str) (ins : List Person) (i : Nat) (p : Person) (e : ins[i]? = some p) (hp : 1 ≤ p.left) :
    workOf (keptAt w sm ins i) + workOf (behindAt w sm ins i) + (if i ∈ sm then 1 else 0) = p.left := by
  unfold keptAt behindAt
  rw [e]
  dsimp only
  by_cases c1 : i ∈ sm
  · simp only [c1, if_true]
    by_cases c2 : p.left = 1
    · simp [c2, workOf]
    · by_cases c3 : w = "turns"
      · simp [c2, c3, workOf]; omega
      · simp [c2, c3, workOf]; omega
  · simp [c1, workOf]
theorem workSeg (sm : List Nat) (w : Str) (ins : List Person) (hp : ∀ p ∈ ins, 1 ≤ p.left) : ∀ k, k ≤ ins.length →
    workOf ((List.range k).flatMap (keptAt w sm ins)) + workOf ((List.range k).flatMap (behindAt w sm ins)) + ((List.range k).filter fun i => decide (i ∈ sm)).length = workOf (ins.take k)
  | 0, _ => rfl
  | k + 1, h => by
    have e : ins[k]? = some ins[k] := List.getElem?_eq_getElem (by omega)
    have ih := workSeg sm w ins hp k (by omega)
    have one := workOne sm w ins k _ e (hp _ (List.getElem_mem _))
    rw [flatSnoc, flatSnoc, workApp, workApp, List.take_add_one, e, workApp, List.range_succ, List.filter_append, List.length_append]
    have e2 : workOf (some ins[k]).toList = ins[k].left := by simp [workOf]
    have e3 : (([k]).filter fun i => decide (i ∈ sm)).length = if k ∈ sm then 1 else 0 := by
      by_cases c : k ∈ sm <;> simp [c]
    rw [e2, e3]
    omega
/-- who is picked has one less -/
theorem workWorked (h : House) (ins : List Person) (hp : ∀ p ∈ ins, 1 ≤ p.left) : workOf (workedOf h ins).1 + min h.hands ins.length = workOf ins := by
  have e := workSeg (picks h.hands h.rule ins) h.rule ins hp ins.length (Nat.le_refl _)
  rw [List.take_length] at e
  unfold workedOf
  dsimp only
  rw [workApp, ← e]
  congr 1
  rw [← picks_length h.hands h.rule ins]
  unfold picks
  congr 1
  refine filterCongr fun x hx => ?_
  have hx := List.mem_range.mp hx
  refine Bool.eq_iff_iff.mpr ?_
  simp [List.mem_filter, hx]
theorem workLetIn (st : List Person) (bt : List Comer) : workOf (letIn none st bt).1 = workOf st + workIn bt := by
  show workOf (st ++ (bt.take bt.length).map Comer.p) = _
  rw [workApp, List.take_length]
  unfold workOf workIn
  rw [List.map_map]
  rfl
theorem workNil {st : List Person} (hp : ∀ p ∈ st, 1 ≤ p.left) : workOf st = 0 ↔ st = [] := by
  constructor
  · intro e
    cases st with
    | nil => rfl
    | cons p r =>
      have := hp p List.mem_cons_self
      unfold workOf at e
      rw [List.map_cons, List.sum_cons] at e
      omega
  · rintro rfl
    rfl
/-! ### stretches -/
def endsOf (empty : Nat → Bool) (n b : Nat) : List Nat := ((List.range (n - b)).map fun j => b + 1 + j).filter empty
def stretches (empty on : Nat → Bool) (n : Nat) : List (Nat × Option Nat) := (List.range n).flatMap fun b => if empty b = true ∧ on b = true then [(b, (endsOf empty n b).head?)] else []
def strD (s : Nat × Option Nat) : PyData := .tuple [.int s.1, optD s.2]
theorem stretchLen (empty on : Nat → Bool) (n : Nat) : (stretches empty on n).length ≤ n := flatLen _ (fun i => by split <;> simp) n
theorem WayOk.comer {w : Nat} {way : List (List Comer)} (k : WayOk w way) (hw : w ≤ 6) : ∀ b ∈ way, ∀ c ∈ b, ComerOk c := fun b hb c hc => ⟨k.rk b hb c hc, k.w1 b hb c hc, Nat.le_trans (k.wm b hb c hc) hw⟩
/-- the work at moment i, of one hand without bound -/
def wAt (way : List (List Comer)) (w : Nat) : Nat → Nat
  | 0 => w
  | i + 1 => wAt way w i + workIn (way.getD i []) - 1
theorem workStep (h : House) (hh : h.hands = 1) (hp : h.places = none) (st : List Person) (bt : List Comer) (h1 : ∀ p ∈ st, 1 ≤ p.left) (h2 : ∀ x ∈ bt, 1 ≤ x.work) : workOf (stepOf h st bt).stand = workOf st + workIn bt - 1 := by
  have pos := letInPos (pl := h.places) h1 h2
  have e := workWorked h (letIn h.places st bt).1 pos
  have e2 := workNil pos
  have e3 : workOf (letIn h.places st bt).1 = workOf st + workIn bt := by rw [hp]; exact workLetIn st bt
  show workOf (workedOf h (letIn h.places st bt).1).1 = _
  rw [hh] at e
  by_cases c : (letIn h.places st bt).1 = []
  · rw [c] at e e2 e3 ⊢
    have : workOf ([] : List Person) = 0 := rfl
    simp at e
    omega
  · have : 1 ≤ (letIn h.places st bt).1.length := by
      cases hq : (letIn h.places st bt).1 with
      | nil => exact absurd hq c
      | cons a r => simp
    omega
theorem workAt (h : House) (hh : h.hands = 1) (hp : h.places = none) (way : List (List Comer)) (st : List Person) (h1 : ∀ p ∈ st, 1 ≤ p.left) (h2 : ∀ b ∈ way, ∀ c ∈ b, 1 ≤ c.work) : ∀ i, workOf (stAt h way st i) = wAt way (workOf st) i
  | 0 => rfl
  | i + 1 => by
    show workOf (stepOf h (stAt h way st i) (way.getD i [])).stand = wAt way (workOf st) i + _ - 1
    rw [workStep h hh hp _ _ (stAtPos h1 h2 i) (getBeat (P := fun b => ∀ c ∈ b, 1 ≤ c.work) (fun c hc => by cases hc) h2 i), workAt h hh hp way st h1 h2 i]
theorem lostNone {h : House} (hp : h.places = none) (st : List Person) (bt : List Comer) : (stepOf h st bt).lost = 0 := by
  show (letIn h.places st bt).2 = 0
  rw [hp]
  exact Nat.sub_self _
/-! ### works of one -/
def capAll (pl : Option Nat) (m : Nat) : Nat := match pl with
  | none => m
  | some p => min m p
/-- how many are in at moment i, how many were lost so far, where all works are one -/
def insAt (hands : Nat) (pl : Option Nat) (way : List (List Comer)) : Nat → Nat
  | 0 => 0
  | i + 1 => capAll pl (insAt hands pl way i + (way.getD i []).length) - hands
def lossAt (hands : Nat) (pl : Option Nat) (way : List (List Comer)) : Nat → Nat
  | 0 => 0
  | i + 1 => lossAt hands pl way i + (insAt hands pl way i + (way.getD i []).length) - capAll pl (insAt hands pl way i + (way.getD i []).length)
theorem capAll_le (pl : Option Nat) (m : Nat) : capAll pl m ≤ m := by
  cases pl with
  | none => exact Nat.le_refl _
  | some p => exact Nat.min_le_left _ _
theorem insLe (hands : Nat) (pl : Option Nat) (way : List (List Comer)) : ∀ i n, pl = some n → insAt hands pl way i ≤ n
  | 0, n, _ => Nat.zero_le _
  | i + 1, n, e => by
    show capAll pl _ - hands ≤ n
    rw [e]
    show min _ n - hands ≤ n
    omega
theorem workAll1 {st : List Person} (h : ∀ p ∈ st, p.left = 1) : workOf st = st.length := by
  induction st with
  | nil => rfl
  | cons p r ih =>
    have := ih fun q hq => h q (List.mem_cons_of_mem _ hq)
    unfold workOf at this ⊢
    rw [List.map_cons, List.sum_cons, this, h p List.mem_cons_self, List.length_cons]
    omega
theorem worked1 {h : House} {ins : List Person} (k : ∀ p ∈ ins, p.left = 1) : ∀ q ∈ (workedOf h ins).1, q.left = 1 := by
  intro q hq
  rcases List.mem_append.mp hq with z | z
  · obtain ⟨i, _, z⟩ := memFlat z
    unfold keptAt at z
    cases e : ins[i]? with
    | none => rw [e] at z; cases z
    | some p =>
      rw [e] at z
      have kp := k p (List.mem_of_getElem? e)
      dsimp only at z
      rw [if_pos kp] at z
      split at z
      · cases z
      · rw [List.mem_singleton.mp z]; exact kp
  · obtain ⟨i, _, z⟩ := memFlat z
    unfold behindAt at z
    cases e : ins[i]? with
    | none => rw [e] at z; cases z
    | some p =>
      rw [e] at z
      have kp := k p (List.mem_of_getElem? e)
      dsimp only at z
      rw [if_pos kp] at z
      split at z
      · cases z
      · cases z
theorem letIn1 {pl : Option Nat} {st : List Person} {bt : List Comer} (h1 : ∀ p ∈ st, p.left = 1) (h2 : ∀ x ∈ bt, x.work = 1) : ∀ p ∈ (letIn pl st bt).1, p.left = 1 := by
  intro p hp
  rcases List.mem_append.mp hp with z | z
  · exact h1 p z
  · obtain ⟨x, hx, rfl⟩ := List.mem_map.mp z
    exact h2 x (List.mem_of_mem_take hx)
theorem letInCount {pl : Option Nat} {st : List Person} {bt : List Comer} (h : ∀ n, pl = some n → st.length ≤ n) : (letIn pl st bt).1.length = capAll pl (st.length + bt.length) ∧ (letIn pl st bt).2 + capAll pl (st.length + bt.length) = st.length + bt.length := by
  have e1 : (letIn pl st bt).1.length = st.length + cap pl st.length bt.length := by
    show (st ++ _).length = _
    rw [List.length_append, List.length_map, List.length_take]
    have := cap_le pl st.length bt.length
    omega
  have e2 : (letIn pl st bt).2 = bt.length - cap pl st.length bt.length := rfl
  rw [e1, e2]
  cases pl with
  | none => exact ⟨rfl, by show bt.length - bt.length + (st.length + bt.length) = _; omega⟩
  | some n =>
    have := h n rfl
    refine ⟨?_, ?_⟩
    · show st.length + min bt.length (n - st.length) = min (st.length + bt.length) n
      omega
    · show bt.length - min bt.length (n - st.length) + min (st.length + bt.length) n = st.length + bt.length
      omega
theorem all1At {h : House} {way : List (List Comer)} (hw : ∀ b ∈ way, ∀ c ∈ b, c.work = 1) : ∀ i, (∀ p ∈ stAt h way [] i, p.left = 1)
  | 0 => fun _ z => nomatch z
  | i + 1 => worked1 (letIn1 (all1At hw i) (getBeat (P := fun b => ∀ c ∈ b, c.work = 1) (fun c hc => by cases hc) hw i))
theorem count1 (h : House) (way : List (List Comer)) (hw : ∀ b ∈ way, ∀ c ∈ b, c.work = 1) : ∀ i, (stAt h way [] i).length = insAt h.hands h.places way i ∧
    ((List.range i).map fun j => (toldAt h way [] j).lost).sum = lossAt h.hands h.places way i
  | 0 => ⟨rfl, rfl⟩
  | i + 1 => by
    obtain ⟨h1, h2⟩ := count1 h way hw i
    have pl : ∀ n, h.places = some n → (stAt h way [] i).length ≤ n := stAtPl (fun n _ => Nat.zero_le _) i
    have wb : ∀ c ∈ way.getD i [], c.work = 1 := getBeat (P := fun b => ∀ c ∈ b, c.work = 1) (fun c hc => by cases hc) hw i
    obtain ⟨c1, c2⟩ := letInCount (bt := way.getD i []) pl
    have a1 := letIn1 (pl := h.places) (all1At (h := h) hw i) wb
    have wk := workWorked h (letIn h.places (stAt h way [] i) (way.getD i [])).1 (fun p hp => by rw [a1 p hp]; exact Nat.le_refl _)
    rw [workAll1 a1, workAll1 (worked1 a1)] at wk
    have e : (stAt h way [] (i + 1)).length = (workedOf h (letIn h.places (stAt h way [] i) (way.getD i [])).1).1.length := rfl
    refine ⟨?_, ?_⟩
    · show _ = capAll h.places (insAt h.hands h.places way i + _) - h.hands
      rw [e, ← h1, ← c1]
      omega
    · have e2 : (toldAt h way [] i).lost = (letIn h.places (stAt h way [] i) (way.getD i [])).2 := rfl
      rw [List.range_succ, List.map_append, List.sum_append, h2]
      show lossAt h.hands h.places way i + ((toldAt h way [] i).lost + 0) = lossAt h.hands h.places way i + (insAt h.hands h.places way i + _) - capAll h.places (insAt h.hands h.places way i + _)
      rw [e2, ← h1]
      have := capAll_le h.places ((stAt h way [] i).length + (way.getD i []).length)
      omega
def plLe : Option Nat → Option Nat → Prop
  | _, none => True
  | some p, some q => p ≤ q
  | none, some _ => False
theorem capMono {p q : Option Nat} (h : plLe p q) {m n : Nat} (e : m ≤ n) : capAll p m ≤ capAll q n := by
  cases q with
  | none => exact Nat.le_trans (capAll_le _ _) e
  | some q =>
    cases p with
    | none => exact h.elim
    | some p =>
      have h : p ≤ q := h
      show min m p ≤ min n q
      omega
/-- with more places -/
theorem widerIns (hands : Nat) {p q : Option Nat} (h : plLe p q) (way : List (List Comer)) : ∀ i, insAt hands p way i ≤ insAt hands q way i ∧ lossAt hands q way i + insAt hands q way i ≤ lossAt hands p way i + insAt hands p way i
  | 0 => ⟨Nat.le_refl _, Nat.le_refl _⟩
  | i + 1 => by
    obtain ⟨h1, h2⟩ := widerIns hands h way i
    have cm := capMono h (Nat.add_le_add_right h1 (way.getD i []).length)
    have l1 := capAll_le p (insAt hands p way i + (way.getD i []).length)
    have l2 := capAll_le q (insAt hands q way i + (way.getD i []).length)
    refine ⟨?_, ?_⟩
    · show capAll p _ - hands ≤ capAll q _ - hands
      omega
    · show lossAt hands q way i + (insAt hands q way i + _) - capAll q (insAt hands q way i + _) + (capAll q (insAt hands q way i + _) - hands) ≤ lossAt hands p way i + (insAt hands p way i + _) - capAll p (insAt hands p way i + _) + (capAll p (insAt hands p way i + _) - hands)
      omega
theorem busierIns {h1 h2 : Nat} (h : h1 ≤ h2) (p : Option Nat) (way : List (List Comer)) : ∀ i, insAt h2 p way i ≤ insAt h1 p way i ∧ lossAt h2 p way i ≤ lossAt h1 p way i
  | 0 => ⟨Nat.le_refl _, Nat.le_refl _⟩
  | i + 1 => by
    obtain ⟨a1, a2⟩ := busierIns h p way i
    have key : ∀ m n : Nat, m ≤ n → capAll p m ≤ capAll p n ∧ m - capAll p m ≤ n - capAll p n := by
      intro m n e
      cases p with
      | none => exact ⟨e, by show m - m ≤ n - n; omega⟩
      | some q =>
        refine ⟨?_, ?_⟩
        · show min m q ≤ min n q
          omega
        · show m - min m q ≤ n - min n q
          omega
    obtain ⟨k1, k2⟩ := key _ _ (Nat.add_le_add_right a1 (way.getD i []).length)
    have l1 := capAll_le p (insAt h1 p way i + (way.getD i []).length)
    have l2 := capAll_le p (insAt h2 p way i + (way.getD i []).length)
    refine ⟨?_, ?_⟩
    · show capAll p _ - h2 ≤ capAll p _ - h1
      omega
    · show lossAt h2 p way i + (insAt h2 p way i + _) - capAll p (insAt h2 p way i + _) ≤ lossAt h1 p way i + (insAt h1 p way i + _) - capAll p (insAt h1 p way i + _)
      omega
def Two (H : Hp) (v : V) (n : Nat) (f g : Nat → Nat) : Prop := ∃ t l1 l2, v = .ref t ∧ H t = some (.tup [.ref l1, .ref l2]) ∧ H l1 = some (.lst ((List.range n).map fun i => V.int (f i))) ∧ H l2 = some (.lst ((List.range n).map fun i => V.int (g i)))
theorem Two.kp {H H' : Hp} {v : V} {n : Nat} {f g : Nat → Nat} (h : Two H v n f g) (k : Kp Non H H') : Two H' v n f g := by
  obtain ⟨t, l1, l2, e, a, b, c⟩ := h
  exact ⟨t, l1, l2, e, k.same _ _ (fun z => z) a, k.same _ _ (fun z => z) b, k.same _ _ (fun z => z) c⟩
theorem Two.ext {H : Hp} {v : V} {n : Nat} {f g f' g' : Nat → Nat} (h : Two H v n f g) (e1 : ∀ i < n, f i = f' i) (e2 : ∀ i < n, g i = g' i) : Two H v n f' g' := by
  obtain ⟨t, l1, l2, e, a, b, c⟩ := h
  refine ⟨t, l1, l2, e, a, ?_, ?_⟩
  · rw [b]; exact congrArg (fun z => some (HO.lst z)) (List.map_congr_left fun i hi => by rw [e1 i (List.mem_range.mp hi)])
  · rw [c]; exact congrArg (fun z => some (HO.lst z)) (List.map_congr_left fun i hi => by rw [e2 i (List.mem_range.mp hi)])
def twoD (n : Nat) (f g : Nat → Nat) : PyData := .tuple [.list ((List.range n).map fun i => .int (f i)), .list ((List.range n).map fun i => .int (g i))]
theorem Two.dp {K : PySem.W.Frag} {H : Hp} {v : V} {n : Nat} {f g : Nat → Nat} (h : Two H v n f g) : Dp K H v (twoD n f g) := by
  obtain ⟨t, l1, l2, rfl, a, b, c⟩ := h
  have mk : ∀ (f : Nat → Nat) (l : List Nat), DpAll K H (l.map fun i => V.int (f i)) (l.map fun i => PyData.int (f i)) := by
    intro f l
    induction l with
    | nil => exact .nil
    | cons a r ih => exact .cons (.int _) ih
  exact .tup (.of a) (.cons (.lst (.of b) (mk f _)) (.cons (.lst (.of c) (mk g _)) .nil))
/-! ### smaller weights -/
theorem Sh.intS {dp : Nat} {i : Int} (k : Nat) (hk : k ≤ 30) (h : i.natAbs < 2 ^ k) : Sh dp k (.int i) := by
  have h2 : (2 : Nat) ^ k ≤ 2 ^ 30 := Nat.pow_le_pow_right (by omega) hk
  have b := Sh.int (dp := dp) (i := i) (by omega)
  refine ⟨b.s, b.nd, b.dep, b.lv, ?_⟩
  show (if i == 0 then 0 else i.natAbs.log2 + 1) ≤ k
  split
  · exact Nat.zero_le _
  · rename_i z
    have nz : i.natAbs ≠ 0 := fun e => absurd (Int.natAbs_eq_zero.mp e) (by simpa using z)
    exact (Nat.log2_lt nz).mpr h
theorem shPersonS {p : Person} (k : PersonOk p) : Sh 1 7 p.d := by
  have := k.rk
  have := k.l6
  exact (Sh.tup (dp := 0) (.cons (Sh.intS 1 (by omega) (by omega)) (.cons (Sh.intS 3 (by omega) (by omega)) (.cons (n := 0) (Sh.bl _) (.nil (n := 0)))))).mono (by omega) (by omega)
theorem shStandS {st : List Person} (k : ∀ p ∈ st, PersonOk p) : Sh 2 (st.length * 8) (standD st) := by
  have := ShAll.of (dp := 1) (n := 7) (ds := st.map Person.d) (fun x hx => by
    obtain ⟨p, hp, rfl⟩ := List.mem_map.mp hx
    exact shPersonS (k p hp))
  rw [List.length_map] at this
  exact .tup this
theorem shComerS {x : Comer} (k : ComerOk x) : Sh 1 6 x.d := by
  have := k.rk
  have := k.w6
  exact (Sh.tup (dp := 0) (.cons (Sh.intS 1 (by omega) (by omega)) (.cons (Sh.intS 3 (by omega) (by omega)) (.nil (n := 0))))).mono (by omega) (by omega)
theorem shBeatS {bt : List Comer} (k : ∀ x ∈ bt, ComerOk x) : Sh 2 (bt.length * 7) (beatD bt) := by
  have := ShAll.of (dp := 1) (n := 6) (ds := bt.map Comer.d) (fun x hx => by
    obtain ⟨p, hp, rfl⟩ := List.mem_map.mp hx
    exact shComerS (k p hp))
  rw [List.length_map] at this
  exact .tup this
theorem shWayS {way : List (List Comer)} (k : ∀ b ∈ way, ∀ c ∈ b, ComerOk c) (h3 : ∀ b ∈ way, b.length ≤ 3) : Sh 3 (way.length * 22) (wayD way) := by
  have := ShAll.of (dp := 2) (n := 21) (ds := way.map beatD) (fun x hx => by
    obtain ⟨b, hb, rfl⟩ := List.mem_map.mp hx
    exact (shBeatS (k b hb)).mono (Nat.le_refl _) (by have := h3 b hb; omega))
  rw [List.length_map] at this
  exact .tup this
theorem shNatsS {ns : List Nat} (k : ∀ n ∈ ns, n < 1024) : Sh 1 (ns.length * 11) (natsD ns) := by
  have := ShAll.of (dp := 0) (n := 10) (ds := ns.map fun n : Nat => PyData.int n) (fun x hx => by
    obtain ⟨p, hp, rfl⟩ := List.mem_map.mp hx
    exact Sh.intS 10 (by omega) (by have := k p hp; omega))
  rw [List.length_map] at this
  exact .tup this
theorem shRun {h : House} {way : List (List Comer)} {st : List Person} (h1 : ∀ p ∈ st, PersonOk p) (h2 : ∀ b ∈ way, ∀ c ∈ b, ComerOk c) (hm : st.length + manyIn way ≤ 100) (hl : way.length ≤ 40) : Sh 4 40000 (runD h way st) := by
  have slen : ∀ i, (stAt h way st i).length ≤ 100 := fun i => by
    have := stAtLen h way st i
    have := cameLe way i
    omega
  have blen : ∀ i, (way.getD i []).length ≤ 100 := fun i => by
    have := cameSucc way i
    have := cameLe way (i + 1)
    omega
  have sA : ShAll 2 (41 * 801) ((standsOf h way st).map standD) := by
    have := ShAll.of (dp := 2) (n := 800) (ds := (standsOf h way st).map standD) (fun x hx => by
      obtain ⟨s, hs, rfl⟩ := List.mem_map.mp hx
      unfold standsOf at hs
      obtain ⟨i, hi, rfl⟩ := List.mem_map.mp hs
      have := slen i
      exact (shStandS (stAtOk h1 h2 i)).mono (Nat.le_refl _) (by omega))
    have e : ((standsOf h way st).map standD).length ≤ 41 := by
      unfold standsOf
      rw [List.length_map, List.length_map, List.length_range]
      omega
    exact ⟨this.s, this.nd, this.dep, this.lv, Nat.le_trans this.wt (Nat.mul_le_mul_right _ e)⟩
  have sL : Sh 1 440 (natsD (lostOf h way st)) := (shNatsS fun n hn => by
    unfold lostOf at hn
    obtain ⟨i, _, rfl⟩ := List.mem_map.mp hn
    have : (toldAt h way st i).lost ≤ (way.getD i []).length := Nat.sub_le _ _
    have := blen i
    omega).mono (Nat.le_refl _) (by unfold lostOf; rw [List.length_map, List.length_range]; omega)
  have sG : Sh 1 440 (natsD (goneOf h way st)) := (shNatsS fun n hn => by
    unfold goneOf at hn
    obtain ⟨i, _, rfl⟩ := List.mem_map.mp hn
    have : (toldAt h way st i).gone.length ≤ (stAt h way st i).length + (way.getD i []).length := (stepGone _ _ _).1
    have := blen i
    have := slen i
    omega).mono (Nat.le_refl _) (by unfold goneOf; rw [List.length_map, List.length_range]; omega)
  exact (Sh.tup (dp := 3) (.cons (Sh.tup sA) (.cons (sL.mono (by omega) (Nat.le_refl _)) (.cons (sG.mono (by omega) (Nat.le_refl _)) (.nil (n := 0)))))).mono (by omega) (by omega)
def emptyAt (h : House) (way : List (List Comer)) (i : Nat) : Bool := decide (stAt h way [] i = [])
def enters (h : House) (way : List (List Comer)) (i : Nat) : Bool := decide ((toldAt h way [] i).lost < (way.getD i []).length)
end Hw
/-! Plain laws of what the readings are made of. -/
namespace Hw
open PySem PySem.Spec PyProof.Rows L2 Vl
/-- not by computation: a proof's steps stay small -/
theorem bO {α β : Type} (a : α) (f : α → R β) : (R.ok a).bind f = f a := Eq.trans rfl rfl
@[simp] theorem immD_int (n : Int) : immD (.int n) = true := rfl
@[simp] theorem immD_bool (n : Bool) : immD (.bool n) = true := rfl
@[simp] theorem immD_str (n : Str) : immD (.str n) = true := rfl
@[simp] theorem immD_none : immD .none = true := rfl
@[simp] theorem immD_tup (ds : List PyData) : immD (.tuple ds) = immAll ds := by rw [immD]
@[simp] theorem immAll_nil : immAll [] = true := by rw [immAll]
@[simp] theorem immAll_cons (d : PyData) (ds : List PyData) : immAll (d :: ds) = (immD d && immAll ds) := by rw [immAll]
theorem immAll_map {α : Type} {f : α → PyData} {l : List α} (h : ∀ x ∈ l, immD (f x) = true) : immAll (l.map f) = true := by
  rw [immAll_iff]
  intro d hd
  obtain ⟨x, hx, rfl⟩ := List.mem_map.mp hd
  exact h x hx
@[simp] theorem immD_person (p : Person) : immD p.d = true := by simp [Person.d]
@[simp] theorem immD_comer (p : Comer) : immD p.d = true := by simp [Comer.d]
@[simp] theorem immD_stand (st : List Person) : immD (standD st) = true := by unfold standD; rw [immD_tup]; exact immAll_map fun p _ => immD_person p
@[simp] theorem immD_beat (st : List Comer) : immD (beatD st) = true := by unfold beatD; rw [immD_tup]; exact immAll_map fun p _ => immD_comer p
theorem immAll_ints (ns : List Int) : immAll (ns.map PyData.int) = true := immAll_map fun _ _ => rfl
theorem foldR_idx {α σ : Type} {f : α → σ → R σ} (xs : List α) (S : Nat → σ) (h : ∀ i x, xs[i]? = some x → f x (S i) = .ok (S (i + 1))) : foldR xs (S 0) f = .ok (S xs.length) := by
  induction xs generalizing S with
  | nil => rfl
  | cons x xs ih =>
    unfold foldR
    rw [h 0 x rfl]
    exact ih (fun i => S (i + 1)) fun i y hy => h (i + 1) y (by simpa using hy)
/-- with a state that is only known to obey -/
theorem foldR_inv {α σ : Type} {f : α → σ → R σ} (xs : List α) (P : Nat → σ → Prop) (s0 : σ) (h0 : P 0 s0) (h : ∀ i x s, xs[i]? = some x → P i s → ∃ s', f x s = .ok s' ∧ P (i + 1) s') : ∃ s, foldR xs s0 f = .ok s ∧ P xs.length s := by
  induction xs generalizing P s0 with
  | nil => exact ⟨s0, rfl, h0⟩
  | cons x xs ih =>
    obtain ⟨s1, e1, h1⟩ := h 0 x s0 rfl h0
    obtain ⟨s2, e2, h2⟩ := ih (fun i => P (i + 1)) s1 h1 fun i y s hy => h (i + 1) y s (by simpa using hy)
    exact ⟨s2, by unfold foldR; rw [e1]; exact e2, h2⟩
/-- a loop that never leaves -/
theorem loopR_inv {α σ ρ : Type} {f : α → σ → R (Ctl σ ρ)} (xs : List α) (P : Nat → σ → Prop) (s0 : σ) (h0 : P 0 s0) (h : ∀ i x s, xs[i]? = some x → P i s → ∃ s', f x s = .ok (.go s') ∧ P (i + 1) s') : ∃ s, loopR xs s0 f = .ok (.inl s) ∧ P xs.length s := by
  induction xs generalizing P s0 with
  | nil => exact ⟨s0, rfl, h0⟩
  | cons x xs ih =>
    obtain ⟨s1, e1, h1⟩ := h 0 x s0 rfl h0
    obtain ⟨s2, e2, h2⟩ := ih (fun i => P (i + 1)) s1 h1 fun i y s hy => h (i + 1) y s (by simpa using hy)
    exact ⟨s2, by unfold loopR; rw [e1]; exact e2, h2⟩
theorem mapR_ok {α β : Type} {f : α → R β} {g : α → β} : ∀ {xs : List α}, (∀ x ∈ xs, f x = .ok (g x)) → mapR xs f = .ok (xs.map g)
  | [], _ => rfl
  | x :: xs, h => by
    unfold mapR
    rw [h x List.mem_cons_self, mapR_ok fun y hy => h y (List.mem_cons_of_mem _ hy)]
    rfl
theorem mapR_map {α β γ : Type} {f : α → R β} {e : γ → α} {g : γ → β} {xs : List γ} (h : ∀ x ∈ xs, f (e x) = .ok (g x)) : mapR (xs.map e) f = .ok (xs.map g) := by
  induction xs with
  | nil => rfl
  | cons x xs ih =>
    rw [List.map_cons]
    unfold mapR
    rw [h x List.mem_cons_self, ih fun y hy => h y (List.mem_cons_of_mem _ hy)]
    rfl
theorem fmapR_map {α β γ : Type} {f : α → R (Option β)} {e : γ → α} {g : γ → Option β} {xs : List γ} (h : ∀ x ∈ xs, f (e x) = .ok (g x)) : fmapR (xs.map e) f = .ok (xs.filterMap g) := by
  induction xs with
  | nil => rfl
  | cons x xs ih =>
    rw [List.map_cons]
    unfold fmapR
    rw [h x List.mem_cons_self, ih fun y hy => h y (List.mem_cons_of_mem _ hy), List.filterMap_cons]
    simp only [bO]
    cases g x <;> rfl
theorem mapS_inv {α β σ : Type} {f : α → σ → R (β × σ)} (xs : List α) (P : Nat → List β → σ → Prop) (s0 : σ) (h0 : P 0 [] s0) (h : ∀ i x l s, xs[i]? = some x → l.length = i → P i l s → ∃ y s', f x s = .ok (y, s') ∧ P (i + 1) (l ++ [y]) s') :
    ∃ l s, mapS xs s0 f = .ok (l, s) ∧ P xs.length l s ∧ l.length = xs.length := by
  have key : ∀ (xs : List α) (k : Nat) (l0 : List β) (s0 : σ), l0.length = k → P k l0 s0 → (∀ i x l s, xs[i]? = some x → l.length = k + i → P (k + i) l s → ∃ y s', f x s = .ok (y, s') ∧ P (k + i + 1) (l ++ [y]) s') →
      ∃ l s, mapS xs s0 f = .ok (l, s) ∧ P (k + xs.length) (l0 ++ l) s ∧ l.length = xs.length := by
    intro xs
    induction xs with
    | nil => exact fun k l0 s0 hk hp _ => ⟨[], s0, rfl, by simpa using hp, rfl⟩
    | cons x xs ih =>
      intro k l0 s0 hk hp h
      obtain ⟨y, s1, e1, h1⟩ := h 0 x l0 s0 rfl hk hp
      obtain ⟨l, s2, e2, h2, h3⟩ := ih (k + 1) (l0 ++ [y]) s1 (by simp [hk]) h1 fun i z l s hz hl hp => by
        have e : k + (i + 1) = k + 1 + i := by omega
        have := h (i + 1) z l s (by simpa using hz) (by omega) (by rw [e]; exact hp)
        rw [e] at this
        exact this
      refine ⟨y :: l, s2, by unfold mapS; rw [e1]; simp only [bO]; rw [e2]; rfl, ?_, by simp [h3]⟩
      rw [List.append_assoc] at h2
      have e : k + (xs.length + 1) = k + 1 + xs.length := by omega
      show P (k + (xs.length + 1)) (l0 ++ y :: l) s2
      rw [e]
      exact h2
  obtain ⟨l, s, e, h2, h3⟩ := key xs 0 [] s0 rfl h0 fun i x l s hx hl hp => by
    rw [Nat.zero_add] at hl hp ⊢
    exact h i x l s hx hl hp
  exact ⟨l, s, e, by rw [Nat.zero_add] at h2; exact h2, h3⟩
@[simp] theorem isV_none (d : PyData) : isV d .none = .ok (isNone d) := rfl
@[simp] theorem nisV_none (d : PyData) : nisV d .none = .ok (!isNone d) := rfl
@[simp] theorem isNone_int (n : Int) : isNone (.int n) = false := rfl
@[simp] theorem isNone_none : isNone .none = true := rfl
@[simp] theorem isNone_tup (ds : List PyData) : isNone (.tuple ds) = false := rfl
theorem atI_nn {α : Type} {xs : List α} {i : Nat} {z : α} (h : xs[i]? = some z) : atI xs (i : Int) = some z := by
  have hi := (List.getElem?_eq_some_iff.mp h).1
  exact atI_nat h
theorem ixV_t {ds : List PyData} {i : Nat} {z : PyData} (h : ds[i]? = some z) : ixV (.tuple ds) (.int (i : Int)) = .ok z := by
  unfold ixV
  simp only [atI_nn h]
theorem ixV_l {ds : List PyData} {i : Nat} {z : PyData} (h : ds[i]? = some z) (hz : immD z = true) : ixV (.list ds) (.int (i : Int)) = .ok z := by
  unfold ixV
  simp only [atI_nn h]
  exact asI_eq hz
theorem appL_ok {xs : List PyData} {d : PyData} (h : xs.length < 1000000) : appL xs d = .ok (xs ++ [d]) := if_pos (by rw [sizeLine_eq]; omega)
theorem range1_n (n : Nat) (h : n ≤ 1000000) : range1 (.int (n : Int)) = .ok ((List.range n).map fun i : Nat => PyData.int (i : Int)) := by
  unfold range1 range2
  simp only []
  rw [if_pos (by unfold rngOk; rw [sizeLine_eq]; refine ⟨?_, ?_, ?_, ?_, ?_⟩ <;> omega)]
  unfold rgD
  simp
theorem any_strs (ws : List Str) (w : Str) : ((ws.map PyData.str).any fun z => PyData.eqv z (.str w)) = decide (w ∈ ws) := by
  induction ws with
  | nil => rfl
  | cons x ns ih =>
    rw [List.map_cons, List.any_cons, ih, eqv_str]
    by_cases c : x = w
    · simp [c]
    · simp [c, Ne.symm c]
theorem inT_strs {w : Str} {ws : List Str} (hw : SeqAt.shaped (.str w) = true) (h : SeqAt.shaped (.tuple (ws.map PyData.str)) = true) : Vl.inV (.str w) (.tuple (ws.map PyData.str)) = .ok (decide (w ∈ ws)) := by
  unfold Vl.inV
  simp only []
  rw [if_pos ⟨hw, h⟩, any_strs]
theorem any_ints (ns : List Int) (n : Int) : ((ns.map PyData.int).any fun z => PyData.eqv z (.int n)) = decide (n ∈ ns) := by
  induction ns with
  | nil => rfl
  | cons x ns ih =>
    rw [List.map_cons, List.any_cons, ih, eqv_ints]
    by_cases c : x = n
    · simp [c]
    · simp [c, Ne.symm c]
theorem canLay_map {β : Type} {enc : β → PyData} (hc : ∀ b, (enc b).canLay0 = true) : ∀ bs : List β, PyData.canLayAll0 (bs.map enc) = true
  | [] => by simp [PyData.canLayAll0]
  | b :: bs => by simp [PyData.canLayAll0, hc b, canLay_map hc bs]
theorem depth_map {β : Type} {enc : β → PyData} {n : Nat} (hc : ∀ b, (enc b).depth ≤ n) : ∀ bs : List β, PyData.depthAll (bs.map enc) ≤ n + 1
  | [] => by simp [PyData.depthAll]
  | b :: bs => by
    have h1 := hc b
    have h2 := depth_map hc bs
    simp only [List.map_cons, PyData.depthAll]
    omega
theorem sortV_map {β : Type} (enc : β → PyData) (bs : List β) (h1 : PySem.W.AllAlike (bs.map enc)) (h2 : PySem.W.Sortable (bs.map enc)) (h3 : ∀ b ∈ bs, (enc b).depth ≤ 60) (h4 : ∀ b ∈ bs, immD (enc b) = true) :
    sortV (.list (bs.map enc)) = .ok ((bs.mergeSort (PySem.W.dataLe false enc)).map enc) := by
  rw [sortV_l ⟨h1, h2, fun d hd => by obtain ⟨b, hb, rfl⟩ := List.mem_map.mp hd; exact h3 b hb, immAll_map h4⟩]
  congr 1
  exact (List.map_mergeSort (f := enc) (r := PySem.W.dataLe false enc) (s := PySem.W.dataLe false id) (fun a _ b _ => rfl)).symm
theorem sortV_nats (ns : List Nat) : sortV (.list (ns.map fun n : Nat => PyData.int n)) = .ok ((ns.mergeSort fun a b => decide (a ≤ b)).map fun n : Nat => PyData.int n) := by
  rw [sortV_map (fun n : Nat => PyData.int n) ns (PySem.W.AllAlike.of fun b b' => by simp [PySem.W.alike]) (PySem.W.Sortable.others fun b => ⟨(fun h => nomatch h), (fun xs h => nomatch h)⟩) (fun b _ => Nat.zero_le _) (fun _ _ => rfl)]
  rw [PySem.W.dataLe_int (fun n : Nat => (n : Int))]
  simp
theorem cutD_take (ds : List PyData) (n : Nat) : Vl.cutD ds none (some (n : Int)) = ds.take n := by
  unfold Vl.cutD
  rw [HT.sIx_none, HT.sIx_nat, List.drop_zero, Nat.sub_zero]
  by_cases c : n ≤ ds.length
  · rw [Nat.min_eq_left c]
  · rw [Nat.min_eq_right (by omega), List.take_of_length_le (Nat.le_refl _), List.take_of_length_le (by omega)]
theorem cutD_drop (ds : List PyData) (n : Nat) : Vl.cutD ds (some (n : Int)) none = ds.drop n := by
  unfold Vl.cutD
  rw [HT.sIx_none, HT.sIx_nat]
  by_cases c : n ≤ ds.length
  · rw [Nat.min_eq_left c, List.take_of_length_le (by rw [List.length_drop]; omega)]
  · rw [Nat.min_eq_right (by omega), List.drop_of_length_le (Nat.le_refl _), List.drop_of_length_le (by omega), List.take_nil]
theorem sh_map {β : Type} {enc : β → PyData} {n : Nat} (h1 : ∀ b, (enc b).canLay0 = true) (h2 : ∀ b, (enc b).depth ≤ n) (h3 : n ≤ 60) (bs : List β) : SeqAt.shaped (.tuple (bs.map enc)) = true := by
  unfold SeqAt.shaped
  rw [Bool.and_eq_true, decide_eq_true_eq]
  refine ⟨by rw [PyData.canLay0]; exact canLay_map h1 bs, ?_⟩
  rw [PyData.depth]
  have := depth_map h2 bs
  omega
theorem sh_mapL {β : Type} {enc : β → PyData} {n : Nat} (h1 : ∀ b, (enc b).canLay0 = true) (h2 : ∀ b, (enc b).depth ≤ n) (h3 : n ≤ 60) (bs : List β) : SeqAt.shaped (.list (bs.map enc)) = true := by
  unfold SeqAt.shaped
  rw [Bool.and_eq_true, decide_eq_true_eq]
  refine ⟨by rw [PyData.canLay0]; exact canLay_map h1 bs, ?_⟩
  rw [PyData.depth]
  have := depth_map h2 bs
  omega
theorem sh_nats (sm : List Nat) : SeqAt.shaped (natsD sm) = true := sh_map (n := 0) (fun _ => by rw [PyData.canLay0]) (fun _ => Nat.le_refl _) (by decide) sm
theorem sh_ints (sm : List Int) : SeqAt.shaped (.tuple (sm.map PyData.int)) = true := sh_map (n := 0) (fun _ => by rw [PyData.canLay0]) (fun _ => Nat.le_refl _) (by decide) sm
theorem sh_intsL (sm : List Int) : SeqAt.shaped (.list (sm.map PyData.int)) = true := sh_mapL (n := 0) (fun _ => by rw [PyData.canLay0]) (fun _ => Nat.le_refl _) (by decide) sm
theorem ninV_nats (i : Nat) (sm : List Nat) : ninV (.int (i : Int)) (natsD sm) = .ok (!decide (i ∈ sm)) := by
  have h : Vl.inV (.int (i : Int)) (natsD sm) = .ok (decide (i ∈ sm)) := by
    refine (if_pos ⟨sh_int _, sh_nats sm⟩).trans ?_
    rw [show (sm.map fun n : Nat => PyData.int n) = (sm.map fun n : Nat => (n : Int)).map PyData.int from by rw [List.map_map]; rfl, any_ints]
    exact congrArg (fun b : Bool => R.ok b) (decide_eq_decide.mpr (memCast sm i))
  unfold ninV
  rw [h]
  rfl
theorem atI_lst {α : Type} (xs : List α) (z : α) : atI (xs ++ [z]) (-1) = some z := by
  unfold atI ixN
  have hl : (xs ++ [z]).length = xs.length + 1 := by simp
  rw [hl, if_neg (by decide), if_pos (by omega)]
  have : ((-1 : Int) + ((xs.length + 1 : Nat) : Int)).toNat = xs.length := by omega
  rw [this]
  simp
theorem ixV_last (xs : List PyData) (z : PyData) (hz : immD z = true) : ixV (.list (xs ++ [z])) (.int (-1)) = .ok z := by
  unfold ixV
  simp only [atI_lst]
  exact asI_eq hz
theorem log2_small {n : Nat} (h : n < 2 ^ 1000) : n.log2 < 1000 := by
  by_cases c : n = 0
  · subst c; decide
  · exact (Nat.log2_lt c).mpr h
theorem mulV_ok {a b : Int} (ha : a.natAbs < 2 ^ 1000) (hb : b.natAbs < 2 ^ 1000) : mulV (.int a) (.int b) = .ok (.int (a * b)) := by
  have h1 := log2_small ha
  have h2 := log2_small hb
  exact if_pos (by unfold mulOk; exact decide_eq_true (by omega))
theorem divV_ok {a b : Int} (h0 : 0 < b) (hb : b.natAbs < 2 ^ 1000) : divV (.int a) (.int b) = .ok (.int (a / b)) := by
  have h2 := log2_small hb
  exact if_pos ⟨h0, by omega⟩
theorem modV_ok {a b : Int} (h0 : 0 < b) : modV (.int a) (.int b) = .ok (.int (a % b)) := if_pos h0
theorem small1k {n : Nat} (h : n < 2 ^ 64) : n < 2 ^ 1000 := Nat.lt_of_lt_of_le h (Nat.pow_le_pow_right (by decide) (by decide))
theorem mulV_sm {a b : Int} (ha : -1000000000000000000 ≤ a ∧ a ≤ 1000000000000000000) (hb : -1000000000000000000 ≤ b ∧ b ≤ 1000000000000000000) : mulV (.int a) (.int b) = .ok (.int (a * b)) :=
  mulV_ok (small1k (by omega)) (small1k (by omega))
theorem divV_sm {a b : Int} (h0 : 0 < b) (hb : b ≤ 1000000000000000000) : divV (.int a) (.int b) = .ok (.int (a / b)) := divV_ok h0 (small1k (by omega))
theorem eqvNilL (ds : List PyData) : PyData.eqv (.list ds) (.list []) = decide (ds = []) := by
  cases ds <;> simp [PyData.eqv, PyData.eqvAll]
theorem neV_nilL {ds : List PyData} (h : SeqAt.shaped (.list ds) = true) : neV (.list ds) (.list []) = .ok (!decide (ds = [])) := by
  rw [neV_of h (by decide +kernel), eqvNilL]
theorem eqV_nilL {ds : List PyData} (h : SeqAt.shaped (.list ds) = true) : eqV (.list ds) (.list []) = .ok (decide (ds = [])) := by
  rw [eqV_of h (by decide +kernel), eqvNilL]
theorem memWay {way : List (List Comer)} {i : Nat} {x : PyData} (h : (way.map beatD)[i]? = some x) : ∃ b, way[i]? = some b ∧ beatD b = x := by
  rw [List.getElem?_map] at h
  cases e : way[i]? with
  | none => rw [e] at h; cases h
  | some b => rw [e] at h; exact ⟨b, rfl, Option.some.inj h⟩
/-- a tape in a list: its cells, its place, what is left; b draws more -/
def FeedL (fd : List PyData) (b : Nat) : Prop := ∃ (cs : List Int) (p l : Int), fd = [.list (cs.map PyData.int), .int p, .int l] ∧ 0 ≤ p ∧ 0 ≤ l ∧ p + b ≤ 1000000
theorem FeedL.less {fd : List PyData} {b b' : Nat} (h : FeedL fd b) (e : b' ≤ b) : FeedL fd b' := by
  obtain ⟨cs, p, l, h1, h2, h3, h4⟩ := h
  exact ⟨cs, p, l, h1, h2, h3, by omega⟩
theorem atI_intAny {ns : List Int} {n : Int} (h0 : 0 ≤ n) (h1 : n < ns.length) : ∃ w, atI (ns.map PyData.int) n = some (.int w) := by
  have hk : n.toNat < ns.length := by omega
  have e := atI_nat (xs := ns.map PyData.int) (j := n.toNat) (v := .int ns[n.toNat]) (by rw [List.getElem?_map, List.getElem?_eq_getElem hk]; rfl)
  rw [Int.toNat_of_nonneg h0] at e
  exact ⟨_, e⟩
theorem powV_18 : powV (.int 10) (.int 18) = .ok (.int 1000000000000000000) := by
  show (if 0 ≤ (18 : Int) ∧ (18 : Int) ≤ 1000000 ∧ (10 : Int).natAbs < 2 ^ 64 then R.ok (PyData.int ((10 : Int) ^ (18 : Int).toNat)) else .stuck) = _
  rw [if_pos (by decide)]
  rfl
/-- a choice among small numbers -/
theorem ixV_ints {ns : List Int} {n : Nat} (h : n < ns.length) : ixV (.list (ns.map PyData.int)) (.int (n : Int)) = .ok (.int (ns[n])) :=
  ixV_l (by rw [List.getElem?_map, List.getElem?_eq_getElem h]; rfl) rfl
theorem manySnoc (way : List (List Comer)) (b : List Comer) : manyIn (way ++ [b]) = manyIn way + b.length := by
  unfold manyIn
  rw [List.map_append, List.sum_append]
  simp
theorem WayOk.snoc {w : Nat} {way : List (List Comer)} {b : List Comer} (k : WayOk w way) (h : ∀ c ∈ b, c.rank < 2 ∧ 1 ≤ c.work ∧ c.work ≤ w) : WayOk w (way ++ [b]) := by
  refine ⟨fun x hx c hc => ?_, fun x hx c hc => ?_, fun x hx c hc => ?_⟩ <;>
  · rcases List.mem_append.mp hx with z | z
    · first | exact k.rk x z c hc | exact k.w1 x z c hc | exact k.wm x z c hc
    · rw [List.mem_singleton] at z
      subst z
      first | exact (h c hc).1 | exact (h c hc).2.1 | exact (h c hc).2.2
end Hw
/-! Steps told from the goal: the code stands in the goal alone. -/
namespace Hw
open PySem PySem.Spec PyProof.Rows L2 Vl
theorem st1 {α β : Type} {m : R α} {a : α} {k : α → R β} {r : R β} (h : m = .ok a) (h2 : k a = r) : m.bind k = r := by rw [h]; exact h2
/-- the same, what it comes to told by a wish -/
theorem st2 {α β : Type} {m : R α} {k : α → R β} {r : R β} {P : α → Prop} (h : ∃ a, m = .ok a ∧ P a) (h2 : ∀ a, P a → k a = r) : m.bind k = r := by
  obtain ⟨a, e, p⟩ := h
  rw [e]; exact h2 a p
theorem foldTo {α σ : Type} {f : α → σ → R σ} {xs : List α} {s0 A : σ} (S : Nat → σ) (h0 : s0 = S 0) (hN : S xs.length = A) (h : ∀ i x, xs[i]? = some x → f x (S i) = .ok (S (i + 1))) : foldR xs s0 f = .ok A := by
  rw [h0, ← hN]
  exact foldR_idx xs S h
theorem foldIn {α σ : Type} {f : α → σ → R σ} {xs : List α} {s0 : σ} (P : Nat → σ → Prop) (h0 : P 0 s0) (h : ∀ i x s, xs[i]? = some x → P i s → ∃ s', f x s = .ok s' ∧ P (i + 1) s') : ∃ s, foldR xs s0 f = .ok s ∧ P xs.length s := foldR_inv xs P s0 h0 h
theorem mapTo {α β γ : Type} {f : α → R β} {xs : List γ} {e : γ → α} (g : γ → β) (h : ∀ x ∈ xs, f (e x) = .ok (g x)) : mapR (xs.map e) f = .ok (xs.map g) := mapR_map h
theorem fmapTo {α β γ : Type} {f : α → R (Option β)} {xs : List γ} {e : γ → α} (g : γ → Option β) (h : ∀ x ∈ xs, f (e x) = .ok (g x)) : fmapR (xs.map e) f = .ok (xs.filterMap g) := fmapR_map h
theorem loopTo {α σ ρ : Type} {f : α → σ → R (Ctl σ ρ)} {xs : List α} {s0 A : σ} (S : Nat → σ) (h0 : s0 = S 0) (hN : S xs.length = A) (h : ∀ i x, xs[i]? = some x → f x (S i) = .ok (.go (S (i + 1)))) : loopR xs s0 f = .ok (.inl A) := by
  rw [h0, ← hN]
  obtain ⟨s, e, p⟩ := loopR_inv (f := f) xs (fun i s => s = S i) (S 0) rfl (fun i x s hx es => ⟨S (i + 1), by rw [es]; exact h i x hx, rfl⟩)
  rw [e, p]
theorem filterOpt {α β : Type} (p : α → Bool) (f : α → β) (l : List α) : l.filterMap (fun a => if p a = true then some (f a) else none) = (l.filter p).map f := by
  induction l with
  | nil => rfl
  | cons a l ih =>
    by_cases c : p a = true
    · rw [List.filterMap_cons_some (by rw [if_pos c]), List.filter_cons_of_pos c, List.map_cons, ih]
    · rw [List.filterMap_cons_none (by rw [if_neg c]), List.filter_cons_of_neg c, ih]
theorem takeSum {α : Type} (p : α → Bool) (g : α → Int) {rs : List α} {i : Nat} {x : α} (hx : rs[i]? = some x) : (((rs.take (i + 1)).filter p).map g).sum = (((rs.take i).filter p).map g).sum + if p x = true then g x else 0 := by
  rw [List.take_add_one, hx, List.filter_append, List.map_append, List.sum_append]
  congr 1
  by_cases c : p x = true
  · simp [List.filter_cons, c]
  · simp [List.filter_cons, c]
theorem intsMap {α : Type} (g : α → Int) : ∀ l : List α, intsOf (l.map fun x => PyData.int (g x)) = some (l.map g)
  | [] => rfl
  | x :: l => by
    rw [List.map_cons, List.map_cons]
    show (intsOf (l.map fun x => PyData.int (g x))).map _ = _
    rw [intsMap g l]
    rfl
theorem sumMap {α : Type} (g : α → Int) (l : List α) : sumV (.list (l.map fun x => PyData.int (g x))) = .ok (.int (l.map g).sum) := sumV_l (intsMap g l)
theorem sumMapT {α : Type} (g : α → Int) (l : List α) : sumV (.tuple (l.map fun x => PyData.int (g x))) = .ok (.int (l.map g).sum) := sumV_t (intsMap g l)
theorem getMapI {α β : Type} {f : α → β} {l : List α} {i : Nat} {x : β} (h : (l.map f)[i]? = some x) : ∃ y, l[i]? = some y ∧ f y = x := by
  rw [List.getElem?_map] at h
  exact Option.map_eq_some_iff.mp h
theorem range2_nn (a b : Nat) (ha : a ≤ 1000000) (hb : b ≤ 1000000) (h : a ≤ b) : range2 (.int (a : Int)) (.int (b : Int)) = .ok ((List.range (b - a)).map fun i : Nat => PyData.int ((a + i : Nat) : Int)) := by
  unfold range2
  simp only []
  rw [if_pos ⟨by omega, by omega, by omega, by omega, by rw [sizeLine_eq]; omega⟩]
  unfold rgD
  rw [show ((b : Int) - (a : Int)).toNat = b - a by omega]
  rfl
theorem rangeGet {n i : Nat} {x : PyData} {f : Nat → PyData} (hx : ((List.range n).map f)[i]? = some x) : i < n ∧ x = f i := by
  obtain ⟨y, e1, e2⟩ := getMapI hx
  obtain ⟨hl, e⟩ := List.getElem?_eq_some_iff.mp e1
  rw [List.length_range] at hl
  rw [List.getElem_range] at e
  exact ⟨hl, by rw [e, e2]⟩
theorem cutD_mid (ds : List PyData) {a b : Nat} (h : a ≤ b) (hb : b ≤ ds.length) : Vl.cutD ds (some (a : Int)) (some (b : Int)) = (ds.drop a).take (b - a) := by
  unfold Vl.cutD
  rw [HT.sIx_nat, HT.sIx_nat, Nat.min_eq_left (show a ≤ ds.length by omega), Nat.min_eq_left hb]
theorem cutRange {α : Type} (f : Nat → α) {n a b : Nat} (h : a ≤ b) (hb : b ≤ n) : ((((List.range n).map f).drop a).take (b - a)) = (List.range (b - a)).map fun i => f (a + i) := by
  refine List.ext_getElem (by simp; omega) fun i h1 h2 => ?_
  rw [List.getElem_take, List.getElem_drop, List.getElem_map, List.getElem_map, List.getElem_range, List.getElem_range]
end Hw
/-! Fractions in lowest terms. -/
namespace Hw
open PySem PySem.Spec PyProof.Rows L2 Vl
def gstep : PyData × PyData → R (Ctl (PyData × PyData) PyData) := fun s => R.bind (gtV s.2 (.int 0)) fun b => bif b then (R.bind (modV s.1 s.2) fun z => .ok (.go (s.2, z))) else .ok (.brk (s.1, s.2))
theorem gstep0 (x : PyData) : gstep (x, .int 0) = .ok (.brk (x, .int 0)) := by
  unfold gstep
  simp only [gtV_int, bO]
  rw [decide_eq_false (by decide)]
  rfl
theorem gstepS {a b : Nat} (h : 0 < b) : gstep (.int (a : Int), .int (b : Int)) = .ok (.go (.int (b : Int), .int ((a % b : Nat) : Int))) := by
  unfold gstep
  simp only [gtV_int, bO]
  rw [decide_eq_true (by omega), cond_true, modV_ok (by omega)]
  simp only [bO]
  rw [Int.natCast_emod]
theorem gcdLoop : ∀ (n a b k : Nat), b < 2 ^ n → 2 * n + 1 ≤ k → whileR k (PyData.int (a : Int), PyData.int (b : Int)) gstep = .ok (.inl (.int ((Nat.gcd a b : Nat) : Int), .int 0))
  | 0, a, b, k, h, hk => by
    obtain ⟨k, rfl⟩ : ∃ j, k = j + 1 := ⟨k - 1, by omega⟩
    have : b = 0 := by simpa using h
    subst this
    show (gstep _).bind _ = _
    rw [show (PyData.int ((0 : Nat) : Int)) = .int 0 from rfl, gstep0, Nat.gcd_zero_right]
    rfl
  | n + 1, a, b, k, h, hk => by
    obtain ⟨k, rfl⟩ : ∃ j, k = j + 1 := ⟨k - 1, by omega⟩
    show (gstep _).bind _ = _
    by_cases c : b = 0
    · subst c
      rw [show (PyData.int ((0 : Nat) : Int)) = .int 0 from rfl, gstep0, Nat.gcd_zero_right]
      rfl
    · have hb : 0 < b := by omega
      rw [gstepS hb]
      show whileR k _ gstep = _
      have hr := Nat.mod_lt a hb
      have e1 : Nat.gcd a b = Nat.gcd b (a % b) := by rw [Nat.gcd_comm a b, Nat.gcd_rec b a, Nat.gcd_comm]
      by_cases d : a % b < 2 ^ n
      · rw [gcdLoop n b (a % b) k d (by omega), e1]
      · obtain ⟨k, rfl⟩ : ∃ j, k = j + 1 := ⟨k - 1, by omega⟩
        have hp : 0 < a % b := by have := Nat.two_pow_pos n; omega
        show (gstep _).bind _ = _
        rw [gstepS hp]
        show whileR k _ gstep = _
        rw [Nat.pow_succ] at h
        have e2 : b % (a % b) = b - a % b := by
          rw [Nat.mod_eq_sub_mod (by omega), Nat.mod_eq_of_lt (by omega)]
        rw [gcdLoop n (a % b) (b % (a % b)) k (by omega) (by omega), e1]
        congr 4
        rw [Nat.gcd_comm b (a % b), Nat.gcd_rec (a % b) b, Nat.gcd_comm]
/-! ### lowest terms -/
def frD (x : Int × Int) : PyData := .tuple [.int x.1, .int x.2]
def fr (a b : Int) : Int × Int := (a / (Int.gcd a b : Int), b / (Int.gcd a b : Int))
theorem gcdPos {a b : Int} (h : 0 < b) : 0 < Int.gcd a b := Int.gcd_pos_of_ne_zero_right a (by omega)
theorem fr_mul1 (a b : Int) : (fr a b).1 * (Int.gcd a b : Int) = a := Int.ediv_mul_cancel (Int.gcd_dvd_left a b)
theorem fr_mul2 (a b : Int) : (fr a b).2 * (Int.gcd a b : Int) = b := Int.ediv_mul_cancel (Int.gcd_dvd_right a b)
theorem fr_pos {a b : Int} (h : 0 < b) : 0 < (fr a b).2 := by
  have g := gcdPos (a := a) h
  have e := fr_mul2 a b
  refine Int.pos_of_mul_pos_left (b := (Int.gcd a b : Int)) ?_ (by omega)
  rw [e]; exact h
theorem fr_cross {a b : Int} (h : 0 < b) : (fr a b).1 * b = a * (fr a b).2 := by
  have e1 := fr_mul1 a b
  have e2 := fr_mul2 a b
  generalize (fr a b).1 = x at *
  generalize (fr a b).2 = y at *
  generalize (Int.gcd a b : Int) = g at *
  subst e1 e2
  grind
theorem fr_cop {a b : Int} (h : 0 < b) : Int.gcd (fr a b).1 (fr a b).2 = 1 := by
  unfold fr
  exact Int.gcd_ediv_gcd_ediv_gcd (gcdPos h)
theorem copEq {x y u v : Int} (hy : 0 < y) (hv : 0 < v) (h1 : Int.gcd x y = 1) (h2 : Int.gcd u v = 1) (e : x * v = u * y) : x = u ∧ y = v := by
  have d1 : y ∣ v := by
    have : y ∣ x * v := ⟨u, by rw [e, Int.mul_comm]⟩
    have := (Int.dvd_gcd_mul_iff_dvd_mul (k := y) (n := x) (m := v)).mpr this
    rwa [Int.gcd_comm, h1, Int.natCast_one, Int.one_mul] at this
  have d2 : v ∣ y := by
    have : v ∣ u * y := ⟨x, by rw [← e, Int.mul_comm]⟩
    have := (Int.dvd_gcd_mul_iff_dvd_mul (k := v) (n := u) (m := y)).mpr this
    rwa [Int.gcd_comm, h2, Int.natCast_one, Int.one_mul] at this
  have ey : y = v := Int.le_antisymm (Int.le_of_dvd hv d1) (Int.le_of_dvd hy d2)
  subst ey
  exact ⟨Int.eq_of_mul_eq_mul_right (by omega) e, rfl⟩
theorem fr_eq {a b c d : Int} (hb : 0 < b) (hd : 0 < d) : fr a b = fr c d ↔ a * d = c * b := by
  have p1 := fr_pos (a := a) hb
  have p2 := fr_pos (a := c) hd
  have c1 := fr_cross (a := a) hb
  have c2 := fr_cross (a := c) hd
  constructor
  · intro e
    rw [e] at c1
    generalize (fr c d).1 = x at *
    generalize (fr c d).2 = y at *
    have : (a * d) * y = (c * b) * y := by grind
    exact Int.eq_of_mul_eq_mul_right (by omega) this
  · intro e
    have : (fr a b).1 * (fr c d).2 = (fr c d).1 * (fr a b).2 := by
      generalize (fr c d).1 = x at *
      generalize (fr c d).2 = y at *
      generalize (fr a b).1 = u at *
      generalize (fr a b).2 = v at *
      have : (u * y) * (b * d) = (x * v) * (b * d) := by grind
      exact Int.eq_of_mul_eq_mul_right (by have := Int.mul_pos hb hd; omega) this
    obtain ⟨e1, e2⟩ := copEq p1 p2 (fr_cop hb) (fr_cop hd) this
    exact Prod.ext e1 e2
theorem fr_self {a b : Int} (hb : 0 < b) (h : Int.gcd a b = 1) : fr a b = (a, b) := by
  unfold fr
  rw [h]
  simp
theorem fr_frac {a b : Int} (hb : 0 < b) : fr (fr a b).1 (fr a b).2 = fr a b := fr_self (fr_pos hb) (fr_cop hb)
/-! ### what the loop is used for -/
theorem absNat (a : Int) : (if a < 0 then -a else a) = (a.natAbs : Int) := by split <;> omega
end Hw
/-! Flows: what a row of lots weighs, ways down to nought, and what is shown of long numbers. -/
namespace Hw
open PySem PySem.Spec PyProof.Rows L2 Vl
/-! ### sums -/
def sumTo (F : Nat → Nat) : Nat → Nat
  | 0 => 0
  | n + 1 => sumTo F n + F n
theorem sumTo_congr {F G : Nat → Nat} : ∀ {n : Nat}, (∀ j < n, F j = G j) → sumTo F n = sumTo G n
  | 0, _ => rfl
  | n + 1, h => by
    unfold sumTo
    rw [sumTo_congr fun j hj => h j (by omega), h n (by omega)]
theorem sumTo_shift (F : Nat → Nat) : ∀ n, sumTo F (n + 1) = F 0 + sumTo (fun j => F (j + 1)) n
  | 0 => by simp [sumTo]
  | n + 1 => by
    rw [sumTo, sumTo_shift F n, sumTo]
    omega
theorem sumTo_le {F G : Nat → Nat} : ∀ {n : Nat}, (∀ j < n, F j ≤ G j) → sumTo F n ≤ sumTo G n
  | 0, _ => Nat.le_refl _
  | n + 1, h => Nat.add_le_add (sumTo_le fun j hj => h j (by omega)) (h n (by omega))
theorem sumTo_mul (c : Nat) (F : Nat → Nat) : ∀ n, sumTo (fun j => F j * c) n = sumTo F n * c
  | 0 => by simp [sumTo]
  | n + 1 => by rw [sumTo, sumTo_mul c F n, sumTo, Nat.add_mul]
/-! ### weighing a row -/
def lin (g : Nat → Nat) : List Nat → Nat
  | [] => 0
  | x :: l => x * g 0 + lin (fun i => g (i + 1)) l
theorem lin_cons (g : Nat → Nat) (x : Nat) (l : List Nat) : lin g (x :: l) = x * g 0 + lin (fun i => g (i + 1)) l := rfl
theorem lin_congr : ∀ {l : List Nat} {g h : Nat → Nat}, (∀ i < l.length, g i = h i) → lin g l = lin h l
  | [], _, _, _ => rfl
  | x :: l, g, h, e => by
    unfold lin
    rw [e 0 (by simp), lin_congr (l := l) fun i hi => e (i + 1) (by simpa using hi)]
theorem lin_set : ∀ (l : List Nat) (g : Nat → Nat) (i y x : Nat), l[i]? = some x → lin g (l.set i y) + x * g i = lin g l + y * g i
  | [], _, _, _, _, h => by simp at h
  | z :: l, g, 0, y, x, h => by
    simp at h
    subst h
    rw [List.set_cons_zero]
    unfold lin
    omega
  | z :: l, g, i + 1, y, x, h => by
    have := lin_set l (fun i => g (i + 1)) i y x (by simpa using h)
    rw [List.set_cons_succ]
    unfold lin
    omega
theorem lin_add (g h : Nat → Nat) : ∀ l : List Nat, lin (fun i => g i + h i) l = lin g l + lin h l
  | [] => rfl
  | x :: l => by
    unfold lin
    rw [lin_add (fun i => g (i + 1)) (fun i => h (i + 1)) l, Nat.mul_add]
    omega
theorem lin_zero : ∀ l : List Nat, lin (fun _ => 0) l = 0
  | [] => rfl
  | x :: l => by unfold lin; rw [lin_zero l, Nat.mul_zero]
theorem lin_mulR (g : Nat → Nat) (c : Nat) : ∀ l : List Nat, lin (fun i => g i * c) l = lin g l * c
  | [] => by simp [lin]
  | x :: l => by
    unfold lin
    rw [lin_mulR (fun i => g (i + 1)) c l, Nat.add_mul, Nat.mul_assoc]
theorem lin_append (g : Nat → Nat) : ∀ l m : List Nat, lin g (l ++ m) = lin g l + lin (fun i => g (i + l.length)) m
  | [], m => by simp [lin]
  | x :: l, m => by
    rw [List.cons_append, lin_cons, lin_cons, lin_append (fun i => g (i + 1)) l m, List.length_cons, Nat.add_assoc]
    refine congrArg (x * g 0 + ·) (congrArg (lin _ l + ·) (lin_congr fun i _ => ?_))
    show g (i + l.length + 1) = g (i + (l.length + 1))
    rw [Nat.add_assoc]
theorem lin_rep0 (g : Nat → Nat) : ∀ n : Nat, lin g (List.replicate n 0) = 0
  | 0 => rfl
  | n + 1 => by rw [List.replicate_succ]; unfold lin; rw [lin_rep0, Nat.zero_mul]
theorem lin_le : ∀ {l : List Nat} {g h : Nat → Nat}, (∀ i < l.length, g i ≤ h i) → lin g l ≤ lin h l
  | [], _, _, _ => Nat.le_refl _
  | x :: l, g, h, e => by
    unfold lin
    exact Nat.add_le_add (Nat.mul_le_mul_left _ (e 0 (by simp))) (lin_le (l := l) fun i hi => e (i + 1) (by simpa using hi))
theorem lin_const (c : Nat) : ∀ l : List Nat, lin (fun _ => c) l = l.sum * c
  | [] => by simp [lin]
  | x :: l => by unfold lin; rw [lin_const c l, List.sum_cons, Nat.add_mul]
theorem lin_one (l : List Nat) : lin (fun _ => 1) l = l.sum := by rw [lin_const, Nat.mul_one]
theorem lin_take {l : List Nat} {g : Nat → Nat} {i x : Nat} (h : l[i]? = some x) : lin g (l.take (i + 1)) = lin g (l.take i) + x * g i := by
  rw [List.take_add_one, h, lin_append]
  congr 1
  have hl := (List.getElem?_eq_some_iff.mp h).1
  show x * g (0 + (l.take i).length) + 0 = _
  rw [List.length_take, Nat.min_eq_left (by omega)]
  simp
theorem lin_sumTo (G : Nat → Nat → Nat) (f : List Nat) : ∀ n, lin (fun x => sumTo (fun j => G x j) n) f = sumTo (fun j => lin (fun x => G x j) f) n
  | 0 => lin_zero f
  | n + 1 => by
    unfold sumTo
    rw [lin_add, lin_sumTo G f n]
theorem lin_linC (G : Nat → Nat → Nat) : ∀ (l f : List Nat), lin (fun i => lin (fun j => G i j) f) l = lin (fun j => lin (fun i => G i j) l) f
  | [], f => by
    show 0 = _
    rw [show (fun j => lin (fun i => G i j) []) = fun _ => 0 from rfl, lin_zero]
  | x :: l, f => by
    show x * lin (fun j => G 0 j) f + lin (fun i => lin (fun j => G (i + 1) j) f) l = lin (fun j => x * G 0 j + lin (fun i => G (i + 1) j) l) f
    rw [lin_add, lin_linC (fun i j => G (i + 1) j) l f, Nat.mul_comm x, ← lin_mulR]
    congr 1
    exact lin_congr fun i _ => Nat.mul_comm _ _
/-- a single one's lot -/
theorem lin_at : ∀ (l : List Nat) (m : Nat), lin (fun i => if i = m then 1 else 0) l = l.getD m 0
  | [], m => by simp [lin]
  | x :: l, 0 => by
    unfold lin
    rw [lin_congr (h := fun _ => 0) fun i _ => by simp, lin_zero]
    simp
  | x :: l, m + 1 => by
    unfold lin
    rw [lin_congr (h := fun i => if i = m then 1 else 0) fun i _ => by simp, lin_at l m]
    simp
/-! ### down to nought: in how many ways, lots and all, that much work is first done behind k beats -/
def hit (f : List Nat) : Nat → Nat → Nat
  | 0, w => if w = 0 then 1 else 0
  | _ + 1, 0 => 0
  | k + 1, w + 1 => lin (fun x => hit f k (w + x)) f
theorem hit_S (f : List Nat) (k w : Nat) : hit f (k + 1) (w + 1) = lin (fun x => hit f k (w + x)) f := rfl
theorem hit_0 (f : List Nat) (w : Nat) : hit f 0 w = if w = 0 then 1 else 0 := rfl
theorem hit_n (f : List Nat) : ∀ k, hit f k 0 = if k = 0 then 1 else 0
  | 0 => rfl
  | k + 1 => rfl
theorem hit_le (f : List Nat) : ∀ k w, hit f k w ≤ f.sum ^ k
  | 0, w => by rw [hit_0, Nat.pow_zero]; split <;> omega
  | k + 1, 0 => Nat.zero_le _
  | k + 1, w + 1 => by
    rw [hit_S]
    refine Nat.le_trans (lin_le (h := fun _ => f.sum ^ k) fun i _ => hit_le f k (w + i)) ?_
    rw [lin_const, Nat.pow_succ, Nat.mul_comm]
    exact Nat.le_refl _
/-- one behind another -/
theorem hit_split (f : List Nat) : ∀ k v w, hit f k (v + w) = sumTo (fun j => hit f j v * hit f (k - j) w) (k + 1)
  | 0, v, w => by
    show _ = 0 + hit f 0 v * hit f (0 - 0) w
    rw [hit_0, hit_0, hit_0]
    by_cases a : v = 0
    · subst a; simp
    · rw [if_neg (show ¬ v + w = 0 by omega), if_neg a]; simp
  | k + 1, 0, w => by
    rw [sumTo_shift, Nat.zero_add, sumTo_congr (G := fun _ => 0) fun j _ => by rw [hit_n, if_neg (by omega), Nat.zero_mul]]
    rw [show sumTo (fun _ => 0) (k + 1) = 0 by
      have : ∀ n, sumTo (fun _ => 0) n = 0 := fun n => by
        induction n with
        | zero => rfl
        | succ n ih => unfold sumTo; rw [ih]
      exact this _]
    rw [hit_n, if_pos rfl]
    simp
  | k + 1, v + 1, w => by
    rw [sumTo_shift, hit_n f 0 |> fun _ => show hit f 0 (v + 1) = 0 from if_neg (by omega), Nat.zero_mul, Nat.zero_add]
    rw [show v + 1 + w = (v + w) + 1 by omega, hit_S, lin_congr (h := fun x => sumTo (fun j => hit f j (v + x) * hit f (k - j) w) (k + 1)) fun x _ => by
      rw [show v + w + x = (v + x) + w by omega]; exact hit_split f k (v + x) w]
    rw [lin_sumTo]
    refine sumTo_congr fun j hj => ?_
    rw [lin_mulR, ← hit_S, show k + 1 - (j + 1) = k - j by omega]
/-! ### one beat of the line; line and what comes of it by what they weigh -/
/-- c is the fold of l and f -/
def IsConv (l f c : List Nat) : Prop := c.length = l.length + f.length - 1 ∧ ∀ g : Nat → Nat, lin g c = lin (fun i => lin (fun j => g (i + j)) f) l
theorem IsConv.sum {l f c : List Nat} (h : IsConv l f c) : c.sum = l.sum * f.sum := by
  rw [← lin_one, h.2, lin_congr (h := fun _ => f.sum) fun i _ => lin_one f, lin_const]
theorem IsConv.beat {l f c : List Nat} (h : IsConv (0 :: l) f c) (g : Nat → Nat) : lin g (c.drop 1 ++ [0]) = lin (fun i => lin (fun j => g (i + j)) f) l := by
  have e := h.2 fun i => match i with | 0 => 0 | i + 1 => g i
  rw [lin_append]
  show lin g (c.drop 1) + (0 * _ + 0) = _
  rw [Nat.zero_mul]
  show lin g (c.drop 1) = _
  have e2 : lin (fun i => match i with | 0 => 0 | i + 1 => g i) c = lin g (c.drop 1) := by
    cases c with
    | nil => rfl
    | cons x c => show x * 0 + lin g c = _; simp
  rw [← e2, e]
  show 0 * _ + lin _ l = _
  rw [Nat.zero_mul, Nat.zero_add]
  refine lin_congr fun i _ => lin_congr fun j _ => ?_
  rw [show i + 1 + j = (i + j) + 1 by omega]
/-- who is where behind k beats: lin (hit f j) tells, all that is to come -/
theorem beat_hit {l f c ms : List Nat} {m0 : Nat} (h : IsConv (0 :: l) f c) (e : c.drop 1 ++ [0] = m0 :: ms) (k : Nat) : lin (hit f (k + 1)) (0 :: l) = if k = 0 then m0 else lin (hit f k) (0 :: ms) := by
  have h1 := h.beat (hit f k)
  rw [e] at h1
  have h2 : lin (hit f (k + 1)) (0 :: l) = lin (fun i => lin (fun j => hit f k (i + j)) f) l := by
    show 0 * _ + lin _ l = _
    rw [Nat.zero_mul, Nat.zero_add]
    rfl
  rw [h2, ← h1]
  by_cases c0 : k = 0
  · subst c0
    rw [if_pos rfl]
    show m0 * 1 + lin (fun i => hit f 0 (i + 1)) ms = m0
    have e0 : lin (fun i => hit f 0 (i + 1)) ms = 0 := Eq.trans (lin_congr (h := fun _ => 0) fun i _ => by rw [hit_0, if_neg (by omega)]) (lin_zero ms)
    rw [e0]
    omega
  · rw [if_neg c0]
    show m0 * hit f k 0 + _ = 0 * _ + _
    rw [hit_n, if_neg c0]
    omega
theorem beat_sum {l f c ms : List Nat} {m0 : Nat} (h : IsConv (0 :: l) f c) (e : c.drop 1 ++ [0] = m0 :: ms) : m0 + ms.sum = l.sum * f.sum := by
  have h1 := h.beat fun _ => 1
  rw [e, lin_one, lin_congr (h := fun _ => f.sum) fun i _ => lin_one f, lin_const, List.sum_cons] at h1
  exact h1
/-! ### what is shown -/
theorem Sh.intB {dp : Nat} {i : Int} (h : i.natAbs < 10 ^ 200) : Sh dp 670 (.int i) := by
  have hl : i.natAbs.log2 < 670 ∨ i.natAbs = 0 := by
    by_cases z : i.natAbs = 0
    · exact .inr z
    · exact .inl ((Nat.log2_lt z).mpr (Nat.lt_of_lt_of_le h (by decide +kernel)))
  refine ⟨?_, rfl, Nat.zero_le _, ?_, ?_⟩
  · show decide (i.natAbs.log2 < 1920) = true
    refine decide_eq_true ?_
    rcases hl with z | z
    · omega
    · rw [z]; decide
  · show decide ((PyData.shown (.int i)).length ≤ 220) = true
    refine decide_eq_true ?_
    show (Str.ofString (toString i)).length ≤ 220
    rw [PyProof.Rows.ofString_len]
    exact Nat.le_trans (int_text_length_le10 (k := 200) (by decide) h) (by decide)
  · show (if i == 0 then 0 else i.natAbs.log2 + 1) ≤ 670
    split
    · exact Nat.zero_le _
    · rename_i z
      rcases hl with y | y
      · omega
      · exact absurd (Int.natAbs_eq_zero.mp y) (by simpa using z)
theorem reprV_shB {d : PyData} {dp n : Nat} (s : Sh dp n d) (h1 : dp ≤ 100) (h2 : n ≤ 70000) : reprV d = .ok (.str d.shown) := if_pos ⟨s.s, s.nd, Nat.le_trans s.dep h1, s.room h2⟩
/-! ### a fraction's size -/
theorem fr_le1 {a b : Int} (h : 0 < b) : (fr a b).1.natAbs ≤ a.natAbs := by
  have e := fr_mul1 a b
  have g := gcdPos (a := a) h
  have : (fr a b).1.natAbs * Int.gcd a b = a.natAbs := by rw [← congrArg Int.natAbs e, Int.natAbs_mul, Int.natAbs_natCast]
  rw [← this]
  exact Nat.le_mul_of_pos_right _ g
theorem fr_le2 {a b : Int} (h : 0 < b) : (fr a b).2.natAbs ≤ b.natAbs := by
  have e := fr_mul2 a b
  have g := gcdPos (a := a) h
  have : (fr a b).2.natAbs * Int.gcd a b = b.natAbs := by rw [← congrArg Int.natAbs e, Int.natAbs_mul, Int.natAbs_natCast]
  rw [← this]
  exact Nat.le_mul_of_pos_right _ g
theorem immFr (x : Int × Int) : immD (frD x) = true := by unfold frD; simp
theorem shFr {dp : Nat} {x : Int × Int} (h1 : x.1.natAbs < 10 ^ 200) (h2 : x.2.natAbs < 10 ^ 200) : Sh (dp + 1) 1342 (frD x) := .tup (ShAll.cons (Sh.intB h1) (ShAll.cons (n := 670) (m := 0) (Sh.intB h2) ShAll.nil))
end Hw
/-! Numbers, truths, None and tuples and lists of them are told apart by their texts. -/
namespace Hw
open PySem PySem.Spec PyProof.Rows L2 Vl
namespace J
def sh (d : PyData) : List Nat := d.shown.cps.toList
mutual
def ntD : PyData → Bool
  | .none => true
  | .bool _ => true
  | .int _ => true
  | .tuple ds => ntAll ds
  | .list ds => ntAll ds
  | _ => false
def ntAll : List PyData → Bool
  | [] => true
  | d :: ds => ntD d && ntAll ds
end
theorem cpsApp (a b : Str) : (a ++ b).cps.toList = a.cps.toList ++ b.cps.toList := by
  show (a.cps ++ b.cps).toList = _
  rw [Array.toList_append]
def dg (m : Nat) : List Nat := (Nat.toDigits 10 m).map Char.toNat
def isDg (c : Nat) : Prop := 48 ≤ c ∧ c ≤ 57
theorem dg_mem {m c : Nat} (h : c ∈ dg m) : isDg c := by
  obtain ⟨x, hx, rfl⟩ := List.mem_map.mp h
  have := Nat.isDigit_of_mem_toDigits (by decide) (by decide) hx
  unfold Char.isDigit at this
  rw [Bool.and_eq_true] at this
  have h1 : (48 : UInt32) ≤ x.val := of_decide_eq_true this.1
  have h2 : x.val ≤ (57 : UInt32) := of_decide_eq_true this.2
  exact ⟨by simpa [UInt32.le_iff_toNat_le] using h1, by simpa [UInt32.le_iff_toNat_le] using h2⟩
theorem dg_ne (m : Nat) : dg m ≠ [] := by
  unfold dg
  intro h
  exact Nat.toDigits_ne_nil (List.map_eq_nil_iff.mp h)
theorem charInj : ∀ {l k : List Char}, l.map Char.toNat = k.map Char.toNat → l = k
  | [], [], _ => rfl
  | [], _ :: _, h => by simp at h
  | _ :: _, [], h => by simp at h
  | a :: l, b :: k, h => by
    simp only [List.map_cons, List.cons.injEq] at h
    rw [charInj h.2, show a = b from Char.toNat_inj.mp h.1]
theorem dg_inj {a b : Nat} (h : dg a = dg b) : a = b := by
  have e := charInj h
  have e1 := Nat.ofDigitChars_ten_toDigits (n := a)
  rw [e, Nat.ofDigitChars_ten_toDigits] at e1
  exact e1.symm
/-- no figure comes first -/
def Stop (s : List Nat) : Prop := ∀ c r, s = c :: r → ¬ isDg c
theorem stop_c {c : Nat} {r : List Nat} (h : ¬ isDg c) : Stop (c :: r) := fun c' r' e => by cases e; exact h
theorem munch : ∀ {l k s t : List Nat}, (∀ c ∈ l, isDg c) → (∀ c ∈ k, isDg c) → Stop s → Stop t → l ++ s = k ++ t → l = k ∧ s = t
  | [], [], s, t, _, _, _, _, h => ⟨rfl, h⟩
  | [], c :: k, s, t, _, hk, hs, _, h => absurd (hk c List.mem_cons_self) (hs c (k ++ t) h)
  | c :: l, [], s, t, hl, _, _, ht, h => absurd (hl c List.mem_cons_self) (ht c (l ++ s) h.symm)
  | a :: l, b :: k, s, t, hl, hk, hs, ht, h => by
    simp only [List.cons_append, List.cons.injEq] at h
    obtain ⟨h1, h2⟩ := h
    obtain ⟨h3, h4⟩ := munch (fun c hc => hl c (List.mem_cons_of_mem _ hc)) (fun c hc => hk c (List.mem_cons_of_mem _ hc)) hs ht h2
    exact ⟨by rw [h1, h3], h4⟩
theorem sh_int (i : Int) : sh (.int i) = if i < 0 then 45 :: dg i.natAbs else dg i.natAbs := by
  have e : sh (.int i) = (toString i).toList.map Char.toNat := by
    show (Str.ofString (toString i)).cps.toList = _
    rw [Str.ofString_eq_toList]
  rw [e]
  cases i with
  | ofNat m =>
    rw [if_neg (show ¬ Int.ofNat m < 0 from Int.not_lt.mpr (Int.natCast_nonneg m))]
    show (Nat.repr m).toList.map Char.toNat = dg m
    rw [Nat.toList_repr]
    rfl
  | negSucc m =>
    rw [if_pos (Int.negSucc_lt_zero m)]
    show ("-" ++ Nat.repr (m + 1)).toList.map Char.toNat = 45 :: dg (m + 1)
    rw [String.toList_append, Nat.toList_repr]
    rfl
theorem intRd {i j : Int} {s t : List Nat} (hs : Stop s) (ht : Stop t) (h : sh (.int i) ++ s = sh (.int j) ++ t) : i = j ∧ s = t := by
  rw [sh_int, sh_int] at h
  have no : ∀ {m : Nat} {r t : List Nat}, 45 :: r = dg m ++ t → False := fun {m r t} h => by
    cases hd : dg m with
    | nil => exact dg_ne m hd
    | cons c l =>
      rw [hd] at h
      have := dg_mem (m := m) (c := c) (by rw [hd]; exact List.mem_cons_self)
      simp only [List.cons_append, List.cons.injEq] at h
      obtain ⟨h1, -⟩ := h
      subst h1
      exact absurd this (by unfold isDg; omega)
  by_cases c1 : i < 0
  · rw [if_pos c1] at h
    by_cases c2 : j < 0
    · rw [if_pos c2] at h
      simp only [List.cons_append, List.cons.injEq, true_and] at h
      obtain ⟨h1, h2⟩ := munch (fun c hc => dg_mem hc) (fun c hc => dg_mem hc) hs ht h
      have := dg_inj h1
      exact ⟨by omega, h2⟩
    · rw [if_neg c2] at h
      exact (no h).elim
  · rw [if_neg c1] at h
    by_cases c2 : j < 0
    · rw [if_pos c2] at h
      exact (no h.symm).elim
    · rw [if_neg c2] at h
      obtain ⟨h1, h2⟩ := munch (fun c hc => dg_mem hc) (fun c hc => dg_mem hc) hs ht h
      have := dg_inj h1
      exact ⟨by omega, h2⟩
/-! what comes first -/
def k1 : PyData → Nat → Prop
  | .none, c => c = 78
  | .bool b, c => c = if b then 84 else 70
  | .int _, c => c = 45 ∨ isDg c
  | .tuple _, c => c = 40
  | .list _, c => c = 91
  | _, _ => False
/-- the texts of some, parted, and what closes -/
def jn : List PyData → List Nat → List Nat
  | [], e => e
  | [x], e => sh x ++ e
  | x :: y :: r, e => sh x ++ (44 :: 32 :: jn (y :: r) e)
theorem joinS : ∀ (xs : List PyData) (e : List Nat), (Str.join ", " (PyData.shownAll xs)).cps.toList ++ e = jn xs e
  | [], e => rfl
  | [x], e => by
    show (Str.join ", " [x.shown]).cps.toList ++ e = _
    rfl
  | x :: y :: r, e => by
    have ih := joinS (y :: r) e
    have e1 : Str.join ", " (PyData.shownAll (x :: y :: r)) = x.shown ++ (", " : Str) ++ Str.join ", " (PyData.shownAll (y :: r)) := by
      rw [PyData.shownAll, PyData.shownAll]
      rfl
    rw [e1, cpsApp, cpsApp, List.append_assoc, List.append_assoc, ih]
    have e2 : ((", " : Str)).cps.toList = [44, 32] := by decide +kernel
    rw [e2]
    rfl
theorem sh_tup (xs : List PyData) : sh (.tuple xs) = 40 :: jn xs (if xs.length = 1 then [44, 41] else [41]) := by
  unfold sh
  rw [PyData.shown]
  unfold tupleText
  have e1 : (("(" : Str)).cps.toList = [40] := by decide +kernel
  have e2 : ((",)" : Str)).cps.toList = [44, 41] := by decide +kernel
  have e3 : ((")" : Str)).cps.toList = [41] := by decide +kernel
  have l : ∀ xs : List PyData, (PyData.shownAll xs).length = xs.length := fun xs => by
    induction xs with
    | nil => rfl
    | cons x r ih => rw [PyData.shownAll, List.length_cons, ih]; rfl
  rw [cpsApp, cpsApp, e1, l, List.append_assoc, ← joinS]
  by_cases c : xs.length = 1
  · rw [if_pos c, if_pos (by rw [c]; rfl), e2]; rfl
  · rw [if_neg c, if_neg (by simpa using c), e3]; rfl
theorem textFrom_S : ∀ (ts : List Str) (k : Nat) (acc : Str), 0 < k → textFrom k acc ts = acc ++ (ts.foldr (fun t r => (", " : Str) ++ t ++ r) Str.empty)
  | [], k, acc, _ => by
    show acc = acc ++ Str.empty
    show acc = ⟨acc.cps ++ #[]⟩
    rw [Array.append_empty]
  | t :: ts, k, acc, h => by
    show textFrom (k + 1) (acc ++ (if k > 0 then ", " else "" : String) ++ t) ts = _
    rw [textFrom_S ts (k + 1) _ (by omega), if_pos h]
    show Str.mk _ = Str.mk _
    rw [Str.mk.injEq]
    show acc.cps ++ _ ++ t.cps ++ _ = acc.cps ++ (_ ++ t.cps ++ _)
    rw [Array.append_assoc, Array.append_assoc, Array.append_assoc]
theorem sh_list (xs : List PyData) : sh (.list xs) = 91 :: jn xs [93] := by
  unfold sh
  rw [PyData.shown]
  unfold listText
  have e1 : (("[" : Str)).cps.toList = [91] := by decide +kernel
  have e3 : (("]" : Str)).cps.toList = [93] := by decide +kernel
  have e2 : ((", " : Str)).cps.toList = [44, 32] := by decide +kernel
  have fl : ∀ (x : PyData) (ys : List PyData), x.shown.cps.toList ++ (((PyData.shownAll ys).foldr (fun t r => (", " : Str) ++ t ++ r) Str.empty).cps.toList ++ [93]) = jn (x :: ys) [93] := by
    intro x ys
    induction ys generalizing x with
    | nil => rfl
    | cons y r ih =>
      rw [PyData.shownAll, List.foldr_cons, cpsApp, cpsApp, e2]
      show _ = sh x ++ (44 :: 32 :: jn (y :: r) [93])
      rw [← ih y]
      simp [sh]
  rw [cpsApp, e3]
  cases xs with
  | nil =>
    rw [PyData.shownAll]
    show (("[" : Str)).cps.toList ++ [93] = _
    rw [e1]; rfl
  | cons x r =>
    rw [PyData.shownAll]
    show (textFrom 1 (("[" : Str) ++ (if 0 > 0 then ", " else "" : String) ++ x.shown) (PyData.shownAll r)).cps.toList ++ [93] = _
    rw [textFrom_S _ 1 _ (by decide), cpsApp, cpsApp, cpsApp, e1, if_neg (by decide)]
    have e0 : (("" : Str)).cps.toList = [] := by decide +kernel
    rw [e0, ← fl x r]
    simp
theorem k1h {d : PyData} (h : ntD d = true) : ∃ c r, sh d = c :: r ∧ k1 d c := by
  cases d with
  | none => exact ⟨78, _, (show sh .none = [78, 111, 110, 101] by decide +kernel), rfl⟩
  | bool b =>
    cases b with
    | true => exact ⟨84, _, (show sh (.bool true) = [84, 114, 117, 101] by decide +kernel), rfl⟩
    | false => exact ⟨70, _, (show sh (.bool false) = [70, 97, 108, 115, 101] by decide +kernel), rfl⟩
  | int i =>
    rw [sh_int]
    by_cases c : i < 0
    · rw [if_pos c]; exact ⟨_, _, rfl, .inl rfl⟩
    · rw [if_neg c]
      cases hd : dg i.natAbs with
      | nil => exact (dg_ne _ hd).elim
      | cons x l => exact ⟨_, _, rfl, .inr (dg_mem (m := i.natAbs) (by rw [hd]; exact List.mem_cons_self))⟩
  | tuple xs => exact ⟨_, _, sh_tup xs, rfl⟩
  | list xs => exact ⟨_, _, sh_list xs, rfl⟩
  | str _ => cases h
  | dict _ => cases h
/-- kinds by what comes first -/
def kd : PyData → Nat
  | .none => 0
  | .bool b => if b then 1 else 2
  | .int _ => 3
  | .tuple _ => 4
  | .list _ => 5
  | _ => 6
def kc (c : Nat) : Nat := if c = 78 then 0 else if c = 84 then 1 else if c = 70 then 2 else if c = 40 then 4 else if c = 91 then 5 else 3
theorem k1d {d : PyData} {c : Nat} (h : k1 d c) : kd d = kc c := by
  unfold kc
  cases d <;> simp only [k1, isDg] at h <;> simp only [kd]
  · subst h; rfl
  · rename_i b; cases b <;> simp at h <;> subst h <;> rfl
  · rw [if_neg (by omega), if_neg (by omega), if_neg (by omega), if_neg (by omega), if_neg (by omega)]
  · subst h; rfl
  · subst h; rfl
theorem k1no {d : PyData} {c : Nat} (h : k1 d c) : c ≠ 41 ∧ c ≠ 93 ∧ c ≠ 44 := by
  cases d <;> simp only [k1, isDg] at h <;> (try omega)
  rename_i b
  cases b <;> simp at h <;> omega
theorem sameK {d e : PyData} (h1 : ntD d = true) (h2 : ntD e = true) {s t : List Nat} (h : sh d ++ s = sh e ++ t) : kd d = kd e := by
  obtain ⟨c, r, q1, q2⟩ := k1h h1
  obtain ⟨c', r', q3, q4⟩ := k1h h2
  rw [q1, q3] at h
  injection h with h0
  rw [k1d q2, k1d q4, h0]
theorem noC {d : PyData} (h1 : ntD d = true) {s t : List Nat} {c : Nat} (hc : c = 41 ∨ c = 93) (h : c :: s = sh d ++ t) : False := by
  obtain ⟨c', r, q1, q2⟩ := k1h h1
  rw [q1] at h
  injection h with h0
  have := k1no q2
  omega
/-- told apart, whatever comes behind -/
def Rd (d : PyData) : Prop := ∀ e, ntD e = true → ∀ {s t : List Nat}, Stop s → Stop t → sh d ++ s = sh e ++ t → d = e ∧ s = t
theorem no44 : ¬ isDg 44 := by unfold isDg; omega
theorem rdAll : ∀ (x : PyData) (xs ys : List PyData) (c : Nat), (c = 41 ∨ c = 93) → (∀ y ∈ x :: xs, Rd y) → ntAll ys = true → ys ≠ [] → ∀ {s t : List Nat}, jn (x :: xs) [c] ++ s = jn ys [c] ++ t → x :: xs = ys ∧ s = t
  | x, xs, [], c, _, _, _, n, s, t, _ => (n rfl).elim
  | x, [], [y], c, hc, h1, h2, _, s, t, h => by
    have h2 := (Bool.and_eq_true_iff.mp (by rw [ntAll] at h2; exact h2)).1
    have h : sh x ++ [c] ++ s = sh y ++ [c] ++ t := h
    rw [List.append_assoc, List.append_assoc] at h
    obtain ⟨p1, p2⟩ := h1 x List.mem_cons_self y h2 (stop_c (by unfold isDg; omega)) (stop_c (by unfold isDg; omega)) h
    injection p2 with _ p2
    exact ⟨by rw [p1], p2⟩
  | x, [], y :: y2 :: r2, c, hc, h1, h2, _, s, t, h => by
    have h2 := (Bool.and_eq_true_iff.mp (by rw [ntAll] at h2; exact h2)).1
    have h : sh x ++ [c] ++ s = sh y ++ (44 :: 32 :: jn (y2 :: r2) [c]) ++ t := h
    rw [List.append_assoc, List.append_assoc] at h
    obtain ⟨p1, p2⟩ := h1 x List.mem_cons_self y h2 (stop_c (by unfold isDg; omega)) (stop_c no44) h
    injection p2 with p2
    omega
  | x, x2 :: r1, [y], c, hc, h1, h2, _, s, t, h => by
    have h2 := (Bool.and_eq_true_iff.mp (by rw [ntAll] at h2; exact h2)).1
    have h : sh x ++ (44 :: 32 :: jn (x2 :: r1) [c]) ++ s = sh y ++ [c] ++ t := h
    rw [List.append_assoc, List.append_assoc] at h
    obtain ⟨p1, p2⟩ := h1 x List.mem_cons_self y h2 (stop_c no44) (stop_c (by unfold isDg; omega)) h
    injection p2 with p2
    omega
  | x, x2 :: r1, y :: y2 :: r2, c, hc, h1, h2, _, s, t, h => by
    have h2 := Bool.and_eq_true_iff.mp (by rw [ntAll] at h2; exact h2)
    have h : sh x ++ (44 :: 32 :: jn (x2 :: r1) [c]) ++ s = sh y ++ (44 :: 32 :: jn (y2 :: r2) [c]) ++ t := h
    rw [List.append_assoc, List.append_assoc] at h
    obtain ⟨p1, p2⟩ := h1 x List.mem_cons_self y h2.1 (stop_c no44) (stop_c no44) h
    have p2' : jn (x2 :: r1) [c] ++ s = jn (y2 :: r2) [c] ++ t := by
      injection p2 with _ p2
      injection p2
    obtain ⟨p3, p4⟩ := rdAll x2 r1 (y2 :: r2) c hc (fun z hz => h1 z (List.mem_cons_of_mem _ hz)) h2.2 (by simp) p2'
    exact ⟨by rw [p1, p3], p4⟩
theorem rdTup {xs : List PyData} (ih : ∀ y ∈ xs, Rd y) (hn : ntAll xs = true) : Rd (.tuple xs) := by
  intro e h2 s t hs ht h
  have hk := sameK (d := .tuple xs) (by rw [ntD]; exact hn) h2 h
  cases e with
  | tuple ys =>
    rw [sh_tup, sh_tup] at h
    rw [ntD] at h2
    injection h with _ h
    match xs, ys, ih, hn, h2, h with
    | [], [], _, _, _, h =>
      injection h with _ h
      exact ⟨rfl, h⟩
    | [], y :: r2, _, _, h2, h =>
      have h2 : ntD y = true := (Bool.and_eq_true_iff.mp (by rw [ntAll] at h2; exact h2)).1
      have h' : ∃ u, 41 :: s = sh y ++ u := by
        cases r2 with
        | nil => exact ⟨[44, 41] ++ t, by rw [← List.append_assoc]; exact h⟩
        | cons y2 r2 => exact ⟨(44 :: 32 :: jn (y2 :: r2) _) ++ t, by rw [← List.append_assoc]; exact h⟩
      obtain ⟨u, hu⟩ := h'
      exact (noC h2 (.inl rfl) hu).elim
    | x :: r1, [], _, h1, _, h =>
      have h1 : ntD x = true := (Bool.and_eq_true_iff.mp (by rw [ntAll] at h1; exact h1)).1
      have h' : ∃ u, 41 :: t = sh x ++ u := by
        cases r1 with
        | nil => exact ⟨[44, 41] ++ s, by rw [← List.append_assoc]; exact h.symm⟩
        | cons y2 r2 => exact ⟨(44 :: 32 :: jn (y2 :: r2) _) ++ s, by rw [← List.append_assoc]; exact h.symm⟩
      obtain ⟨u, hu⟩ := h'
      exact (noC h1 (.inl rfl) hu).elim
    | [x], [y], ih, _, h2, h =>
      have h2 : ntD y = true := (Bool.and_eq_true_iff.mp (by rw [ntAll] at h2; exact h2)).1
      have h : sh x ++ [44, 41] ++ s = sh y ++ [44, 41] ++ t := h
      rw [List.append_assoc, List.append_assoc] at h
      obtain ⟨p1, p2⟩ := ih x List.mem_cons_self y h2 (stop_c no44) (stop_c no44) h
      injection p2 with _ p2
      injection p2 with _ p2
      exact ⟨by rw [p1], p2⟩
    | [x], y :: y2 :: r2, ih, _, h2, h =>
      have h2 : ntD y = true := (Bool.and_eq_true_iff.mp (by rw [ntAll] at h2; exact h2)).1
      have h : sh x ++ [44, 41] ++ s = sh y ++ (44 :: 32 :: jn (y2 :: r2) _) ++ t := h
      rw [List.append_assoc, List.append_assoc] at h
      obtain ⟨p1, p2⟩ := ih x List.mem_cons_self y h2 (stop_c no44) (stop_c no44) h
      injection p2 with _ p2
      injection p2 with p2
      omega
    | x :: x2 :: r1, [y], ih, _, h2, h =>
      have h2 : ntD y = true := (Bool.and_eq_true_iff.mp (by rw [ntAll] at h2; exact h2)).1
      have h : sh x ++ (44 :: 32 :: jn (x2 :: r1) _) ++ s = sh y ++ [44, 41] ++ t := h
      rw [List.append_assoc, List.append_assoc] at h
      obtain ⟨p1, p2⟩ := ih x List.mem_cons_self y h2 (stop_c no44) (stop_c no44) h
      injection p2 with _ p2
      injection p2 with p2
      omega
    | x :: x2 :: r1, y :: y2 :: r2, ih, _, h2, h =>
      rw [if_neg (by simp), if_neg (by simp)] at h
      obtain ⟨p1, p2⟩ := rdAll x (x2 :: r1) (y :: y2 :: r2) 41 (.inl rfl) ih h2 (by simp) h
      exact ⟨by rw [p1], p2⟩
  | bool b => cases b <;> simp [kd] at hk
  | _ => simp [kd] at hk
theorem rdLst {xs : List PyData} (ih : ∀ y ∈ xs, Rd y) (hn : ntAll xs = true) : Rd (.list xs) := by
  intro e h2 s t hs ht h
  have hk := sameK (d := .list xs) (by rw [ntD]; exact hn) h2 h
  cases e with
  | list ys =>
    rw [sh_list, sh_list] at h
    rw [ntD] at h2
    injection h with _ h
    match xs, ys, ih, hn, h2, h with
    | [], [], _, _, _, h =>
      injection h with _ h
      exact ⟨rfl, h⟩
    | [], y :: r2, _, _, h2, h =>
      have h2 : ntD y = true := (Bool.and_eq_true_iff.mp (by rw [ntAll] at h2; exact h2)).1
      have h' : ∃ u, 93 :: s = sh y ++ u := by
        cases r2 with
        | nil => exact ⟨[93] ++ t, by rw [← List.append_assoc]; exact h⟩
        | cons y2 r2 => exact ⟨(44 :: 32 :: jn (y2 :: r2) _) ++ t, by rw [← List.append_assoc]; exact h⟩
      obtain ⟨u, hu⟩ := h'
      exact (noC h2 (.inr rfl) hu).elim
    | x :: r1, [], _, h1, _, h =>
      have h1 : ntD x = true := (Bool.and_eq_true_iff.mp (by rw [ntAll] at h1; exact h1)).1
      have h' : ∃ u, 93 :: t = sh x ++ u := by
        cases r1 with
        | nil => exact ⟨[93] ++ s, by rw [← List.append_assoc]; exact h.symm⟩
        | cons y2 r2 => exact ⟨(44 :: 32 :: jn (y2 :: r2) _) ++ s, by rw [← List.append_assoc]; exact h.symm⟩
      obtain ⟨u, hu⟩ := h'
      exact (noC h1 (.inr rfl) hu).elim
    | x :: r1, y :: r2, ih, _, h2, h =>
      obtain ⟨p1, p2⟩ := rdAll x r1 (y :: r2) 93 (.inr rfl) ih h2 (by simp) h
      exact ⟨by rw [p1], p2⟩
  | bool b => cases b <;> simp [kd] at hk
  | _ => simp [kd] at hk
theorem ntMem : ∀ {xs : List PyData}, ntAll xs = true → ∀ y ∈ xs, ntD y = true
  | [], _, _, h => by cases h
  | x :: xs, h, y, hy => by
    have h := Bool.and_eq_true_iff.mp (by rw [ntAll] at h; exact h)
    rcases List.mem_cons.mp hy with e | e
    · rw [e]; exact h.1
    · exact ntMem h.2 y e
theorem rd : ∀ (n : Nat) (d : PyData), sizeOf d < n → ntD d = true → Rd d
  | 0, d, h, _ => absurd h (Nat.not_lt_zero _)
  | n + 1, d, hn, h1 => by
    cases d with
    | tuple xs =>
      rw [ntD] at h1
      refine rdTup (fun y hy => rd n y ?_ (ntMem h1 y hy)) h1
      have := List.sizeOf_lt_of_mem hy
      simp at hn
      omega
    | list xs =>
      rw [ntD] at h1
      refine rdLst (fun y hy => rd n y ?_ (ntMem h1 y hy)) h1
      have := List.sizeOf_lt_of_mem hy
      simp at hn
      omega
    | none =>
      intro e h2 s t hs ht h
      have hk := sameK h1 h2 h
      cases e with
      | none => exact ⟨rfl, List.append_cancel_left h⟩
      | bool b => cases b <;> simp [kd] at hk
      | _ => simp [kd] at hk
    | bool b =>
      intro e h2 s t hs ht h
      have hk := sameK h1 h2 h
      cases e with
      | bool c =>
        have : b = c := by cases b <;> cases c <;> simp [kd] at hk <;> rfl
        subst this
        exact ⟨rfl, List.append_cancel_left h⟩
      | _ => cases b <;> simp [kd] at hk
    | int i =>
      intro e h2 s t hs ht h
      have hk := sameK h1 h2 h
      cases e with
      | int j =>
        obtain ⟨p1, p2⟩ := intRd hs ht h
        exact ⟨by rw [p1], p2⟩
      | bool b => cases b <;> simp [kd] at hk
      | _ => simp [kd] at hk
    | str _ => cases h1
    | dict _ => cases h1
end J
open J in
theorem shown_inj {d e : PyData} (h1 : ntD d = true) (h2 : ntD e = true) (h : d.shown = e.shown) : d = e := by
  refine (rd _ d (Nat.lt_succ_self _) h1 e h2 (s := []) (t := []) (fun _ _ z => nomatch z) (fun _ _ z => nomatch z) ?_).1
  unfold sh
  rw [h]
end Hw
/-! Things of many kinds: numbers below a bound, short texts, tuples and lists of these, by their weight. -/
namespace Hw
open PySem PySem.Spec PyProof.Rows L2 Vl
inductive Th (B : Nat) : Nat → PyData → Prop
  | non {dp : Nat} : Th B dp .none
  | bl {dp : Nat} (b : Bool) : Th B dp (.bool b)
  | int {dp : Nat} {i : Int} (h : i.natAbs < B) : Th B dp (.int i)
  | str {dp : Nat} {x : Str} (h : ∀ c ∈ x.cps.toList, c < 128) : Th B dp (.str x)
  | tup {dp : Nat} {ds : List PyData} (h : ∀ d ∈ ds, Th B dp d) : Th B (dp + 1) (.tuple ds)
  | lst {dp : Nat} {ds : List PyData} (h : ∀ d ∈ ds, Th B dp d) : Th B (dp + 1) (.list ds)
theorem Th.mono {B B' dp dp' : Nat} {d : PyData} (h : Th B dp d) (hb : B ≤ B') (hd : dp ≤ dp') : Th B' dp' d := by
  induction h generalizing dp' with
  | non => exact .non
  | bl b => exact .bl b
  | int h => exact .int (Nat.lt_of_lt_of_le h hb)
  | str h => exact .str h
  | tup h ih =>
    obtain ⟨k, rfl⟩ : ∃ k, dp' = k + 1 := ⟨dp' - 1, by omega⟩
    exact .tup fun d m => ih d m (by omega)
  | lst h ih =>
    obtain ⟨k, rfl⟩ : ∃ k, dp' = k + 1 := ⟨dp' - 1, by omega⟩
    exact .lst fun d m => ih d m (by omega)
theorem shAllW {dp : Nat} : ∀ {ds : List PyData}, (∀ d ∈ ds, Sh dp d.weight d) → ShAll dp (PyData.weightAll ds) ds
  | [], _ => ⟨rfl, rfl, Nat.zero_le _, rfl, Nat.le_refl _⟩
  | d :: r, h => by
    have h1 := h d List.mem_cons_self
    have h2 := shAllW fun x hx => h x (List.mem_cons_of_mem _ hx)
    exact ⟨by rw [PyData.showableAll, h1.s, h2.s]; rfl, by rw [PyData.hasDictAll, h1.nd, h2.nd]; rfl, by rw [PyData.depthAll]; exact Nat.max_le.mpr ⟨h1.dep, h2.dep⟩,
      by rw [PyData.leavesShortAll, h1.lv, h2.lv]; rfl, Nat.le_refl _⟩
theorem Th.sh {B dp : Nat} {d : PyData} (h : Th B dp d) (hb : B ≤ 10 ^ 200) : Sh dp d.weight d := by
  induction h with
  | non => exact Sh.non.mono (Nat.le_refl _) (Nat.zero_le _)
  | bl b => exact (Sh.bl b (n := 0)).mono (Nat.le_refl _) (Nat.zero_le _)
  | int h =>
    have := Sh.intB (dp := 0) (Nat.lt_of_lt_of_le h hb)
    exact ⟨this.s, this.nd, Nat.le_trans this.dep (Nat.zero_le _), this.lv, Nat.le_refl _⟩
  | str h => exact Sh.str (List.all_eq_true.mpr fun c hc => decide_eq_true (Nat.lt_trans (h c hc) (by decide)))
  | tup h ih => exact (Sh.tup (shAllW ih)).mono (Nat.le_refl _) (Nat.le_of_eq (by rw [PyData.weight]))
  | lst h ih => exact (Sh.lst (shAllW ih)).mono (Nat.le_refl _) (Nat.le_of_eq (by rw [PyData.weight]))
theorem Th.repr {B dp : Nat} {d : PyData} (h : Th B dp d) (hb : B ≤ 10 ^ 200) (hd : dp ≤ 100) (hw : d.weight ≤ 70000) : reprV d = .ok (.str d.shown) := reprV_shB (h.sh hb) hd hw
/-! weights -/
theorem wtApp : ∀ a b : List PyData, PyData.weightAll (a ++ b) = PyData.weightAll a + PyData.weightAll b
  | [], b => by simp [PyData.weightAll]
  | d :: a, b => by
    rw [List.cons_append, PyData.weightAll, PyData.weightAll, wtApp a b]
    omega
theorem wtRev : ∀ a : List PyData, PyData.weightAll a.reverse = PyData.weightAll a
  | [] => rfl
  | d :: a => by
    rw [List.reverse_cons, wtApp, wtRev a, PyData.weightAll, PyData.weightAll, PyData.weightAll]
    omega
theorem wtTake (a : List PyData) (n : Nat) : PyData.weightAll (a.take n) ≤ PyData.weightAll a := by
  have := congrArg PyData.weightAll (List.take_append_drop n a)
  rw [wtApp] at this
  omega
theorem wtDrop (a : List PyData) (n : Nat) : PyData.weightAll (a.drop n) ≤ PyData.weightAll a := by
  have := congrArg PyData.weightAll (List.take_append_drop n a)
  rw [wtApp] at this
  omega
theorem wtLen : ∀ a : List PyData, a.length ≤ PyData.weightAll a
  | [] => Nat.le_refl _
  | d :: a => by
    have := wtLen a
    rw [PyData.weightAll, List.length_cons]
    omega
theorem wtAt {a : List PyData} {i : Nat} {e : PyData} (h : a[i]? = some e) : PyData.weightAll (a.take i) + (e.weight + 1) + PyData.weightAll (a.drop (i + 1)) = PyData.weightAll a := by
  obtain ⟨hi, he⟩ := List.getElem?_eq_some_iff.mp h
  have e1 : a = a.take i ++ e :: a.drop (i + 1) := by
    rw [← he, ← List.drop_eq_getElem_cons hi, List.take_append_drop]
  have := congrArg PyData.weightAll e1
  rw [wtApp, PyData.weightAll] at this
  omega
theorem wtT (ds : List PyData) : (PyData.tuple ds).weight = PyData.weightAll ds := by rw [PyData.weight]
theorem wtL (ds : List PyData) : (PyData.list ds).weight = PyData.weightAll ds := by rw [PyData.weight]
theorem wtI {i : Int} (h : i.natAbs < 10 ^ 200) : (PyData.int i).weight ≤ 670 := (Sh.intB (dp := 0) h).wt
theorem cutDC (ds : List PyData) (lo hi : Option Int) : ∃ i j, Vl.cutD ds lo hi = (ds.drop i).take j := ⟨_, _, rfl⟩
theorem cutDW (ds : List PyData) (lo hi : Option Int) : PyData.weightAll (Vl.cutD ds lo hi) ≤ PyData.weightAll ds := by
  obtain ⟨i, j, e⟩ := cutDC ds lo hi
  rw [e]
  exact Nat.le_trans (wtTake _ _) (wtDrop _ _)
theorem cutDM {ds : List PyData} {lo hi : Option Int} {d : PyData} (h : d ∈ Vl.cutD ds lo hi) : d ∈ ds := by
  obtain ⟨i, j, e⟩ := cutDC ds lo hi
  rw [e] at h
  exact List.mem_of_mem_drop (List.mem_of_mem_take h)
/-! texts -/
theorem asc_int (i : Int) : ∀ c ∈ (toString i : Str).cps.toList, c < 128 := by
  intro c hc
  have e := J.sh_int i
  have e2 : J.sh (.int i) = (toString i : Str).cps.toList := rfl
  rw [e2] at e
  rw [e] at hc
  split at hc
  · rcases List.mem_cons.mp hc with q | q
    · omega
    · have := J.dg_mem q; unfold J.isDg at this; omega
  · have := J.dg_mem hc; unfold J.isDg at this; omega
theorem asc_app {a b : Str} (ha : ∀ c ∈ a.cps.toList, c < 128) (hb : ∀ c ∈ b.cps.toList, c < 128) : ∀ c ∈ (a ++ b).cps.toList, c < 128 := by
  intro c hc
  rw [J.cpsApp] at hc
  rcases List.mem_append.mp hc with q | q
  · exact ha c q
  · exact hb c q
theorem asc_cut {a : Str} (ha : ∀ c ∈ a.cps.toList, c < 128) (lo hi : Option Int) : ∀ c ∈ (cutS a lo hi).cps.toList, c < 128 := by
  intro c hc
  exact ha c (List.mem_of_mem_drop (List.mem_of_mem_take hc))
theorem asc_rev {a : Str} (ha : ∀ c ∈ a.cps.toList, c < 128) : ∀ c ∈ (revS a).cps.toList, c < 128 := by
  intro c hc
  exact ha c (List.mem_reverse.mp hc)
theorem asc_up {a : Str} (ha : ∀ c ∈ a.cps.toList, c < 128) : (∀ c ∈ (Txt.upper a).cps.toList, c < 128) ∧ (Txt.upper a).cps.size = a.cps.size := by
  rw [upper_ascii ha]
  refine ⟨fun c hc => ?_, by simp⟩
  have hc : c ∈ (a.cps.map up1).toList := hc
  rw [Array.toList_map] at hc
  obtain ⟨x, hx, rfl⟩ := List.mem_map.mp hc
  have := ha x hx
  unfold up1
  split <;> omega
theorem wtS (x : Str) : (PyData.str x).weight = x.cps.size := by rw [PyData.weight]
theorem len_int {i : Int} (h : i.natAbs < 10 ^ 200) : (toString i : Str).cps.size ≤ 201 := by
  have e : (toString i : Str) = Str.ofString (toString i) := rfl
  have := int_text_length_le10 (a := i) (k := 200) (by decide) h
  rw [e]
  show (Str.ofString (toString i)).length ≤ 201
  rw [ofString_len]
  exact this
/-! closed things, by reckoning -/
mutual
def thB (B : Nat) : PyData → Nat → Bool
  | .none, _ => true
  | .bool _, _ => true
  | .int i, _ => decide (i.natAbs < B)
  | .str x, _ => x.cps.toList.all fun c => decide (c < 128)
  | .tuple ds, dp => match dp with
    | 0 => false
    | k + 1 => thBs B ds k
  | .list ds, dp => match dp with
    | 0 => false
    | k + 1 => thBs B ds k
  | .dict _, _ => false
def thBs (B : Nat) : List PyData → Nat → Bool
  | [], _ => true
  | d :: ds, k => thB B d k && thBs B ds k
end
mutual
theorem thB_ok {B : Nat} : ∀ {d : PyData} {dp : Nat}, thB B d dp = true → Th B dp d
  | .none, _, _ => .non
  | .bool b, _, _ => .bl b
  | .int i, _, h => .int (by rw [thB] at h; exact of_decide_eq_true h)
  | .str x, _, h => .str (by
      rw [thB] at h
      intro c hc
      exact of_decide_eq_true (List.all_eq_true.mp h c hc))
  | .tuple ds, 0, h => by rw [thB] at h; cases h
  | .tuple ds, k + 1, h => .tup (thBs_ok (by rw [thB] at h; exact h))
  | .list ds, 0, h => by rw [thB] at h; cases h
  | .list ds, k + 1, h => .lst (thBs_ok (by rw [thB] at h; exact h))
  | .dict _, _, h => by rw [thB] at h; cases h
theorem thBs_ok {B : Nat} : ∀ {ds : List PyData} {dp : Nat}, thBs B ds dp = true → ∀ d ∈ ds, Th B dp d
  | [], _, _ => fun _ h => nomatch h
  | d :: ds, k, h => by
    rw [thBs, Bool.and_eq_true] at h
    intro x hx
    rcases List.mem_cons.mp hx with e | e
    · rw [e]; exact thB_ok h.1
    · exact thBs_ok h.2 x e
end
/-! steps, with what is to be told kept open -/
section
variable {α β : Type} {m : R α} {k : α → R β} {Q : β → Prop}
theorem ex1 {a : α} (h : m = .ok a) (h2 : ∃ p, k a = .ok p ∧ Q p) : ∃ p, m.bind k = .ok p ∧ Q p := by rw [h]; exact h2
theorem ex2 (P : α → Prop) (h : ∃ a, m = .ok a ∧ P a) (h2 : ∀ a, P a → ∃ p, k a = .ok p ∧ Q p) : ∃ p, m.bind k = .ok p ∧ Q p := by
  obtain ⟨a, e, p⟩ := h
  rw [e]
  exact h2 a p
end
theorem isTup {d : PyData} (h : isiV "tuple" d = true) : ∃ ds, d = .tuple ds := by cases d <;> first | exact ⟨_, rfl⟩ | (exact absurd (show false = true from h) (by decide))
/-- all of a list, each of a weight -/
def ThW (B dp n : Nat) (ds : List PyData) : Prop := ∀ d ∈ ds, Th B dp d ∧ d.weight ≤ n
theorem ThW.app {B dp n : Nat} {a b : List PyData} (h : ThW B dp n a) (q : ThW B dp n b) : ThW B dp n (a ++ b) := by
  intro d hd
  rcases List.mem_append.mp hd with e | e
  · exact h d e
  · exact q d e
theorem ThW.cons {B dp n : Nat} {d : PyData} {b : List PyData} (h : Th B dp d) (hw : d.weight ≤ n) (q : ThW B dp n b) : ThW B dp n (d :: b) := by
  intro x hx
  rcases List.mem_cons.mp hx with e | e
  · rw [e]; exact ⟨h, hw⟩
  · exact q x e
theorem ThW.nil {B dp n : Nat} : ThW B dp n [] := fun _ h => nomatch h
theorem ThW.of {B dp n : Nat} {ds : List PyData} (h : thBs B ds dp = true) (hw : ds.all (fun d => decide (d.weight ≤ n)) = true) : ThW B dp n ds := fun d hd =>
  ⟨thBs_ok h d hd, of_decide_eq_true (List.all_eq_true.mp hw d hd)⟩
theorem ThW.mono {B dp n B' dp' n' : Nat} {ds : List PyData} (h : ThW B dp n ds) (h1 : B ≤ B') (h2 : dp ≤ dp') (h3 : n ≤ n') : ThW B' dp' n' ds := fun d hd => ⟨(h d hd).1.mono h1 h2, Nat.le_trans (h d hd).2 h3⟩
end Hw
namespace Hw
open PySem PySem.Spec PyProof.Rows L2 Vl
def f_p_numbered (a_0 : PyData) : R (List PyData) :=
  R.bind (itemsT a_0) fun ds1 =>
  R.bind (foldR ds1 ([], (.int 0)) fun x2 s3 => R.bind (itemsT x2) fun ds4 =>
  R.bind (mapR (enumD ds4) fun x5 => R.bind (unpk2 x5) fun p7 =>
  R.bind (addV s3.2 p7.1) fun z8 =>
  .ok (.tuple [p7.2, z8])) fun l9 =>
  R.bind (appL s3.1 (.list l9)) fun z10 =>
  R.bind (lenV x2) fun z11 =>
  R.bind (addV s3.2 z11) fun z12 =>
  .ok (z10, z12)) fun s3 =>
  .ok s3.1
def f_p_way_of (a_0 : PyData) : R (PyData) :=
  R.bind (itemsA a_0) fun ds1 =>
  R.bind (foldR ds1 [] fun x2 s3 => R.bind (itemsA x2) fun ds4 =>
  R.bind (mapR ds4 fun x5 => R.bind (unpk2 x5) fun p7 =>
  R.bind (asI p7.1) fun z8 =>
  R.bind (asI p7.2) fun z9 =>
  .ok z9) fun l10 =>
  R.bind (extL s3 l10) fun z11 =>
  .ok z11) fun s3 =>
  R.bind (itemsA a_0) fun ds12 =>
  R.bind (mapR ds12 fun x13 => R.bind (itemsA x13) fun ds15 =>
  R.bind (mapR ds15 fun x16 => R.bind (unpk2 x16) fun p18 =>
  R.bind (asI p18.1) fun z19 =>
  R.bind (asI p18.2) fun z20 =>
  .ok z19) fun l21 =>
  R.bind (tupV (.list l21)) fun z22 =>
  .ok z22) fun l23 =>
  R.bind (tupV (.list l23)) fun z24 =>
  R.bind (tupV (.list s3)) fun z25 =>
  .ok (.tuple [z24, z25])
def f_p_ask_number (a_0 : PyData) (a_1 : PyData) : R (PyData) :=
  R.bind (itemsT a_0) fun ds1 =>
  R.bind (mapR ds1 fun x2 => R.bind (lenV x2) fun z4 =>
  .ok z4) fun l5 =>
  R.bind (sumV (.list l5)) fun z6 =>
  R.bind (geV a_1 z6) fun b7 =>
  bif b7 then (.exc ⟨"NoComer", ((["number"] : List Str).zip [a_1])⟩) else (.ok .none)
def f_p_with_comer (a_0 : PyData) (a_1 : PyData) (a_2 : PyData) (a_3 : PyData) : R (PyData) :=
  R.bind (lenV a_0) fun z1 =>
  R.bind (geV a_1 z1) fun b2 =>
  bif b2 then (.exc ⟨"NoBeat", []⟩) else (R.bind (f_p_numbered a_0) fun z3 =>
  R.bind (ixL z3 a_1) fun z4 =>
  R.bind (intO (some a_2)) fun o5 =>
  R.bind (slL z4 none (some a_2)) fun z6 =>
  R.bind (negV (.int 1)) fun z7 =>
  R.bind (catL z6 [(.tuple [a_3, z7])]) fun z8 =>
  R.bind (ixL z3 a_1) fun z9 =>
  R.bind (intO (some a_2)) fun o10 =>
  R.bind (slL z9 (some a_2) none) fun z11 =>
  R.bind (catL z8 z11) fun z12 =>
  R.bind (setL z3 a_1 (.list z12)) fun z13 =>
  R.bind (f_p_way_of (.list z13)) fun z14 =>
  .ok z14)
def f_p_without (a_0 : PyData) (a_1 : PyData) : R (PyData) :=
  R.bind (f_p_ask_number a_0 a_1) fun z1 =>
  R.bind (f_p_numbered a_0) fun z2 =>
  R.bind (itemsA (.list z2)) fun ds3 =>
  R.bind (mapR ds3 fun x4 => R.bind (itemsA x4) fun ds6 =>
  R.bind (fmapR ds6 fun x7 => R.bind (asI x7) fun z9 =>
  R.bind (ixV z9 (.int 1)) fun z10 =>
  R.bind (neV z10 a_1) fun b11 =>
  bif b11 then (.ok (some z9)) else .ok none) fun l12 =>
  .ok (.list l12)) fun l13 =>
  R.bind (f_p_way_of (.list l13)) fun z14 =>
  .ok z14
def f_p_longer (a_0 : PyData) (a_1 : PyData) (a_2 : PyData) : R (PyData) :=
  R.bind (f_p_ask_number a_0 a_1) fun z1 =>
  R.bind (f_p_numbered a_0) fun z2 =>
  R.bind (itemsA (.list z2)) fun ds3 =>
  R.bind (foldR ds3 [] fun x4 s5 => R.bind (itemsA x4) fun ds6 =>
  R.bind (foldR ds6 [] fun x7 s8 => R.bind (unpk2 x7) fun p9 =>
  R.bind (asI p9.1) fun z10 =>
  R.bind (unpk2 z10) fun p11 =>
  R.bind (asI p9.2) fun z12 =>
  R.bind (eqV z12 a_1) fun b13 =>
  R.bind (bif b13 then (R.bind (addV p11.2 a_2) fun z14 =>
  .ok (.tuple [(.tuple [p11.1, z14]), z12])) else (.ok (.tuple [(.tuple [p11.1, p11.2]), z12]))) fun z15 =>
  R.bind (appL s8 z15) fun z16 =>
  .ok z16) fun s8 =>
  R.bind (appL s5 (.list s8)) fun z17 =>
  .ok z17) fun s5 =>
  R.bind (f_p_way_of (.list s5)) fun z18 =>
  .ok z18
def f_p_front_alone (a_0 : PyData) : R (PyData) :=
  R.bind (f_p_numbered a_0) fun z1 =>
  R.bind (itemsA (.list z1)) fun ds2 =>
  R.bind (mapR ds2 fun x3 => R.bind (itemsA x3) fun ds5 =>
  R.bind (fmapR ds5 fun x6 => R.bind (asI x6) fun z8 =>
  R.bind (ixV z8 (.int 0)) fun z9 =>
  R.bind (ixV z9 (.int 0)) fun z10 =>
  R.bind (eqV z10 (.int 0)) fun b11 =>
  bif b11 then (.ok (some z8)) else .ok none) fun l12 =>
  .ok (.list l12)) fun l13 =>
  R.bind (f_p_way_of (.list l13)) fun z14 =>
  .ok z14
def f_q_feed (a_0 : List PyData) : R (List PyData) :=
  R.bind (intO (some (.int 63))) fun o1 =>
  R.bind (slL a_0 none (some (.int 63))) fun z2 =>
  R.bind (lstV (.list z2)) fun z3 =>
  .ok [(.list z3), (.int 0), (.int 0)]
def f_q_next (a_0 : List PyData) (a_1 : PyData) : R (PyData × List PyData) :=
  R.bind (ixV (.list a_0) (.int 2)) fun z1 =>
  R.bind (gtV z1 (.int 0)) fun b2 =>
  bif b2 then (R.bind (ixV (.list a_0) (.int 2)) fun z3 =>
  R.bind (modV z3 a_1) fun z4 =>
  R.bind (ixV (.list a_0) (.int 2)) fun z5 =>
  R.bind (divV z5 a_1) fun z6 =>
  R.bind (setL a_0 (.int 2) z6) fun z7 =>
  .ok (z4, z7)) else (R.bind (ixV (.list a_0) (.int 1)) fun z8 =>
  R.bind (addV z8 (.int 1)) fun z9 =>
  R.bind (setL a_0 (.int 1) z9) fun z10 =>
  R.bind (ixL z10 (.int 0)) fun z11 =>
  R.bind (neV (.list z11) (.list [])) fun b12 =>
  R.bind (bif b12 then (R.bind (ixL z10 (.int 0)) fun z13 =>
  R.bind (ixL z10 (.int 0)) fun z14 =>
  R.bind (lenV (.list z14)) fun z15 =>
  R.bind (modV z8 z15) fun z16 =>
  R.bind (ixV (.list z13) z16) fun z17 =>
  .ok z17) else (.ok (.int 0))) fun z18 =>
  R.bind (powV (.int 10) (.int 18)) fun z19 =>
  R.bind (geV z18 z19) fun b20 =>
  R.bind (bif b20 then (R.bind (ixL z10 (.int 0)) fun z22 =>
  R.bind (lenV (.list z22)) fun z23 =>
  R.bind (ltV z8 z23) fun b24 =>
  .ok b24) else .ok false) fun b21 =>
  bif b21 then (R.bind (divV z18 a_1) fun z25 =>
  R.bind (setL z10 (.int 2) z25) fun z26 =>
  R.bind (modV z18 a_1) fun z27 =>
  .ok (z27, z26)) else (R.bind (modV z18 (.int 1000003)) fun z28 =>
  R.bind (mulV (.int 37) z8) fun z29 =>
  R.bind (mulV z29 z8) fun z30 =>
  R.bind (addV z28 z30) fun z31 =>
  R.bind (mulV (.int 13) z8) fun z32 =>
  R.bind (addV z31 z32) fun z33 =>
  R.bind (addV z33 (.int 5)) fun z34 =>
  R.bind (mulV z34 (.int 48271)) fun z35 =>
  R.bind (modV z35 (.int 999983)) fun z36 =>
  R.bind (mulV z36 z36) fun z37 =>
  R.bind (mulV (.int 7919) z8) fun z38 =>
  R.bind (addV z37 z38) fun z39 =>
  R.bind (addV z39 (.int 11)) fun z40 =>
  R.bind (modV z40 (.int 2097143)) fun z41 =>
  R.bind (mulV z41 (.int 69621)) fun z42 =>
  R.bind (modV z42 (.int 2147483629)) fun z43 =>
  R.bind (divV z43 (.int 7)) fun z44 =>
  R.bind (modV z44 a_1) fun z45 =>
  .ok (z45, z10)))
def f_q_way (a_0 : List PyData) (a_1 : PyData) (a_2 : PyData) : R (PyData × List PyData) :=
  R.bind (addV a_1 (.int 1)) fun z1 =>
  R.bind (f_q_next a_0 z1) fun z2 =>
  R.bind (range1 z2.1) fun ds3 =>
  R.bind (foldR ds3 ((.int 0), z2.2, []) fun x4 s5 => R.bind (f_q_next s5.2.1 (.int 6)) fun z6 =>
  R.bind (ixV (.list [(.int 0), (.int 0), (.int 1), (.int 1), (.int 2), (.int 3)]) z6.1) fun z7 =>
  R.bind (range1 z7) fun ds8 =>
  R.bind (foldR ds8 ([], s5.1, z6.2) fun x9 s10 => R.bind (ltV s10.2.1 (.int 40)) fun b11 =>
  R.bind (bif b11 then (R.bind (f_q_next s10.2.2 (.int 2)) fun z13 =>
  R.bind (f_q_next z13.2 a_2) fun z14 =>
  R.bind (addV (.int 1) z14.1) fun z15 =>
  R.bind (appL s10.1 (.tuple [z13.1, z15])) fun z16 =>
  R.bind (addV s10.2.1 (.int 1)) fun z17 =>
  .ok (z16, z14.2, z17)) else (.ok (s10.1, s10.2.2, s10.2.1))) fun s12 =>
  .ok (s12.1, s12.2.2, s12.2.1)) fun s10 =>
  R.bind (tupV (.list s10.1)) fun z18 =>
  R.bind (appL s5.2.2 z18) fun z19 =>
  .ok (s10.2.1, s10.2.2, z19)) fun s5 =>
  R.bind (tupV (.list s5.2.2)) fun z20 =>
  .ok (z20, s5.2.1)
def f_q_flat (a_0 : PyData) : R (List PyData) :=
  R.bind (lenV a_0) fun z1 =>
  R.bind (range1 z1) fun ds2 =>
  R.bind (foldR ds2 [] fun x3 s4 => R.bind (ixV a_0 x3) fun z5 =>
  R.bind (itemsT z5) fun ds6 =>
  R.bind (foldR ds6 s4 fun x7 s8 => R.bind (lenV (.list s8)) fun z9 =>
  R.bind (appL s8 (.tuple [x3, x7, z9])) fun z10 =>
  .ok z10) fun s8 =>
  .ok s8) fun s4 =>
  .ok s4
def f_q_built (a_0 : List PyData) (a_1 : PyData) : R (PyData) :=
  R.bind (range1 a_1) fun ds1 =>
  R.bind (mapR ds1 fun x2 => R.bind (itemsI a_0) fun ds4 =>
  R.bind (fmapR ds4 fun x5 => R.bind (unpk3 x5) fun p7 =>
  R.bind (eqV p7.1 x2) fun b8 =>
  bif b8 then (.ok (some p7.2.1)) else .ok none) fun l9 =>
  R.bind (tupV (.list l9)) fun z10 =>
  .ok z10) fun l11 =>
  R.bind (tupV (.list l11)) fun z12 =>
  R.bind (itemsI a_0) fun ds13 =>
  R.bind (mapR ds13 fun x14 => R.bind (unpk3 x14) fun p16 =>
  .ok p16.2.2) fun l17 =>
  R.bind (tupV (.list l17)) fun z18 =>
  .ok (.tuple [z12, z18])
def f_q_told (a_0 : PyData) (a_1 : PyData) (a_2 : PyData) : R (PyData) :=
  R.bind (tryR (R.bind (eqV a_0 (.str "with")) fun b3 =>
  R.bind (bif b3 then (R.bind (ixV a_2 (.int 0)) fun z5 =>
  R.bind (ixV a_2 (.int 1)) fun z6 =>
  R.bind (ixV a_2 (.int 2)) fun z7 =>
  R.bind (f_p_with_comer a_1 z5 z6 z7) fun z8 =>
  R.bind (asI (.tuple [(.str "told"), z8])) fun z9 =>
  .ok z9) else (R.bind (eqV a_0 (.str "without")) fun b10 =>
  R.bind (bif b10 then (R.bind (ixV a_2 (.int 0)) fun z12 =>
  R.bind (f_p_without a_1 z12) fun z13 =>
  R.bind (asI (.tuple [(.str "told"), z13])) fun z14 =>
  .ok z14) else (R.bind (ixV a_2 (.int 0)) fun z15 =>
  R.bind (ixV a_2 (.int 1)) fun z16 =>
  R.bind (f_p_longer a_1 z15 z16) fun z17 =>
  R.bind (asI (.tuple [(.str "told"), z17])) fun z18 =>
  .ok z18)) fun s11 =>
  .ok s11)) fun s4 =>
  .ok s4) fun e1 => bif isE e1.cls "WaitError" then (R.bind (bif (isEs e1.cls ["NoHouse", "NoPaper", "NoRest", "NoRow", "NoText", "TooMany"]) then .ok true else (.ok (!(isE e1.cls "ValueError")))) fun b19 =>
  R.bind (bif (isE e1.cls "NoBeat") then (R.bind (bif (!(isE e1.cls "NoComer")) then (.ok (!b19)) else .ok false) fun b21 =>
  .ok b21) else .ok false) fun b20 =>
  R.bind (bif b20 then (.ok (.tuple [(.str "beat"), (.int 0)])) else (.ok (.tuple [(.str "odd"), (.int 0)]))) fun s22 =>
  R.bind (bif (isE e1.cls "NoComer") then (R.bind (bif (!(isE e1.cls "NoBeat")) then (.ok (!b19)) else .ok false) fun b24 =>
  .ok b24) else .ok false) fun b23 =>
  R.bind (bif b23 then (R.bind (fldE "NoComer" "number" e1) fun z26 =>
  R.bind (asI (.tuple [(.str "comer"), z26])) fun z27 =>
  .ok z27) else (.ok s22)) fun s25 =>
  .ok s25) else .stuck) fun s2 =>
  .ok s2
def f_q_due (a_0 : PyData) (a_1 : PyData) (a_2 : PyData) : R (PyData) :=
  R.bind (f_q_flat a_1) fun z1 =>
  R.bind (eqV a_0 (.str "with")) fun b2 =>
  bif b2 then (R.bind (unpk3 a_2) fun p3 =>
  R.bind (lenV a_1) fun z4 =>
  R.bind (geV p3.1 z4) fun b5 =>
  bif b5 then (.ok (.tuple [(.str "beat"), (.int 0)])) else (R.bind (itemsI z1) fun ds6 =>
  R.bind (fmapR ds6 fun x7 => R.bind (ixV x7 (.int 0)) fun z9 =>
  R.bind (ltV z9 p3.1) fun b10 =>
  bif b10 then (.ok (some x7)) else .ok none) fun l11 =>
  R.bind (lenV (.list l11)) fun z12 =>
  R.bind (ixV a_1 p3.1) fun z13 =>
  R.bind (lenV z13) fun z14 =>
  R.bind (min2V p3.2.1 z14) fun z15 =>
  R.bind (addV z12 z15) fun z16 =>
  R.bind (intO (some z16)) fun o17 =>
  R.bind (slL z1 none (some z16)) fun z18 =>
  R.bind (negV (.int 1)) fun z19 =>
  R.bind (catL z18 [(.tuple [p3.1, p3.2.2, z19])]) fun z20 =>
  R.bind (intO (some z16)) fun o21 =>
  R.bind (slL z1 (some z16) none) fun z22 =>
  R.bind (catL z20 z22) fun z23 =>
  R.bind (lenV a_1) fun z24 =>
  R.bind (f_q_built z23 z24) fun z25 =>
  .ok (.tuple [(.str "told"), z25]))) else (R.bind (ixV a_2 (.int 0)) fun z26 =>
  R.bind (lenV (.list z1)) fun z27 =>
  R.bind (geV z26 z27) fun b28 =>
  bif b28 then (R.bind (ixV a_2 (.int 0)) fun z29 =>
  .ok (.tuple [(.str "comer"), z29])) else (R.bind (eqV a_0 (.str "without")) fun b30 =>
  bif b30 then (R.bind (itemsI z1) fun ds31 =>
  R.bind (fmapR ds31 fun x32 => R.bind (ixV x32 (.int 2)) fun z34 =>
  R.bind (ixV a_2 (.int 0)) fun z35 =>
  R.bind (neV z34 z35) fun b36 =>
  bif b36 then (.ok (some x32)) else .ok none) fun l37 =>
  R.bind (lenV a_1) fun z38 =>
  R.bind (f_q_built l37 z38) fun z39 =>
  .ok (.tuple [(.str "told"), z39])) else (R.bind (itemsI z1) fun ds40 =>
  R.bind (foldR ds40 [] fun x41 s42 => R.bind (unpk3 x41) fun p43 =>
  R.bind (ixV p43.2.1 (.int 0)) fun z44 =>
  R.bind (ixV p43.2.1 (.int 1)) fun z45 =>
  R.bind (ixV a_2 (.int 1)) fun z46 =>
  R.bind (ixV a_2 (.int 0)) fun z47 =>
  R.bind (eqV p43.2.2 z47) fun b48 =>
  R.bind (intV (.bool b48)) fun z49 =>
  R.bind (mulV z46 z49) fun z50 =>
  R.bind (addV z45 z50) fun z51 =>
  R.bind (appL s42 (.tuple [p43.1, (.tuple [z44, z51]), p43.2.2])) fun z52 =>
  .ok z52) fun s42 =>
  R.bind (lenV a_1) fun z53 =>
  R.bind (f_q_built s42 z53) fun z54 =>
  .ok (.tuple [(.str "told"), z54]))))
def f_q_deed (a_0 : List PyData) (a_1 : PyData) : R (PyData × List PyData) :=
  R.bind (f_q_next a_0 (.int 4)) fun z1 =>
  R.bind (ixV (.list [(.str "with"), (.str "with"), (.str "without"), (.str "longer")]) z1.1) fun z2 =>
  R.bind (f_q_next z1.2 (.int 12)) fun z3 =>
  R.bind (eqV z3.1 (.int 0)) fun b4 =>
  R.bind (eqV z2 (.str "with")) fun b5 =>
  bif b5 then (R.bind (bif b4 then (R.bind (powV (.int 10) (.int 30)) fun z6 =>
  .ok (z6, z3.2)) else (R.bind (lenV a_1) fun z7 =>
  R.bind (addV z7 (.int 2)) fun z8 =>
  R.bind (f_q_next z3.2 z8) fun z9 =>
  .ok (z9.1, z9.2))) fun z10 =>
  R.bind (f_q_next z10.2 (.int 4)) fun z12 =>
  R.bind (f_q_next z12.2 (.int 6)) fun z13 =>
  R.bind (powV (.int 10) (.int 30)) fun z14 =>
  R.bind (f_q_next z13.2 (.int 3)) fun z15 =>
  R.bind (ixV (.list [z12.1, z13.1, z14]) z15.1) fun z16 =>
  R.bind (f_q_next z15.2 (.int 2)) fun z17 =>
  R.bind (f_q_next z17.2 (.int 6)) fun z18 =>
  R.bind (addV (.int 1) z18.1) fun z19 =>
  .ok ((.tuple [z2, (.tuple [z10.1, z16, (.tuple [z17.1, z19])])]), z18.2)) else (R.bind (bif b4 then (R.bind (powV (.int 10) (.int 30)) fun z20 =>
  .ok (z20, z3.2)) else (R.bind (f_q_flat a_1) fun z21 =>
  R.bind (lenV (.list z21)) fun z22 =>
  R.bind (addV z22 (.int 2)) fun z23 =>
  R.bind (f_q_next z3.2 z23) fun z24 =>
  .ok (z24.1, z24.2))) fun z25 =>
  R.bind (f_q_next z25.2 (.int 7)) fun z27 =>
  .ok ((.tuple [z2, (.tuple [z25.1, z27.1])]), z27.2))
def f_q_front_right (a_0 : PyData) : R (PyData) :=
  R.bind (reprV a_0) fun z1 =>
  R.bind (f_q_flat a_0) fun z2 =>
  R.bind (itemsI z2) fun ds3 =>
  R.bind (fmapR ds3 fun x4 => R.bind (ixV x4 (.int 1)) fun z6 =>
  R.bind (ixV z6 (.int 0)) fun z7 =>
  R.bind (eqV z7 (.int 0)) fun b8 =>
  bif b8 then (.ok (some x4)) else .ok none) fun l9 =>
  R.bind (lenV a_0) fun z10 =>
  R.bind (f_q_built l9 z10) fun z11 =>
  R.bind (reprV z11) fun z12 =>
  R.bind (range1 (.int 2)) fun ds13 =>
  R.bind (mapR ds13 fun x14 => R.bind (f_p_front_alone a_0) fun z16 =>
  R.bind (reprV z16) fun z17 =>
  .ok z17) fun l18 =>
  R.bind (eqV (.list l18) (.list [z12, z12])) fun b19 =>
  R.bind (bif b19 then (R.bind (reprV a_0) fun z21 =>
  R.bind (eqV z21 z1) fun b22 =>
  .ok b22) else .ok false) fun b20 =>
  .ok (.bool b20)
def f_law (a_0 : List PyData) : R (PyData) :=
  R.bind (f_q_feed a_0) fun z1 =>
  R.bind (range1 (.int 4)) fun ds2 =>
  R.bind (loopR (ρ := (PyData)) ds2 z1 fun x3 s4 => R.bind (f_q_next s4 (.int 3)) fun z5 =>
  R.bind (ixV (.list [(.int 3), (.int 8), (.int 14)]) z5.1) fun z6 =>
  R.bind (f_q_way z5.2 z6 (.int 6)) fun z7 =>
  R.bind (range1 (.int 2)) fun ds8 =>
  R.bind (loopR (ρ := (PyData)) ds8 (z7.2, z7.1) fun x9 s10 => R.bind (f_q_deed s10.1 s10.2) fun z11 =>
  R.bind (unpk2 z11.1) fun p12 =>
  R.bind (reprV (.tuple [s10.2, p12.2])) fun z13 =>
  R.bind (f_q_due p12.1 s10.2 p12.2) fun z14 =>
  R.bind (range1 (.int 2)) fun ds15 =>
  R.bind (loopR (ρ := (PyData)) ds15 () fun x16 s17 => R.bind (f_q_told p12.1 s10.2 p12.2) fun z18 =>
  R.bind (reprV z18) fun z19 =>
  R.bind (reprV z14) fun z20 =>
  R.bind (neV z19 z20) fun b21 =>
  R.bind (bif b21 then .ok true else (R.bind (reprV (.tuple [s10.2, p12.2])) fun z23 =>
  R.bind (neV z23 z13) fun b24 =>
  .ok b24)) fun b22 =>
  bif b22 then (.ok (.ret (.bool false))) else (.ok (.go ()))) fun c32 => match c32 with
  | .inl s17 => (R.bind (f_q_front_right s10.2) fun z25 =>
  R.bind (asB z25) fun b26 =>
  bif (!b26) then (.ok (.ret (.bool false))) else (R.bind (ixV z14 (.int 0)) fun z27 =>
  R.bind (eqV z27 (.str "told")) fun b28 =>
  R.bind (bif b28 then (R.bind (ixV z14 (.int 1)) fun z30 =>
  R.bind (ixV z30 (.int 0)) fun z31 =>
  .ok z31) else (.ok s10.2)) fun s29 =>
  .ok (.go (z11.2, s29))))
  | .inr r33 => .ok (.ret r33)) fun c36 => match c36 with
  | .inl s10 => (R.bind (f_q_front_right s10.2) fun z34 =>
  R.bind (asB z34) fun b35 =>
  bif (!b35) then (.ok (.ret (.bool false))) else (.ok (.go s10.1)))
  | .inr r37 => .ok (.ret r37)) fun c38 => match c38 with
  | .inl s4 => (.ok (.bool true))
  | .inr r39 => .ok r39
end Hw
namespace Hw
open PySem PySem.Spec PyProof.Rows L2 Vl
/-! ### the tape -/
theorem r_feed {ns : List Int} (h : ns.length ≤ 63) : ∃ fd, f_q_feed (ns.map PyData.int) = .ok fd ∧ FeedL fd 1000000 := by
  unfold f_q_feed
  simp only [intO_i, bO]
  unfold slL
  simp only [intO_n, intO_i, bO]
  unfold cutL2
  rw [if_pos (immAll_ints ns), show ((63 : Int)) = ((63 : Nat) : Int) from rfl, cutD_take]
  simp only [bO]
  rw [← List.map_take, lstV_l (immAll_ints _)]
  exact ⟨_, rfl, ns.take 63, 0, 0, rfl, by omega, by omega, by omega⟩
theorem r_next {fd : List PyData} {b : Nat} {m : Int} (hf : FeedL fd (b + 1)) (h0 : 0 < m) (h1 : m ≤ 1000000000) : ∃ (v : Nat) (fd' : List PyData), f_q_next fd (.int m) = .ok (.int (v : Int), fd') ∧ (v : Int) < m ∧ FeedL fd' b := by
  obtain ⟨cs, p, l, rfl, hp, hl, hb⟩ := hf
  have toN : ∀ {x : Int} {fd' : List PyData} {r : R (PyData × List PyData)}, r = .ok (.int x, fd') → 0 ≤ x → x < m → FeedL fd' b → ∃ (v : Nat) (fd' : List PyData), r = .ok (.int (v : Int), fd') ∧ (v : Int) < m ∧ FeedL fd' b :=
    fun {x fd' r} e n l f => ⟨x.toNat, fd', by rw [Int.toNat_of_nonneg n]; exact e, by rw [Int.toNat_of_nonneg n]; exact l, f⟩
  unfold f_q_next
  rw [show ixV (.list [.list (cs.map PyData.int), .int p, .int l]) (.int 2) = .ok (.int l) from rfl, show ixV (.list [.list (cs.map PyData.int), .int p, .int l]) (.int 1) = .ok (.int p) from rfl]
  simp only [bO, gtV_int]
  by_cases c : 0 < l
  · rw [decide_eq_true c, cond_true, modV_ok h0, divV_sm h0 (by omega)]
    simp only [bO]
    rw [show setL [.list (cs.map PyData.int), .int p, .int l] (.int 2) (.int (l / m)) = .ok [.list (cs.map PyData.int), .int p, .int (l / m)] from rfl]
    simp only [bO]
    exact toN rfl (Int.emod_nonneg _ (by omega)) (Int.emod_lt_of_pos _ h0) ⟨cs, p, l / m, rfl, hp, Int.ediv_nonneg hl (by omega), by omega⟩
  rw [decide_eq_false c, cond_false]
  simp only [addV_int, bO]
  rw [show setL [.list (cs.map PyData.int), .int p, .int l] (.int 1) (.int (p + 1)) = .ok [.list (cs.map PyData.int), .int (p + 1), .int l] from rfl]
  simp only [bO]
  rw [show ixL [.list (cs.map PyData.int), .int (p + 1), .int l] (.int 0) = .ok (cs.map PyData.int) from rfl]
  simp only [bO]
  rw [neV_nilL (sh_intsL cs)]
  simp only [bO, lenV_l, List.length_map]
  have hcell : ∃ x : Int, (bif !decide (cs.map PyData.int = []) then (R.bind (modV (.int p) (.int (cs.length : Int))) fun z16 => R.bind (ixV (.list (cs.map PyData.int)) z16) fun z17 => .ok z17) else (.ok (.int 0) : R PyData)) = .ok (.int x) := by
    cases cs with
    | nil => exact ⟨0, rfl⟩
    | cons y ys =>
      have hpos : (0 : Int) < (((y :: ys).length : Nat) : Int) := by rw [List.length_cons]; omega
      rw [modV_ok hpos]
      obtain ⟨w, ew⟩ := atI_intAny (ns := y :: ys) (Int.emod_nonneg p (by omega)) (Int.emod_lt_of_pos p hpos)
      refine ⟨w, ?_⟩
      show R.bind (ixV _ _) _ = _
      unfold ixV
      simp only [ew]
      rfl
  obtain ⟨x, ex⟩ := hcell
  rw [ex]
  simp only [bO]
  rw [powV_18]
  simp only [bO, geV_int, ltV_int]
  have hbb : (bif decide ((1000000000000000000 : Int) ≤ x) then (.ok (decide (p < (cs.length : Int))) : R Bool) else .ok false) = .ok (decide ((1000000000000000000 : Int) ≤ x) && decide (p < (cs.length : Int))) := by
    cases decide ((1000000000000000000 : Int) ≤ x) <;> rfl
  rw [hbb]
  simp only [bO]
  by_cases c2 : (decide ((1000000000000000000 : Int) ≤ x) && decide (p < (cs.length : Int))) = true
  · rw [c2, cond_true, divV_sm h0 (by omega)]
    have hx : (1000000000000000000 : Int) ≤ x := of_decide_eq_true (Bool.and_eq_true_iff.mp c2).1
    simp only [bO]
    rw [show setL [.list (cs.map PyData.int), .int (p + 1), .int l] (.int 2) (.int (x / m)) = .ok [.list (cs.map PyData.int), .int (p + 1), .int (x / m)] from rfl]
    simp only [bO]
    rw [modV_ok h0]
    simp only [bO]
    exact toN rfl (Int.emod_nonneg _ (by omega)) (Int.emod_lt_of_pos _ h0) ⟨cs, p + 1, x / m, rfl, by omega, Int.ediv_nonneg (by omega) (by omega), by omega⟩
  rw [Bool.not_eq_true] at c2
  rw [c2, cond_false, modV_ok (by decide)]
  simp only [bO]
  have b1 := Int.emod_nonneg x (show (1000003 : Int) ≠ 0 by decide)
  have b2 := Int.emod_lt_of_pos x (show (0 : Int) < 1000003 by decide)
  have pp : p * p ≤ 1000000 * 1000000 := Int.mul_le_mul (by omega) (by omega) hp (by decide)
  have pp0 : 0 ≤ p * p := Int.mul_nonneg hp hp
  rw [mulV_sm (by decide) (by omega)]
  simp only [bO]
  rw [mulV_sm (by omega) (by omega), Int.mul_assoc]
  simp only [bO, addV_int]
  rw [mulV_sm (by decide) (by omega)]
  simp only [bO, addV_int]
  generalize x % 1000003 = y at b1 b2
  generalize p * p = q at pp pp0
  rw [mulV_sm (by omega) (by decide)]
  simp only [bO]
  rw [modV_ok (by decide)]
  simp only [bO]
  have b3 := Int.emod_nonneg ((y + 37 * q + 13 * p + 5) * 48271) (show (999983 : Int) ≠ 0 by decide)
  have b4 := Int.emod_lt_of_pos ((y + 37 * q + 13 * p + 5) * 48271) (show (0 : Int) < 999983 by decide)
  generalize (y + 37 * q + 13 * p + 5) * 48271 % 999983 = u at b3 b4
  have uu : u * u ≤ 1000000 * 1000000 := Int.mul_le_mul (by omega) (by omega) b3 (by decide)
  have uu0 : 0 ≤ u * u := Int.mul_nonneg b3 b3
  rw [mulV_sm (by omega) (by omega)]
  simp only [bO]
  rw [mulV_sm (by decide) (by omega)]
  simp only [bO, addV_int]
  rw [modV_ok (by decide)]
  simp only [bO]
  have b5 := Int.emod_nonneg (u * u + 7919 * p + 11) (show (2097143 : Int) ≠ 0 by decide)
  have b6 := Int.emod_lt_of_pos (u * u + 7919 * p + 11) (show (0 : Int) < 2097143 by decide)
  rw [mulV_sm (by omega) (by decide)]
  simp only [bO]
  rw [modV_ok (by decide)]
  simp only [bO]
  rw [divV_sm (by decide) (by decide)]
  simp only [bO]
  rw [modV_ok h0]
  simp only [bO]
  exact toN rfl (Int.emod_nonneg _ (by omega)) (Int.emod_lt_of_pos _ h0) ⟨cs, p + 1, l, rfl, by omega, hl, by omega⟩

/-! ### a way is drawn -/
theorem r_way {fd : List PyData} {b beats works : Nat} (hf : FeedL fd (b + 200)) (hb : beats ≤ 24) (h1 : 1 ≤ works) (h6 : works ≤ 6) : ∃ way fd', f_q_way fd (.int (beats : Int)) (.int (works : Int)) = .ok (wayD way, fd') ∧
    WayOk works way ∧ way.length ≤ beats ∧ manyIn way ≤ 40 ∧ (∀ b ∈ way, b.length ≤ 3) ∧ FeedL fd' b := by
  unfold f_q_way
  simp only [addV_int, bO]
  obtain ⟨n, fd1, e1, l1, f1⟩ := r_next (b := b + 199) (m := (beats : Int) + 1) hf (by omega) (by omega)
  rw [e1]
  simp only [bO]
  rw [range1_n n (by omega)]
  simp only [bO]
  obtain ⟨s, es, P⟩ := foldR_inv (f := fun x4 (s5 : PyData × List PyData × List PyData) => R.bind (f_q_next s5.2.1 (.int 6)) fun z6 =>
    R.bind (ixV (.list [(.int 0), (.int 0), (.int 1), (.int 1), (.int 2), (.int 3)]) z6.1) fun z7 =>
    R.bind (range1 z7) fun ds8 =>
    R.bind (foldR ds8 ([], s5.1, z6.2) fun x9 s10 => R.bind (ltV s10.2.1 (.int 40)) fun b11 =>
    R.bind (bif b11 then (R.bind (f_q_next s10.2.2 (.int 2)) fun z13 =>
    R.bind (f_q_next z13.2 (.int (works : Int))) fun z14 =>
    R.bind (addV (.int 1) z14.1) fun z15 =>
    R.bind (appL s10.1 (.tuple [z13.1, z15])) fun z16 =>
    R.bind (addV s10.2.1 (.int 1)) fun z17 =>
    .ok (z16, z14.2, z17)) else (.ok (s10.1, s10.2.2, s10.2.1))) fun s12 =>
    .ok (s12.1, s12.2.2, s12.2.1)) fun s10 =>
    R.bind (tupV (.list s10.1)) fun z18 =>
    R.bind (appL s5.2.2 z18) fun z19 =>
    .ok (s10.2.1, s10.2.2, z19)) ((List.range n).map fun i : Nat => PyData.int (i : Int))
    (fun i s => ∃ way : List (List Comer), s.1 = .int (manyIn way : Nat) ∧ s.2.2 = way.map beatD ∧ WayOk works way ∧ way.length = i ∧ manyIn way ≤ 40 ∧ (∀ b ∈ way, b.length ≤ 3) ∧ FeedL s.2.1 (b + 199 - 7 * i)) (.int 0, fd1, [])
    ⟨[], rfl, rfl, ⟨(fun _ h => nomatch h), (fun _ h => nomatch h), (fun _ h => nomatch h)⟩, rfl, by decide, (fun _ h => nomatch h), f1⟩ (by
    rintro i x ⟨q, fd2, ws⟩ hx ⟨way, rfl, rfl, k1, k2, k3, k4, k5⟩
    have hi : i < n := by have := (List.getElem?_eq_some_iff.mp hx).1; rwa [List.length_map, List.length_range] at this
    dsimp only at k5 ⊢
    obtain ⟨v, fd3, e3, l3, f3⟩ := r_next (b := b + 198 - 7 * i) (m := 6) (k5.less (by omega)) (by decide) (by decide)
    rw [e3]
    simp only [bO]
    have hv : v < ([0, 0, 1, 1, 2, 3] : List Int).length := by show v < 6; omega
    rw [show (PyData.list [(.int 0), (.int 0), (.int 1), (.int 1), (.int 2), (.int 3)]) = .list (([0, 0, 1, 1, 2, 3] : List Int).map PyData.int) from rfl, ixV_ints hv]
    obtain ⟨u, eu, hu⟩ : ∃ u : Nat, ([0, 0, 1, 1, 2, 3] : List Int)[v] = (u : Int) ∧ u ≤ 3 := by
      have hv6 : v < 6 := hv
      match v, hv6 with
      | 0, _ => exact ⟨0, rfl, by decide⟩
      | 1, _ => exact ⟨0, rfl, by decide⟩
      | 2, _ => exact ⟨1, rfl, by decide⟩
      | 3, _ => exact ⟨1, rfl, by decide⟩
      | 4, _ => exact ⟨2, rfl, by decide⟩
      | 5, _ => exact ⟨3, rfl, by decide⟩
    rw [eu]
    simp only [bO]
    rw [range1_n u (by omega)]
    simp only [bO]
    obtain ⟨s2, es2, P2⟩ := foldR_inv (f := fun x9 (s10 : List PyData × PyData × List PyData) => R.bind (ltV s10.2.1 (.int 40)) fun b11 =>
      R.bind (bif b11 then (R.bind (f_q_next s10.2.2 (.int 2)) fun z13 =>
      R.bind (f_q_next z13.2 (.int (works : Int))) fun z14 =>
      R.bind (addV (.int 1) z14.1) fun z15 =>
      R.bind (appL s10.1 (.tuple [z13.1, z15])) fun z16 =>
      R.bind (addV s10.2.1 (.int 1)) fun z17 =>
      .ok (z16, z14.2, z17)) else (.ok (s10.1, s10.2.2, s10.2.1))) fun s12 =>
      .ok (s12.1, s12.2.2, s12.2.1)) ((List.range u).map fun i : Nat => PyData.int (i : Int))
      (fun j s => ∃ cs : List Comer, s.1 = cs.map Comer.d ∧ s.2.1 = .int ((manyIn way + cs.length : Nat) : Int) ∧ manyIn way + cs.length ≤ 40 ∧ cs.length ≤ j ∧ (∀ c ∈ cs, c.rank < 2 ∧ 1 ≤ c.work ∧ c.work ≤ works) ∧ FeedL s.2.2 (b + 198 - 7 * i - 2 * j))
      ([], .int (manyIn way : Nat), fd3) ⟨[], rfl, rfl, k3, Nat.le_refl _, (fun _ h => nomatch h), f3⟩ (by
      rintro j y ⟨bs, q2, fd4⟩ hy ⟨cs, rfl, rfl, c3, c4, c5, c6⟩
      have hj : j < u := by have := (List.getElem?_eq_some_iff.mp hy).1; rwa [List.length_map, List.length_range] at this
      dsimp only at c6 ⊢
      simp only [ltV_int, bO]
      by_cases d : manyIn way + cs.length < 40
      · rw [decide_eq_true (by omega), cond_true]
        obtain ⟨r, fd5, e5, l5, f5⟩ := r_next (b := b + 198 - 7 * i - 2 * j - 1) (m := 2) (c6.less (by omega)) (by decide) (by decide)
        rw [e5]
        simp only [bO]
        obtain ⟨t, fd6, e6, l6, f6⟩ := r_next (b := b + 198 - 7 * i - 2 * (j + 1)) (m := (works : Int)) (f5.less (by omega)) (by omega) (by omega)
        rw [e6]
        simp only [bO, addV_int]
        rw [appL_ok (by rw [List.length_map]; omega)]
        simp only [bO]
        refine ⟨_, rfl, cs ++ [⟨r, 1 + t⟩], ?_, ?_, by simp; omega, by simp; omega, ?_, f6⟩
        · simp [Comer.d]
        · simp; omega
        · intro c hc
          rcases List.mem_append.mp hc with z | z
          · exact c5 c z
          · rw [List.mem_singleton] at z
            subst z
            exact ⟨by show r < 2; omega, by show 1 ≤ 1 + t; omega, by show 1 + t ≤ works; omega⟩
      · rw [decide_eq_false (by omega), cond_false]
        exact ⟨_, rfl, cs, rfl, rfl, c3, by omega, c5, c6.less (by omega)⟩)
    rw [es2]
    obtain ⟨bs, q2, fd4⟩ := s2
    obtain ⟨cs, rfl, rfl, c3, c4, c5, c6⟩ := P2
    dsimp only at c6 ⊢
    rw [List.length_map, List.length_range] at c4 c6
    simp only [bO]
    rw [tupV_l (immAll_map fun c _ => immD_comer c)]
    simp only [bO]
    rw [appL_ok (by rw [List.length_map]; omega)]
    simp only [bO]
    refine ⟨_, rfl, way ++ [cs], ?_, ?_, k1.snoc c5, by simp [k2], ?_, ?_, c6.less (by omega)⟩
    · rw [manySnoc]
    · simp [beatD]
    · rw [manySnoc]; omega
    · intro x hx
      rcases List.mem_append.mp hx with z | z
      · exact k4 x z
      · rw [List.mem_singleton] at z
        subst z
        omega)
  rw [es]
  obtain ⟨q, fd2, ws⟩ := s
  obtain ⟨way, rfl, rfl, k1, k2, k3, k4, k5⟩ := P
  dsimp only at k5 ⊢
  rw [List.length_map, List.length_range] at k2 k5
  simp only [bO]
  rw [tupV_l (immAll_map fun c _ => immD_beat c)]
  exact ⟨way, fd2, rfl, k1, by omega, k3, k4, k5.less (by omega)⟩

/-! ### rows of comers with their numbers -/
abbrev CN := Comer × Int
abbrev Rows := List (List CN)
def cN (p : CN) : PyData := .tuple [p.1.d, .int p.2]
def rowD (r : List CN) : PyData := .list (r.map cN)
def numRow (n : Nat) : List Comer → List CN
  | [] => []
  | c :: b => (c, (n : Int)) :: numRow (n + 1) b
def numb (n : Nat) : List (List Comer) → Rows
  | [] => []
  | b :: w => numRow n b :: numb (n + b.length) w
theorem numRow_len : ∀ (n : Nat) (b : List Comer), (numRow n b).length = b.length
  | _, [] => rfl
  | n, c :: b => by rw [numRow, List.length_cons, List.length_cons, numRow_len (n + 1) b]
theorem numb_len : ∀ (n : Nat) (w : List (List Comer)), (numb n w).length = w.length
  | _, [] => rfl
  | n, b :: w => by rw [numb, List.length_cons, List.length_cons, numb_len _ w]
theorem numRow_fst : ∀ (n : Nat) (b : List Comer), (numRow n b).map Prod.fst = b
  | _, [] => rfl
  | n, c :: b => by rw [numRow, List.map_cons, numRow_fst (n + 1) b]
theorem numb_fst : ∀ (n : Nat) (w : List (List Comer)), (numb n w).map (List.map Prod.fst) = w
  | _, [] => rfl
  | n, b :: w => by rw [numb, List.map_cons, numRow_fst, numb_fst _ w]
theorem immC (c : Comer) : immD c.d = true := rfl
theorem immCN (r : List CN) : immAll (r.map cN) = true := immAll_map fun _ _ => rfl
theorem immBeat (b : List Comer) : immD (beatD b) = true := by unfold beatD; rw [immD_tup]; exact immAll_map fun _ _ => rfl
def outD (GG : Rows) : PyData := .tuple [wayD (GG.map (List.map Prod.fst)), .tuple (GG.flatten.map fun p => .int p.2)]
/-! ### the program's changes -/
theorem r_enum (n : Nat) (b : List Comer) : mapR (enumD (b.map Comer.d)) (fun x5 => R.bind (unpk2 x5) fun p7 =>
  R.bind (addV (.int (n : Int)) p7.1) fun z8 => .ok (.tuple [p7.2, z8])) = .ok ((numRow n b).map cN) := by
  have e : (numRow n b).map cN = (List.range b.length).map fun i => PyData.tuple [(b.map Comer.d).getD i .none, .int (((n + i : Nat)) : Int)] := by
    have key : ∀ (b : List Comer) (n : Nat), (numRow n b).map cN = (List.range b.length).map fun i => PyData.tuple [(b.map Comer.d).getD i .none, .int (((n + i : Nat)) : Int)] := by
      intro b
      induction b with
      | nil => intro n; rfl
      | cons c b ih =>
        intro n
        rw [numRow, List.map_cons, ih (n + 1), List.length_cons, List.range_succ_eq_map, List.map_cons, List.map_map]
        refine List.cons_eq_cons.mpr ⟨rfl, List.map_congr_left fun i _ => ?_⟩
        show _ = PyData.tuple [(b.map Comer.d).getD i .none, .int ((n + (i + 1) : Nat) : Int)]
        rw [show n + 1 + i = n + (i + 1) by omega]
    exact key b n
  rw [e]
  unfold enumD
  rw [List.length_map]
  exact mapTo _ fun i _ => st1 (unpk2_t _ _) (st1 (addV_int _ _) rfl)
theorem r_numbered {way : List (List Comer)} (hl : way.length ≤ 1000) : f_p_numbered (wayD way) = .ok ((numb 0 way).map rowD) := by
  have key : ∀ (w : List (List Comer)) (done : Rows) (n : Nat), done.length + w.length ≤ 1000 → foldR (w.map beatD) (done.map rowD, PyData.int (n : Int)) (fun x2 s3 => R.bind (itemsT x2) fun ds4 =>
      R.bind (mapR (enumD ds4) fun x5 => R.bind (unpk2 x5) fun p7 =>
      R.bind (addV s3.2 p7.1) fun z8 =>
      .ok (.tuple [p7.2, z8])) fun l9 =>
      R.bind (appL s3.1 (.list l9)) fun z10 =>
      R.bind (lenV x2) fun z11 =>
      R.bind (addV s3.2 z11) fun z12 =>
      .ok (z10, z12)) = .ok ((done ++ numb n w).map rowD, PyData.int ((n + manyIn w : Nat) : Int)) := by
    intro w
    induction w with
    | nil => intro done n _; rw [numb, List.append_nil]; rfl
    | cons b w ih =>
      intro done n h
      rw [List.length_cons] at h
      rw [List.map_cons, foldR]
      refine st1 (a := ((done ++ [numRow n b]).map rowD, PyData.int ((n + b.length : Nat) : Int))) ?_ ?_
      · refine st1 (itemsT_t _) (st1 (r_enum n b) (st1 (appL_ok (by rw [List.length_map]; omega)) (st1 (lenV_t _) (st1 (addV_int _ _) ?_))))
        rw [List.map_append, List.length_map, Int.natCast_add]
        rfl
      · rw [ih (done ++ [numRow n b]) (n + b.length) (by rw [List.length_append]; simp; omega), numb, List.append_assoc]
        unfold manyIn
        rw [List.map_cons, List.sum_cons, Nat.add_assoc]
        rfl
  unfold f_p_numbered
  refine st1 (itemsT_t _) ?_
  refine st1 (key way [] 0 (by simpa using hl)) ?_
  rw [List.nil_append]
theorem r_way_of {GG : Rows} (hl : GG.flatten.length ≤ 1000) : f_p_way_of (.list (GG.map rowD)) = .ok (outD GG) := by
  unfold f_p_way_of
  refine st1 (itemsA_l _) ?_
  have key : ∀ (GG : Rows) (done : List PyData), done.length + GG.flatten.length ≤ 1000 → foldR (GG.map rowD) done (fun x2 s3 => R.bind (itemsA x2) fun ds4 =>
      R.bind (mapR ds4 fun x5 => R.bind (unpk2 x5) fun p7 =>
      R.bind (asI p7.1) fun z8 =>
      R.bind (asI p7.2) fun z9 =>
      .ok z9) fun l10 =>
      R.bind (extL s3 l10) fun z11 =>
      .ok z11) = .ok (done ++ GG.flatten.map fun p => .int p.2) := by
    intro GG
    induction GG with
    | nil => intro done _; simp [foldR]
    | cons r GG ih =>
      intro done h
      rw [List.flatten_cons, List.length_append] at h
      rw [List.map_cons, foldR]
      refine st1 (a := done ++ r.map fun p => PyData.int p.2) ?_ ?_
      · refine st1 (itemsA_l _) (st1 (a := r.map fun p => PyData.int p.2) (mapTo _ fun p _ => st1 (unpk2_t _ _) (st1 (asI_eq rfl) (st1 (asI_eq rfl) rfl))) (st1 (extL_eq (immAll_map fun _ _ => rfl) ?_) rfl))
        rw [List.length_map, sizeLine_eq]
        omega
      · rw [ih _ (by rw [List.length_append, List.length_map]; omega), List.flatten_cons, List.map_append, List.append_assoc]
  refine st1 (key GG [] (by simpa using hl)) ?_
  refine st1 (itemsA_l _) ?_
  refine st1 (a := (GG.map (List.map Prod.fst)).map beatD) ?_ ?_
  · rw [List.map_map]
    refine mapTo _ fun r _ => ?_
    refine st1 (itemsA_l _) (st1 (a := (r.map Prod.fst).map Comer.d) ?_ (st1 (tupV_l (immAll_map fun _ _ => rfl)) rfl))
    rw [List.map_map]
    exact mapTo _ fun p _ => st1 (unpk2_t _ _) (st1 (asI_eq rfl) (st1 (asI_eq rfl) rfl))
  refine st1 (tupV_l (immAll_map fun b _ => immBeat b)) (st1 (tupV_l ?_) ?_)
  · rw [List.nil_append]
    exact immAll_map fun _ _ => rfl
  · rw [List.nil_append]
    rfl
theorem lenWay (way : List (List Comer)) : lenV (wayD way) = .ok (.int (way.length : Int)) := by unfold wayD; rw [lenV_t, List.length_map]
theorem r_ask (way : List (List Comer)) (n : Nat) : f_p_ask_number (wayD way) (.int (n : Int)) = if manyIn way ≤ n then .exc ⟨"NoComer", [("number", .int (n : Int))]⟩ else .ok .none := by
  unfold f_p_ask_number
  refine st1 (itemsT_t _) (st1 (a := (way.map List.length).map fun n : Nat => PyData.int n) ?_ (st1 (a := .int ((manyIn way : Nat) : Int)) ?_ (st1 (geV_int _ _) ?_)))
  · rw [List.map_map]
    refine mapTo _ fun b _ => st1 (lenV_t _) ?_
    rw [List.length_map]
    rfl
  · have h := sumMap (fun n : Nat => (n : Int)) (way.map List.length)
    have e : ∀ l : List Nat, (l.map fun n : Nat => (n : Int)).sum = (l.sum : Int) := by
      intro l
      induction l with
      | nil => rfl
      | cons x l ih => rw [List.map_cons, List.sum_cons, List.sum_cons, Int.natCast_add, ih]
    rw [e] at h
    exact h
  · by_cases c : manyIn way ≤ n
    · rw [decide_eq_true (show (n : Int) ≥ (manyIn way : Int) by omega), cond_true, if_pos c]
      rfl
    · rw [decide_eq_false (show ¬ (n : Int) ≥ (manyIn way : Int) by omega), cond_false, if_neg c]
theorem numFlat : ∀ (n : Nat) (w : List (List Comer)), (numb n w).flatten.length = manyIn w
  | _, [] => rfl
  | n, b :: w => by rw [numb, List.flatten_cons, List.length_append, numRow_len, numFlat]; rfl
theorem flatFilter (p : CN → Bool) : ∀ GG : Rows, (GG.map (List.filter p)).flatten.length ≤ GG.flatten.length
  | [] => Nat.le_refl _
  | r :: GG => by
    rw [List.map_cons, List.flatten_cons, List.flatten_cons, List.length_append, List.length_append]
    have := List.length_filter_le p r
    have := flatFilter p GG
    omega
def outOf (k : CN → Bool) (GG : Rows) : Rows := GG.map (List.filter k)
theorem r_without {way : List (List Comer)} (hl : way.length ≤ 1000) (hm : manyIn way ≤ 900) {n : Nat} (hn : n < manyIn way) : f_p_without (wayD way) (.int (n : Int)) = .ok (outD (outOf (fun p => !decide (p.2 = (n : Int))) (numb 0 way))) := by
  unfold f_p_without
  refine st1 (a := .none) (by rw [r_ask, if_neg (by omega)]) (st1 (r_numbered hl) (st1 (itemsA_l _) ?_))
  refine st1 (a := (outOf (fun p => !decide (p.2 = (n : Int))) (numb 0 way)).map rowD) ?_ ?_
  · unfold outOf
    rw [List.map_map]
    refine mapTo _ fun r _ => ?_
    refine st1 (itemsA_l _) (st1 (a := (r.filter fun p => !decide (p.2 = (n : Int))).map cN) ?_ rfl)
    rw [← filterOpt (fun p : CN => !decide (p.2 = (n : Int))) cN]
    refine fmapTo _ fun p _ => ?_
    refine st1 (asI_eq rfl) (st1 (ixV_t (i := 1) (z := .int p.2) rfl) (st1 (neV_int _ _) ?_))
    cases (!decide (p.2 = (n : Int))) <;> rfl
  · refine st1 (r_way_of ?_) rfl
    have := flatFilter (fun p => !decide (p.2 = (n : Int))) (numb 0 way)
    rw [numFlat] at this
    unfold outOf
    omega
theorem r_front {way : List (List Comer)} (hl : way.length ≤ 1000) (hm : manyIn way ≤ 900) : f_p_front_alone (wayD way) = .ok (outD (outOf (fun p => decide (p.1.rank = 0)) (numb 0 way))) := by
  unfold f_p_front_alone
  refine st1 (r_numbered hl) (st1 (itemsA_l _) ?_)
  refine st1 (a := (outOf (fun p => decide (p.1.rank = 0)) (numb 0 way)).map rowD) ?_ ?_
  · unfold outOf
    rw [List.map_map]
    refine mapTo _ fun r _ => ?_
    refine st1 (itemsA_l _) (st1 (a := (r.filter fun p => decide (p.1.rank = 0)).map cN) ?_ rfl)
    rw [← filterOpt (fun p : CN => decide (p.1.rank = 0)) cN]
    refine fmapTo _ fun p _ => ?_
    refine st1 (asI_eq rfl) (st1 (ixV_t (i := 0) (z := p.1.d) rfl) (st1 (ixV_t (i := 0) (z := .int (p.1.rank : Int)) rfl) (st1 (eqV_int _ _) ?_)))
    by_cases c : p.1.rank = 0
    · rw [decide_eq_true (show (p.1.rank : Int) = 0 by omega), cond_true, if_pos (decide_eq_true c)]
    · rw [decide_eq_false (show ¬ (p.1.rank : Int) = 0 by omega), cond_false, if_neg (by simpa using c)]
  · refine st1 (r_way_of ?_) rfl
    have := flatFilter (fun p => decide (p.1.rank = 0)) (numb 0 way)
    rw [numFlat] at this
    unfold outOf
    omega
def longOne (n : Int) (m : Nat) (p : CN) : CN := (⟨p.1.rank, p.1.work + m * (if p.2 = n then 1 else 0)⟩, p.2)
theorem flatMapLen (f : CN → CN) : ∀ GG : Rows, (GG.map (List.map f)).flatten.length = GG.flatten.length
  | [] => rfl
  | r :: GG => by rw [List.map_cons, List.flatten_cons, List.flatten_cons, List.length_append, List.length_append, List.length_map, flatMapLen f GG]
theorem r_longer {way : List (List Comer)} (hl : way.length ≤ 1000) (hm : manyIn way ≤ 900) {n m : Nat} (hn : n < manyIn way) : f_p_longer (wayD way) (.int (n : Int)) (.int (m : Int)) = .ok (outD ((numb 0 way).map (List.map (longOne n m)))) := by
  unfold f_p_longer
  refine st1 (a := .none) (by rw [r_ask, if_neg (by omega)]) (st1 (r_numbered hl) (st1 (itemsA_l _) ?_))
  have hrow : ∀ r ∈ numb 0 way, r.length ≤ 900 := fun r hr => by
    have h1 := numFlat 0 way
    have h2 : r.length ≤ (numb 0 way).flatten.length := by
      have : ∀ (GG : Rows), r ∈ GG → r.length ≤ GG.flatten.length := by
        intro GG
        induction GG with
        | nil => intro h; cases h
        | cons a GG ih =>
          intro h
          rw [List.flatten_cons, List.length_append]
          rcases List.mem_cons.mp h with rfl | h
          · omega
          · have := ih h; omega
      exact this _ hr
    omega
  have hlen := numb_len 0 way
  have hfl := numFlat 0 way
  generalize numb 0 way = GG at hrow hlen hfl
  have inner : ∀ (r done : List CN), done.length + r.length ≤ 1000 → foldR (r.map cN) (done.map cN) (fun x7 s8 => R.bind (unpk2 x7) fun p9 =>
      R.bind (asI p9.1) fun z10 =>
      R.bind (unpk2 z10) fun p11 =>
      R.bind (asI p9.2) fun z12 =>
      R.bind (eqV z12 (.int (n : Int))) fun b13 =>
      R.bind (bif b13 then (R.bind (addV p11.2 (.int (m : Int))) fun z14 =>
      .ok (.tuple [(.tuple [p11.1, z14]), z12])) else (.ok (.tuple [(.tuple [p11.1, p11.2]), z12]))) fun z15 =>
      R.bind (appL s8 z15) fun z16 =>
      .ok z16) = .ok ((done ++ r.map (longOne n m)).map cN) := by
    intro r
    induction r with
    | nil => intro done _; simp [foldR]
    | cons p r ih =>
      intro done h
      rw [List.length_cons] at h
      rw [List.map_cons, foldR]
      refine st1 (a := (done ++ [longOne n m p]).map cN) ?_ ?_
      · refine st1 (unpk2_t _ _) (st1 (asI_eq rfl) (st1 (a := (.int (p.1.rank : Int), .int (p.1.work : Int))) rfl (st1 (asI_eq rfl) (st1 (eqV_int _ _) (st1 (a := cN (longOne n m p)) ?_ (st1 (appL_ok (by rw [List.length_map]; omega)) ?_))))))
        · unfold cN longOne
          by_cases c : p.2 = (n : Int)
          · rw [decide_eq_true c, cond_true]
            refine st1 (addV_int _ _) ?_
            show R.ok (PyData.tuple [.tuple [.int (p.1.rank : Int), .int ((p.1.work : Int) + (m : Int))], .int p.2]) = R.ok (PyData.tuple [Comer.d ⟨p.1.rank, p.1.work + m * (if p.2 = (n : Int) then 1 else 0)⟩, .int p.2])
            rw [if_pos c, Nat.mul_one]
            unfold Comer.d
            rw [Int.natCast_add]
          · rw [decide_eq_false c, cond_false]
            show R.ok (PyData.tuple [.tuple [.int (p.1.rank : Int), .int (p.1.work : Int)], .int p.2]) = R.ok (PyData.tuple [Comer.d ⟨p.1.rank, p.1.work + m * (if p.2 = (n : Int) then 1 else 0)⟩, .int p.2])
            rw [if_neg c, Nat.mul_zero, Nat.add_zero]
            rfl
        · rw [List.map_append]; rfl
      · rw [ih _ (by rw [List.length_append]; simp; omega), List.map_cons, List.append_assoc]
        rfl
  have outer : ∀ (GG done : Rows), (∀ r ∈ GG, r.length ≤ 900) → done.length + GG.length ≤ 2000 → foldR (GG.map rowD) (done.map rowD) (fun x4 s5 => R.bind (itemsA x4) fun ds6 =>
      R.bind (foldR ds6 [] fun x7 s8 => R.bind (unpk2 x7) fun p9 =>
      R.bind (asI p9.1) fun z10 =>
      R.bind (unpk2 z10) fun p11 =>
      R.bind (asI p9.2) fun z12 =>
      R.bind (eqV z12 (.int (n : Int))) fun b13 =>
      R.bind (bif b13 then (R.bind (addV p11.2 (.int (m : Int))) fun z14 =>
      .ok (.tuple [(.tuple [p11.1, z14]), z12])) else (.ok (.tuple [(.tuple [p11.1, p11.2]), z12]))) fun z15 =>
      R.bind (appL s8 z15) fun z16 =>
      .ok z16) fun s8 =>
      R.bind (appL s5 (.list s8)) fun z17 =>
      .ok z17) = .ok ((done ++ GG.map (List.map (longOne n m))).map rowD) := by
    intro GG
    induction GG with
    | nil => intro done _ _; simp [foldR]
    | cons r GG ih =>
      intro done h h2
      rw [List.length_cons] at h2
      have hr := h r List.mem_cons_self
      rw [List.map_cons, foldR]
      refine st1 (a := (done ++ [r.map (longOne n m)]).map rowD) ?_ ?_
      · refine st1 (itemsA_l _) (st1 (inner r [] (by simp; omega)) (st1 (appL_ok (by rw [List.length_map]; omega)) ?_))
        rw [List.nil_append, List.map_append]
        rfl
      · rw [ih _ (fun x hx => h x (List.mem_cons_of_mem _ hx)) (by rw [List.length_append]; simp; omega), List.map_cons, List.append_assoc]
        rfl
  refine st1 (outer GG [] hrow (by simp; omega)) ?_
  refine st1 (r_way_of ?_) rfl
  rw [List.nil_append, flatMapLen]
  omega
def putIn (p : CN) (place : Nat) (r : List CN) : List CN := r.take place ++ [p] ++ r.drop place
theorem slRow (r : List CN) (n : Nat) : slL (r.map cN) none (some (.int (n : Int))) = .ok ((r.take n).map cN) := by
  unfold slL
  simp only [intO_i, intO_n, bO]
  unfold cutL2
  rw [if_pos (immCN r), cutD_take, List.map_take]
theorem slRow2 (r : List CN) (n : Nat) : slL (r.map cN) (some (.int (n : Int))) none = .ok ((r.drop n).map cN) := by
  unfold slL
  simp only [intO_i, intO_n, bO]
  unfold cutL2
  rw [if_pos (immCN r), cutD_drop, List.map_drop]
theorem putLen (p : CN) (place : Nat) (r : List CN) : (putIn p place r).length = r.length + 1 := by
  unfold putIn
  simp
  omega
theorem setRow {GG : Rows} {i : Nat} (h : i < GG.length) (r : List CN) : setL (GG.map rowD) (.int (i : Int)) (rowD r) = .ok ((GG.set i r).map rowD) := by
  unfold setL
  have e : ixN (GG.map rowD).length (i : Int) = some i := by
    have : i < (GG.map rowD).length := by rw [List.length_map]; exact h
    unfold ixN
    split <;> simp <;> omega
  simp only [e]
  rw [List.map_set]
theorem setFlat {GG : Rows} {i : Nat} {r : List CN} (h : i < GG.length) (r' : List CN) (hr : GG[i] = r) : (GG.set i r').flatten.length + r.length = GG.flatten.length + r'.length := by
  induction GG generalizing i with
  | nil => simp at h
  | cons a GG ih =>
    cases i with
    | zero =>
      have hr : a = r := hr
      subst hr
      rw [List.set_cons_zero, List.flatten_cons, List.flatten_cons, List.length_append, List.length_append]
      omega
    | succ i =>
      have := ih (i := i) (by simpa using h) (by simpa using hr)
      rw [List.set_cons_succ, List.flatten_cons, List.flatten_cons, List.length_append, List.length_append]
      omega
theorem r_with {way : List (List Comer)} (hl : way.length ≤ 1000) (hm : manyIn way ≤ 900) {i place : Nat} (hi : i < way.length) (c : Comer) :
    f_p_with_comer (wayD way) (.int (i : Int)) (.int (place : Int)) c.d = .ok (outD ((numb 0 way).set i (putIn (c, -1) place ((numb 0 way).getD i [])))) := by
  unfold f_p_with_comer
  refine st1 (lenWay way) (st1 (geV_int _ _) ?_)
  rw [decide_eq_false (show ¬ (i : Int) ≥ (way.length : Int) by omega), cond_false]
  refine st1 (r_numbered hl) ?_
  have hfl := numFlat 0 way
  have hlen := numb_len 0 way
  generalize numb 0 way = GG at hfl hlen
  have hi2 : i < GG.length := by omega
  have hg := List.getElem?_eq_getElem hi2
  rw [List.getD_eq_getElem?_getD, hg]
  have hR : GG[i].length ≤ 900 := by
    have := setFlat hi2 [] rfl
    simp only [List.length_nil] at this
    omega
  generalize hr : GG[i] = r at hg hR
  have ex : ixL (GG.map rowD) (.int (i : Int)) = .ok (r.map cN) := by
    unfold ixL
    simp only []
    rw [atI_nn (z := rowD r) (by rw [List.getElem?_map, hg]; rfl)]
    rfl
  refine st1 ex (st1 (intO_i _) (st1 (slRow r place) (st1 (negV_int _) ?_)))
  refine st1 (a := (r.take place ++ [(c, (-1 : Int))]).map cN) ?_ ?_
  · rw [catL_eq (immCN _) rfl (by rw [List.length_map, List.length_take, sizeLine_eq]; simp; omega), List.map_append]
    rfl
  refine st1 ex (st1 (intO_i _) (st1 (slRow2 r place) ?_))
  refine st1 (a := (putIn (c, -1) place r).map cN) ?_ ?_
  · rw [catL_eq (immCN _) (immCN _) (by rw [List.length_map, List.length_map, List.length_append, List.length_take, List.length_drop, sizeLine_eq]; simp; omega)]
    unfold putIn
    simp only [List.map_append]
  refine st1 (setRow hi2 _) ?_
  refine st1 (r_way_of ?_) rfl
  have h1 := setFlat hi2 (putIn (c, -1) place r) hr
  rw [putLen] at h1
  show ((GG.set i (putIn (c, -1) place r)).flatten).length ≤ 1000
  omega
theorem r_with_no {way : List (List Comer)} {i : Nat} (hi : way.length ≤ i) (d e : PyData) : f_p_with_comer (wayD way) (.int (i : Int)) d e = .exc ⟨"NoBeat", []⟩ := by
  unfold f_p_with_comer
  refine st1 (lenWay way) (st1 (geV_int _ _) ?_)
  rw [decide_eq_true (show (i : Int) ≥ (way.length : Int) by omega)]
  rfl
theorem r_without_no {way : List (List Comer)} {n : Nat} (h : manyIn way ≤ n) : f_p_without (wayD way) (.int (n : Int)) = .exc ⟨"NoComer", [("number", .int (n : Int))]⟩ := by
  unfold f_p_without
  rw [r_ask, if_pos h]
  rfl
theorem r_longer_no {way : List (List Comer)} {n : Nat} (h : manyIn way ≤ n) (d : PyData) : f_p_longer (wayD way) (.int (n : Int)) d = .exc ⟨"NoComer", [("number", .int (n : Int))]⟩ := by
  unfold f_p_longer
  rw [r_ask, if_pos h]
  rfl
/-! ### the law's own rows -/
abbrev FN := Nat × CN
def fD (q : FN) : PyData := .tuple [.int (q.1 : Int), q.2.1.d, .int q.2.2]
def flatR : Nat → Rows → List FN
  | _, [] => []
  | a, r :: GG => r.map (fun p => (a, p)) ++ flatR (a + 1) GG
theorem flatR_app : ∀ (A : Rows) (a : Nat) (B : Rows), flatR a (A ++ B) = flatR a A ++ flatR (a + A.length) B
  | [], a, B => rfl
  | r :: A, a, B => by
    rw [List.cons_append, flatR, flatR, flatR_app A (a + 1) B, List.append_assoc, List.length_cons, show a + 1 + A.length = a + (A.length + 1) by omega]
theorem flatR_len : ∀ (a : Nat) (GG : Rows), (flatR a GG).length = GG.flatten.length
  | _, [] => rfl
  | a, r :: GG => by rw [flatR, List.length_append, List.length_map, flatR_len, List.flatten_cons, List.length_append]
theorem immFD (L : List FN) : immAll (L.map fD) = true := immAll_map fun _ _ => rfl
theorem r_flat {way : List (List Comer)} (hl : way.length ≤ 1000) (hm : manyIn way ≤ 900) : f_q_flat (wayD way) = .ok ((flatR 0 (numb 0 way)).map fD) := by
  have inner : ∀ (b : List Comer) (s : List FN) (a : Nat), s.length + b.length ≤ 1000 → foldR (b.map Comer.d) (s.map fD) (fun x7 s8 => R.bind (lenV (.list s8)) fun z9 =>
      R.bind (appL s8 (.tuple [.int (a : Int), x7, z9])) fun z10 => .ok z10) = .ok ((s ++ (numRow s.length b).map fun p => (a, p)).map fD) := by
    intro b
    induction b with
    | nil => intro s a _; simp [numRow, foldR]
    | cons c b ih =>
      intro s a h
      rw [List.length_cons] at h
      rw [List.map_cons, foldR]
      refine st1 (a := (s ++ [(a, (c, (s.length : Int)))]).map fD) ?_ ?_
      · refine st1 (lenV_l _) (st1 (appL_ok (by rw [List.length_map]; omega)) ?_)
        rw [List.map_append, List.length_map]
        rfl
      · rw [ih _ a (by rw [List.length_append]; simp; omega), List.length_append, numRow, List.map_cons, List.append_assoc]
        rfl
  have outer : ∀ (w pre : List (List Comer)) (s : List FN), pre ++ w = way → s.length + manyIn w ≤ 900 → foldR ((List.range' pre.length w.length).map fun i : Nat => PyData.int (i : Int)) (s.map fD) (fun x3 s4 => R.bind (ixV (wayD way) x3) fun z5 =>
      R.bind (itemsT z5) fun ds6 =>
      R.bind (foldR ds6 s4 fun x7 s8 => R.bind (lenV (.list s8)) fun z9 =>
      R.bind (appL s8 (.tuple [x3, x7, z9])) fun z10 =>
      .ok z10) fun s8 =>
      .ok s8) = .ok ((s ++ flatR pre.length (numb s.length w)).map fD) := by
    intro w
    induction w with
    | nil => intro pre s _ _; rw [numb, flatR, List.append_nil]; rfl
    | cons b w ih =>
      intro pre s hp h
      have hmb : manyIn (b :: w) = b.length + manyIn w := by unfold manyIn; rw [List.map_cons, List.sum_cons]
      rw [hmb] at h
      rw [List.length_cons, List.range'_succ, List.map_cons, foldR]
      refine st1 (a := (s ++ (numRow s.length b).map fun p => (pre.length, p)).map fD) ?_ ?_
      · refine st1 (ixV_t (z := beatD b) ?_) (st1 (itemsT_t _) (st1 (inner b s pre.length (by omega)) rfl))
        rw [← hp, List.getElem?_map, List.getElem?_append_right (Nat.le_refl _), Nat.sub_self]
        rfl
      · have := ih (pre ++ [b]) (s ++ (numRow s.length b).map fun p => (pre.length, p)) (by rw [← hp]; simp) (by rw [List.length_append, List.length_map, numRow_len]; omega)
        rw [List.length_append] at this
        rw [show pre.length + 1 = pre.length + [b].length from rfl, this, numb, flatR, List.length_append, List.length_map, numRow_len, List.append_assoc]
        rfl
  unfold f_q_flat
  refine st1 (lenWay way) (st1 (range1_n _ (by omega)) ?_)
  have := outer way [] [] rfl (by simpa using hm)
  rw [List.range_eq_range']
  refine st1 this ?_
  rw [List.nil_append]
  rfl
/-- beats and numbers of rows -/
def builtD (L : List FN) (many : Nat) : PyData := .tuple [.tuple ((List.range many).map fun k => beatD ((L.filter fun q => decide (q.1 = k)).map fun q => q.2.1)), .tuple (L.map fun q => .int q.2.2)]
theorem r_built (L : List FN) {many : Nat} (h : many ≤ 1000) : f_q_built (L.map fD) (.int (many : Int)) = .ok (builtD L many) := by
  unfold f_q_built
  refine st1 (range1_n many (by omega)) ?_
  refine st1 (a := (List.range many).map fun k => beatD ((L.filter fun q => decide (q.1 = k)).map fun q => q.2.1)) ?_ ?_
  · refine mapTo _ fun k _ => ?_
    refine st1 (itemsI_eq (immFD L)) ?_
    refine st1 (a := ((L.filter fun q => decide (q.1 = k)).map fun q => q.2.1).map Comer.d) ?_ (st1 (tupV_l (immAll_map fun _ _ => rfl)) rfl)
    rw [List.map_map, ← filterOpt (fun q : FN => decide (q.1 = k)) (Comer.d ∘ fun q => q.2.1)]
    refine fmapTo _ fun q _ => ?_
    refine st1 (unpk3_t _ _ _) (st1 (eqV_int _ _) ?_)
    by_cases c : q.1 = k
    · rw [decide_eq_true (show (q.1 : Int) = (k : Int) by omega), cond_true, if_pos (decide_eq_true c)]
      rfl
    · rw [decide_eq_false (show ¬ (q.1 : Int) = (k : Int) by omega), cond_false, if_neg (by simpa using c)]
  refine st1 (tupV_l (immAll_map fun b _ => immBeat _)) ?_
  refine st1 (itemsI_eq (immFD L)) ?_
  refine st1 (a := L.map fun q => PyData.int q.2.2) (mapTo _ fun q _ => st1 (unpk3_t _ _ _) rfl) ?_
  exact st1 (tupV_l (immAll_map fun _ _ => rfl)) rfl
theorem flatAt : ∀ (GG : Rows) (a k : Nat), (((flatR a GG).filter fun q => decide (q.1 = k)).map fun q => q.2.1) = if k < a then [] else (GG.getD (k - a) []).map Prod.fst
  | [], a, k => by simp [flatR]
  | r :: GG, a, k => by
    rw [flatR, List.filter_append, List.map_append, flatAt GG (a + 1) k]
    by_cases c : k < a
    · have h1 : (r.map fun p => (a, p)).filter (fun q : FN => decide (q.1 = k)) = [] := by
        rw [List.filter_eq_nil_iff]
        intro q hq
        obtain ⟨p, -, rfl⟩ := List.mem_map.mp hq
        simp
        omega
      rw [h1, if_pos c, if_pos (by omega)]
      rfl
    · by_cases c2 : k = a
      · subst c2
        have h1 : (r.map fun p => (k, p)).filter (fun q : FN => decide (q.1 = k)) = r.map fun p => (k, p) := by
          rw [List.filter_eq_self]
          intro q hq
          obtain ⟨p, -, rfl⟩ := List.mem_map.mp hq
          simp
        rw [h1, if_neg c, if_pos (by omega), Nat.sub_self, List.append_nil, List.map_map]
        rfl
      · have h1 : (r.map fun p => (a, p)).filter (fun q : FN => decide (q.1 = k)) = [] := by
          rw [List.filter_eq_nil_iff]
          intro q hq
          obtain ⟨p, -, rfl⟩ := List.mem_map.mp hq
          simp
          omega
        rw [h1, if_neg c, if_neg (by omega), show k - a = (k - (a + 1)) + 1 by omega]
        rfl
theorem flatNum : ∀ (a : Nat) (GG : Rows), ((flatR a GG).map fun q => PyData.int q.2.2) = GG.flatten.map fun p => PyData.int p.2
  | _, [] => rfl
  | a, r :: GG => by
    rw [flatR, List.map_append, flatNum (a + 1) GG, List.flatten_cons, List.map_append, List.map_map]
    rfl
theorem builtFlat (GG : Rows) : builtD (flatR 0 GG) GG.length = outD GG := by
  unfold builtD outD wayD
  rw [flatNum]
  have e : ((List.range GG.length).map fun k => beatD (((flatR 0 GG).filter fun q => decide (q.1 = k)).map fun q => q.2.1)) = (GG.map (List.map Prod.fst)).map beatD := by
    refine List.ext_getElem (by simp) fun i h1 h2 => ?_
    have hi : i < GG.length := by simpa using h1
    rw [List.getElem_map, List.getElem_range, List.getElem_map, List.getElem_map, flatAt, if_neg (by omega), Nat.sub_zero, List.getD_eq_getElem?_getD, List.getElem?_eq_getElem hi]
    rfl
  rw [e]
theorem r_builtR (GG : Rows) (h : GG.length ≤ 1000) {n : Nat} (e : n = GG.length) : f_q_built ((flatR 0 GG).map fD) (.int (n : Int)) = .ok (outD GG) := by
  subst e
  rw [r_built _ h, builtFlat]
theorem flatFilt (k : CN → Bool) : ∀ (a : Nat) (GG : Rows), (flatR a GG).filter (fun q => k q.2) = flatR a (outOf k GG)
  | _, [] => rfl
  | a, r :: GG => by
    unfold outOf at *
    rw [flatR, List.filter_append, flatFilt k (a + 1) GG, List.map_cons, flatR, List.filter_map]
    rfl
theorem flatMapF (f : CN → CN) : ∀ (a : Nat) (GG : Rows), (flatR a GG).map (fun q => (q.1, f q.2)) = flatR a (GG.map (List.map f))
  | _, [] => rfl
  | a, r :: GG => by
    rw [flatR, List.map_append, flatMapF f (a + 1) GG, List.map_cons, flatR, List.map_map, List.map_map]
    rfl
theorem outLen (k : CN → Bool) (GG : Rows) : (outOf k GG).length = GG.length := by unfold outOf; rw [List.length_map]
/-- a row put in -/
theorem flatPut {GG : Rows} {i : Nat} {r : List CN} (hi : i < GG.length) (hr : GG[i] = r) (p : CN) (place : Nat) :
    flatR 0 (GG.set i (putIn p place r)) = (flatR 0 GG).take ((flatR 0 (GG.take i)).length + min place r.length) ++ [(i, p)] ++ (flatR 0 GG).drop ((flatR 0 (GG.take i)).length + min place r.length) := by
  have e1 : GG = GG.take i ++ r :: GG.drop (i + 1) := by
    rw [← hr, ← List.drop_eq_getElem_cons hi, List.take_append_drop]
  have e2 : GG.set i (putIn p place r) = GG.take i ++ putIn p place r :: GG.drop (i + 1) := by
    rw [List.set_eq_take_append_cons_drop, if_pos hi]
  have l1 : (GG.take i).length = i := by rw [List.length_take]; omega
  have hf : flatR 0 GG = flatR 0 (GG.take i) ++ (r.map (fun q => (i, q)) ++ flatR (i + 1) (GG.drop (i + 1))) := by
    conv => lhs; rw [e1]
    rw [flatR_app, l1, Nat.zero_add, flatR]
  rw [e2, flatR_app, l1, Nat.zero_add, flatR, hf]
  rw [List.take_length_add_append, List.drop_length_add_append, List.take_append_of_le_length (by rw [List.length_map]; exact Nat.min_le_right _ _), List.drop_append_of_le_length (by rw [List.length_map]; exact Nat.min_le_right _ _)]
  have m1 : (r.map fun q => (i, q)).take (min place r.length) = (r.take place).map fun q => (i, q) := by
    rw [← List.map_take]
    congr 1
    by_cases c : place ≤ r.length
    · rw [Nat.min_eq_left c]
    · rw [Nat.min_eq_right (by omega), List.take_of_length_le (Nat.le_refl _), List.take_of_length_le (by omega)]
  have m2 : (r.map fun q => (i, q)).drop (min place r.length) = (r.drop place).map fun q => (i, q) := by
    rw [← List.map_drop]
    congr 1
    by_cases c : place ≤ r.length
    · rw [Nat.min_eq_left c]
    · rw [Nat.min_eq_right (by omega), List.drop_of_length_le (Nat.le_refl _), List.drop_of_length_le (by omega)]
  rw [m1, m2]
  unfold putIn
  simp
theorem flatLow : ∀ (GG : Rows) (a i : Nat), (flatR a GG).filter (fun q => decide (q.1 < a + i)) = flatR a (GG.take i)
  | [], a, i => by simp [flatR]
  | r :: GG, a, 0 => by
    rw [List.take_zero, flatR, Nat.add_zero]
    rw [List.filter_eq_nil_iff]
    have : ∀ (GG : Rows) (a : Nat), ∀ q ∈ flatR a GG, a ≤ q.1 := by
      intro GG
      induction GG with
      | nil => intro a q h; cases h
      | cons r GG ih =>
        intro a q h
        rw [flatR] at h
        rcases List.mem_append.mp h with h | h
        · obtain ⟨p, -, rfl⟩ := List.mem_map.mp h
          exact Nat.le_refl _
        · have := ih (a + 1) q h; omega
    intro q hq
    have := this (r :: GG) a q hq
    simp
    omega
  | r :: GG, a, i + 1 => by
    have ih := flatLow GG (a + 1) i
    rw [show a + 1 + i = a + (i + 1) by omega] at ih
    rw [List.take_succ_cons, flatR, flatR, List.filter_append, ih]
    congr 1
    rw [List.filter_eq_self]
    intro q hq
    obtain ⟨p, -, rfl⟩ := List.mem_map.mp hq
    simp
/-! ### what is told, what is due -/
def withD (i place : Nat) (c : Comer) : PyData := .tuple [.int (i : Int), .int (place : Int), c.d]
def numD (n m : Nat) : PyData := .tuple [.int (n : Int), .int (m : Int)]
def toldD (GG : Rows) : PyData := .tuple [.str "told", outD GG]
def beatN : PyData := .tuple [.str "beat", .int 0]
def comerN (n : Nat) : PyData := .tuple [.str "comer", .int (n : Int)]
theorem immOut (GG : Rows) : immD (toldD GG) = true := by
  have h1 : immD (wayD (GG.map (List.map Prod.fst))) = true := by unfold wayD; rw [immD_tup]; exact immAll_map fun b _ => immBeat b
  have h2 : immD (.tuple (GG.flatten.map fun p => PyData.int p.2)) = true := by rw [immD_tup]; exact immAll_map fun _ _ => rfl
  unfold toldD outD
  rw [immD_tup, immAll, immAll, immD_tup, immAll, immAll, immAll, h1, h2]
  rfl
theorem tryOk {α : Type} {m : R α} {a : α} {f : Exc → R α} (h : m = .ok a) : tryR m f = .ok a := by rw [h]; rfl
theorem tryEx {α : Type} {m : R α} {e : Exc} {f : Exc → R α} {r : R α} (h : m = .exc e) (q : f e = r) : tryR m f = r := by rw [h]; exact q
theorem exB {α β : Type} {m : R α} {e : Exc} {k : α → R β} (h : m = .exc e) : m.bind k = .exc e := by rw [h]; rfl
theorem s_ww : Vl.eqV (.str "with") (.str "with") = R.ok true := by rw [eqV_str, decide_eq_true rfl]
theorem s_ow : Vl.eqV (.str "without") (.str "with") = R.ok false := by rw [eqV_str]; exact congrArg R.ok (by decide +kernel)
theorem s_oo : Vl.eqV (.str "without") (.str "without") = R.ok true := by rw [eqV_str, decide_eq_true rfl]
theorem s_lw : Vl.eqV (.str "longer") (.str "with") = R.ok false := by rw [eqV_str]; exact congrArg R.ok (by decide +kernel)
theorem s_lo : Vl.eqV (.str "longer") (.str "without") = R.ok false := by rw [eqV_str]; exact congrArg R.ok (by decide +kernel)
section
variable {way : List (List Comer)}
theorem w0 (i place : Nat) (c : Comer) : ixV (withD i place c) (.int 0) = .ok (.int (i : Int)) := ixV_t (i := 0) rfl
theorem w1 (i place : Nat) (c : Comer) : ixV (withD i place c) (.int 1) = .ok (.int (place : Int)) := ixV_t (i := 1) rfl
theorem w2 (i place : Nat) (c : Comer) : ixV (withD i place c) (.int 2) = .ok c.d := ixV_t (i := 2) rfl
theorem n0 (n m : Nat) : ixV (numD n m) (.int 0) = .ok (.int (n : Int)) := ixV_t (i := 0) rfl
theorem n1 (n m : Nat) : ixV (numD n m) (.int 1) = .ok (.int (m : Int)) := ixV_t (i := 1) rfl
theorem t_with (hl : way.length ≤ 1000) (hm : manyIn way ≤ 900) {i place : Nat} (hi : i < way.length) (c : Comer) :
    f_q_told (.str "with") (wayD way) (withD i place c) = .ok (toldD ((numb 0 way).set i (putIn (c, -1) place ((numb 0 way).getD i [])))) := by
  unfold f_q_told
  refine st1 (tryOk ?_) rfl
  refine st1 s_ww ?_
  rw [cond_true]
  exact st1 (st1 (w0 i place c) (st1 (w1 i place c) (st1 (w2 i place c) (st1 (r_with hl hm hi c) (st1 (asI_eq (immOut _)) rfl))))) rfl
theorem t_with_no {i place : Nat} (hi : way.length ≤ i) (c : Comer) : f_q_told (.str "with") (wayD way) (withD i place c) = .ok beatN := by
  unfold f_q_told
  refine st1 (tryEx (e := ⟨"NoBeat", []⟩) ?_ ?_) rfl
  · refine st1 s_ww ?_
    rw [cond_true]
    exact exB (st1 (w0 i place c) (st1 (w1 i place c) (st1 (w2 i place c) (exB (r_with_no hi _ _)))))
  · with_unfolding_all rfl
theorem t_out (hl : way.length ≤ 1000) (hm : manyIn way ≤ 900) {n m : Nat} (hn : n < manyIn way) :
    f_q_told (.str "without") (wayD way) (numD n m) = .ok (toldD (outOf (fun p => !decide (p.2 = (n : Int))) (numb 0 way))) := by
  unfold f_q_told
  refine st1 (tryOk ?_) rfl
  refine st1 s_ow ?_
  rw [cond_false]
  refine st1 (st1 s_oo ?_) rfl
  rw [cond_true]
  exact st1 (st1 (n0 n m) (st1 (r_without hl hm hn) (st1 (asI_eq (immOut _)) rfl))) rfl
theorem t_long (hl : way.length ≤ 1000) (hm : manyIn way ≤ 900) {n m : Nat} (hn : n < manyIn way) :
    f_q_told (.str "longer") (wayD way) (numD n m) = .ok (toldD ((numb 0 way).map (List.map (longOne n m)))) := by
  unfold f_q_told
  refine st1 (tryOk ?_) rfl
  refine st1 s_lw ?_
  rw [cond_false]
  refine st1 (st1 s_lo ?_) rfl
  rw [cond_false]
  exact st1 (st1 (n0 n m) (st1 (n1 n m) (st1 (r_longer hl hm hn) (st1 (asI_eq (immOut _)) rfl)))) rfl
theorem catchC (n : Nat) : (bif isE (⟨"NoComer", [("number", .int (n : Int))]⟩ : Exc).cls "WaitError" then (R.bind (bif (isEs (⟨"NoComer", [("number", .int (n : Int))]⟩ : Exc).cls ["NoHouse", "NoPaper", "NoRest", "NoRow", "NoText", "TooMany"]) then .ok true else (.ok (!(isE (⟨"NoComer", [("number", .int (n : Int))]⟩ : Exc).cls "ValueError")))) fun b19 =>
  R.bind (bif (isE (⟨"NoComer", [("number", .int (n : Int))]⟩ : Exc).cls "NoBeat") then (R.bind (bif (!(isE (⟨"NoComer", [("number", .int (n : Int))]⟩ : Exc).cls "NoComer")) then (.ok (!b19)) else .ok false) fun b21 =>
  .ok b21) else .ok false) fun b20 =>
  R.bind (bif b20 then (.ok (.tuple [(.str "beat"), (.int 0)])) else (.ok (.tuple [(.str "odd"), (.int 0)]))) fun s22 =>
  R.bind (bif (isE (⟨"NoComer", [("number", .int (n : Int))]⟩ : Exc).cls "NoComer") then (R.bind (bif (!(isE (⟨"NoComer", [("number", .int (n : Int))]⟩ : Exc).cls "NoBeat")) then (.ok (!b19)) else .ok false) fun b24 =>
  .ok b24) else .ok false) fun b23 =>
  R.bind (bif b23 then (R.bind (fldE "NoComer" "number" (⟨"NoComer", [("number", .int (n : Int))]⟩ : Exc)) fun z26 =>
  R.bind (asI (.tuple [(.str "comer"), z26])) fun z27 =>
  .ok z27) else (.ok s22)) fun s25 =>
  .ok s25) else .stuck : R PyData) = .ok (comerN n) := by
  with_unfolding_all rfl
theorem t_out_no {n m : Nat} (hn : manyIn way ≤ n) : f_q_told (.str "without") (wayD way) (numD n m) = .ok (comerN n) := by
  unfold f_q_told
  refine st1 (tryEx (e := ⟨"NoComer", [("number", .int (n : Int))]⟩) ?_ (catchC n)) rfl
  refine st1 s_ow ?_
  rw [cond_false]
  refine exB (st1 s_oo ?_)
  rw [cond_true]
  exact exB (st1 (n0 n m) (exB (r_without_no hn)))
theorem t_long_no {n m : Nat} (hn : manyIn way ≤ n) : f_q_told (.str "longer") (wayD way) (numD n m) = .ok (comerN n) := by
  unfold f_q_told
  refine st1 (tryEx (e := ⟨"NoComer", [("number", .int (n : Int))]⟩) ?_ (catchC n)) rfl
  refine st1 s_lw ?_
  rw [cond_false]
  refine exB (st1 s_lo ?_)
  rw [cond_false]
  exact exB (st1 (n0 n m) (st1 (n1 n m) (exB (r_longer_no hn _))))
theorem slF (L : List FN) (n : Nat) : slL (L.map fD) none (some (.int (n : Int))) = .ok ((L.take n).map fD) := by
  unfold slL
  simp only [intO_i, intO_n, bO]
  unfold cutL2
  rw [if_pos (immFD L), cutD_take, List.map_take]
theorem slF2 (L : List FN) (n : Nat) : slL (L.map fD) (some (.int (n : Int))) none = .ok ((L.drop n).map fD) := by
  unfold slL
  simp only [intO_i, intO_n, bO]
  unfold cutL2
  rw [if_pos (immFD L), cutD_drop, List.map_drop]
theorem d_with (hl : way.length ≤ 1000) (hm : manyIn way ≤ 900) {i place : Nat} (hi : i < way.length) (c : Comer) :
    f_q_due (.str "with") (wayD way) (withD i place c) = .ok (toldD ((numb 0 way).set i (putIn (c, -1) place ((numb 0 way).getD i [])))) := by
  unfold f_q_due
  refine st1 (r_flat hl hm) (st1 s_ww ?_)
  rw [cond_true]
  refine st1 (unpk3_t _ _ _) (st1 (lenWay way) (st1 (geV_int _ _) ?_))
  rw [decide_eq_false (show ¬ (i : Int) ≥ (way.length : Int) by omega), cond_false]
  have hfl := numFlat 0 way
  have hlen := numb_len 0 way
  have hfst := numb_fst 0 way
  generalize numb 0 way = GG at hfl hlen hfst
  have hi2 : i < GG.length := by omega
  have hg := List.getElem?_eq_getElem hi2
  rw [List.getD_eq_getElem?_getD, hg]
  generalize hr : GG[i] = r at hg
  have hL := flatR_len 0 GG
  have hlow := flatLow GG 0 i
  rw [Nat.zero_add] at hlow
  refine st1 (itemsI_eq (immFD _)) ?_
  refine st1 (a := (flatR 0 (GG.take i)).map fD) ?_ ?_
  · rw [← hlow, ← filterOpt (fun q : FN => decide (q.1 < i)) fD]
    refine fmapTo _ fun q _ => ?_
    refine st1 (ixV_t (i := 0) (z := .int (q.1 : Int)) rfl) (st1 (ltV_int _ _) ?_)
    by_cases h : q.1 < i
    · rw [decide_eq_true (show (q.1 : Int) < (i : Int) by omega), cond_true, if_pos (decide_eq_true h)]
    · rw [decide_eq_false (show ¬ (q.1 : Int) < (i : Int) by omega), cond_false, if_neg (by simpa using h)]
  refine st1 (a := .int ((flatR 0 (GG.take i)).length : Int)) (by rw [lenV_l, List.length_map]) ?_
  have hb : way[i]? = some (r.map Prod.fst) := by
    rw [← hfst, List.getElem?_map, hg]
    rfl
  refine st1 (ixV_t (z := beatD (r.map Prod.fst)) (by rw [List.getElem?_map, hb]; rfl)) ?_
  refine st1 (a := .int (r.length : Int)) (by unfold beatD; rw [lenV_t, List.length_map, List.length_map]) ?_
  refine st1 (a := .int ((min place r.length : Nat) : Int)) (by rw [min2V_int]; congr 2; split <;> omega) ?_
  refine st1 (a := .int (((flatR 0 (GG.take i)).length + min place r.length : Nat) : Int)) (by rw [addV_int, Int.natCast_add]) ?_
  refine st1 (intO_i _) (st1 (slF _ _) (st1 (negV_int _) ?_))
  refine st1 (a := ((flatR 0 GG).take ((flatR 0 (GG.take i)).length + min place r.length) ++ [(i, (c, (-1 : Int)))]).map fD) ?_ ?_
  · rw [catL_eq (immFD _) rfl (by rw [List.length_map, List.length_take, sizeLine_eq]; simp; omega), List.map_append]
    rfl
  refine st1 (intO_i _) (st1 (slF2 _ _) ?_)
  refine st1 (a := (flatR 0 (GG.set i (putIn (c, -1) place r))).map fD) ?_ ?_
  · rw [catL_eq (immFD _) (immFD _) (by rw [List.length_map, List.length_map, List.length_append, List.length_take, List.length_drop, sizeLine_eq]; simp; omega), flatPut hi2 hr]
    simp only [List.map_append]
  refine st1 (lenWay way) (st1 (r_builtR _ (by rw [List.length_set]; omega) (by rw [List.length_set]; omega)) rfl)
theorem d_with_no (hl : way.length ≤ 1000) (hm : manyIn way ≤ 900) {i place : Nat} (hi : way.length ≤ i) (c : Comer) : f_q_due (.str "with") (wayD way) (withD i place c) = .ok beatN := by
  unfold f_q_due
  refine st1 (r_flat hl hm) (st1 s_ww ?_)
  rw [cond_true]
  refine st1 (unpk3_t _ _ _) (st1 (lenWay way) (st1 (geV_int _ _) ?_))
  rw [decide_eq_true (show (i : Int) ≥ (way.length : Int) by omega), cond_true]
  rfl
theorem lenFlat (way : List (List Comer)) : lenV (.list ((flatR 0 (numb 0 way)).map fD)) = .ok (.int ((manyIn way : Nat) : Int)) := by
  rw [lenV_l, List.length_map, flatR_len, numFlat]
theorem d_no (hl : way.length ≤ 1000) (hm : manyIn way ≤ 900) {w : Str} (hw : Vl.eqV (.str w) (.str "with") = R.ok false) {n m : Nat} (hn : manyIn way ≤ n) : f_q_due (.str w) (wayD way) (numD n m) = .ok (comerN n) := by
  unfold f_q_due
  refine st1 (r_flat hl hm) (st1 hw ?_)
  rw [cond_false]
  refine st1 (n0 n m) (st1 (lenFlat way) (st1 (geV_int _ _) ?_))
  rw [decide_eq_true (show (n : Int) ≥ ((manyIn way : Nat) : Int) by omega), cond_true]
  exact st1 (n0 n m) rfl
theorem d_out (hl : way.length ≤ 1000) (hm : manyIn way ≤ 900) {n m : Nat} (hn : n < manyIn way) :
    f_q_due (.str "without") (wayD way) (numD n m) = .ok (toldD (outOf (fun p => !decide (p.2 = (n : Int))) (numb 0 way))) := by
  unfold f_q_due
  refine st1 (r_flat hl hm) (st1 s_ow ?_)
  rw [cond_false]
  refine st1 (n0 n m) (st1 (lenFlat way) (st1 (geV_int _ _) ?_))
  rw [decide_eq_false (show ¬ (n : Int) ≥ ((manyIn way : Nat) : Int) by omega), cond_false]
  refine st1 s_oo ?_
  rw [cond_true]
  refine st1 (itemsI_eq (immFD _)) ?_
  have hlen := numb_len 0 way
  refine st1 (a := (flatR 0 (outOf (fun p => !decide (p.2 = (n : Int))) (numb 0 way))).map fD) ?_ ?_
  · rw [← flatFilt, ← filterOpt (fun q : FN => !decide (q.2.2 = (n : Int))) fD]
    refine fmapTo _ fun q _ => ?_
    refine st1 (ixV_t (i := 2) (z := .int q.2.2) rfl) (st1 (n0 n m) (st1 (neV_int _ _) ?_))
    cases (!decide (q.2.2 = (n : Int))) <;> rfl
  refine st1 (lenWay way) (st1 (r_builtR _ (by rw [outLen]; omega) (by rw [outLen]; omega)) rfl)
theorem d_long (hl : way.length ≤ 1000) (hm : manyIn way ≤ 900) {n m : Nat} (hn : n < manyIn way) (hm2 : m ≤ 1000) :
    f_q_due (.str "longer") (wayD way) (numD n m) = .ok (toldD ((numb 0 way).map (List.map (longOne n m)))) := by
  unfold f_q_due
  refine st1 (r_flat hl hm) (st1 s_lw ?_)
  rw [cond_false]
  refine st1 (n0 n m) (st1 (lenFlat way) (st1 (geV_int _ _) ?_))
  rw [decide_eq_false (show ¬ (n : Int) ≥ ((manyIn way : Nat) : Int) by omega), cond_false]
  refine st1 s_lo ?_
  rw [cond_false]
  refine st1 (itemsI_eq (immFD _)) ?_
  have hlen := numb_len 0 way
  have hfl := numFlat 0 way
  have hL := flatR_len 0 (numb 0 way)
  have key : ∀ (L done : List FN), done.length + L.length ≤ 2000 → foldR (L.map fD) (done.map fD) (fun x41 s42 => R.bind (unpk3 x41) fun p43 =>
      R.bind (ixV p43.2.1 (.int 0)) fun z44 =>
      R.bind (ixV p43.2.1 (.int 1)) fun z45 =>
      R.bind (ixV (numD n m) (.int 1)) fun z46 =>
      R.bind (ixV (numD n m) (.int 0)) fun z47 =>
      R.bind (eqV p43.2.2 z47) fun b48 =>
      R.bind (intV (.bool b48)) fun z49 =>
      R.bind (mulV z46 z49) fun z50 =>
      R.bind (addV z45 z50) fun z51 =>
      R.bind (appL s42 (.tuple [p43.1, (.tuple [z44, z51]), p43.2.2])) fun z52 =>
      .ok z52) = .ok ((done ++ L.map fun q => (q.1, longOne n m q.2)).map fD) := by
    intro L
    induction L with
    | nil => intro done _; simp [foldR]
    | cons q L ih =>
      intro done h
      rw [List.length_cons] at h
      rw [List.map_cons, foldR]
      refine st1 (a := (done ++ [(q.1, longOne n m q.2)]).map fD) ?_ ?_
      · refine st1 (unpk3_t _ _ _) (st1 (ixV_t (i := 0) (z := .int (q.2.1.rank : Int)) rfl) (st1 (ixV_t (i := 1) (z := .int (q.2.1.work : Int)) rfl) (st1 (n1 n m) (st1 (n0 n m) (st1 (eqV_int _ _) ?_)))))
        refine st1 (a := .int ((if q.2.2 = (n : Int) then 1 else 0 : Nat) : Int)) (by
          by_cases c : q.2.2 = (n : Int)
          · rw [decide_eq_true c, if_pos c]; rfl
          · rw [decide_eq_false c, if_neg c]; rfl) ?_
        refine st1 (mulV_sm (by omega) (by split <;> omega)) (st1 (addV_int _ _) (st1 (appL_ok (by rw [List.length_map]; omega)) ?_))
        rw [List.map_append, ← Int.natCast_mul, ← Int.natCast_add]
        rfl
      · rw [ih _ (by rw [List.length_append]; simp; omega), List.map_cons, List.append_assoc]
        rfl
  refine st1 (a := (flatR 0 ((numb 0 way).map (List.map (longOne n m)))).map fD) ?_ ?_
  · have := key (flatR 0 (numb 0 way)) [] (by simp; omega)
    rw [List.nil_append, flatMapF] at this
    exact this
  refine st1 (lenWay way) (st1 (r_builtR _ (by rw [List.length_map]; omega) (by rw [List.length_map]; omega)) rfl)
end
/-! ### bounds, texts -/
def WOk (k : Nat) (way : List (List Comer)) : Prop := way.length ≤ 14 ∧ manyIn way ≤ 40 + k ∧ ∀ b ∈ way, ∀ c ∈ b, c.rank < 2 ∧ c.work ≤ 6 + 6 * k
def RowsOk (k : Nat) (GG : Rows) : Prop := GG.length ≤ 14 ∧ GG.flatten.length ≤ 40 + k ∧ ∀ r ∈ GG, ∀ p ∈ r, p.1.rank < 2 ∧ p.1.work ≤ 6 + 6 * k ∧ -1 ≤ p.2 ∧ p.2 ≤ 1000
theorem numRng : ∀ (n : Nat) (b : List Comer), ∀ p ∈ numRow n b, p.1 ∈ b ∧ -1 ≤ p.2 ∧ p.2 ≤ (n + b.length : Nat)
  | _, [], p, h => by cases h
  | n, c :: b, p, h => by
    rw [numRow] at h
    rcases List.mem_cons.mp h with rfl | h
    · exact ⟨List.mem_cons_self, by show (-1 : Int) ≤ (n : Int); omega, by show (n : Int) ≤ _; rw [List.length_cons]; omega⟩
    · obtain ⟨h1, h2, h3⟩ := numRng (n + 1) b p h
      exact ⟨List.mem_cons_of_mem _ h1, h2, by rw [List.length_cons]; omega⟩
theorem numbRng : ∀ (n : Nat) (w : List (List Comer)), ∀ r ∈ numb n w, ∀ p ∈ r, (∃ b ∈ w, p.1 ∈ b) ∧ -1 ≤ p.2 ∧ p.2 ≤ (n + manyIn w : Nat)
  | _, [], r, h => by cases h
  | n, b :: w, r, h => by
    have hm : manyIn (b :: w) = b.length + manyIn w := by unfold manyIn; rw [List.map_cons, List.sum_cons]
    rw [numb] at h
    intro p hp
    rcases List.mem_cons.mp h with rfl | h
    · obtain ⟨h1, h2, h3⟩ := numRng n b p hp
      exact ⟨⟨b, List.mem_cons_self, h1⟩, h2, by rw [hm]; omega⟩
    · obtain ⟨⟨b', hb, h1⟩, h2, h3⟩ := numbRng (n + b.length) w r h p hp
      exact ⟨⟨b', List.mem_cons_of_mem _ hb, h1⟩, h2, by rw [hm]; omega⟩
theorem WOk.rows {k : Nat} {way : List (List Comer)} (h : WOk k way) (hk : k ≤ 10) : RowsOk k (numb 0 way) := by
  refine ⟨by rw [numb_len]; exact h.1, by rw [numFlat]; exact h.2.1, fun r hr p hp => ?_⟩
  obtain ⟨⟨b, hb, h1⟩, h2, h3⟩ := numbRng 0 way r hr p hp
  have h4 := h.2.2 b hb _ h1
  have := h.2.1
  exact ⟨h4.1, h4.2, h2, by omega⟩
theorem RowsOk.way {k : Nat} {GG : Rows} (h : RowsOk k GG) : WOk k (GG.map (List.map Prod.fst)) := by
  refine ⟨by rw [List.length_map]; exact h.1, ?_, fun b hb c hc => ?_⟩
  · have : ∀ GG : Rows, manyIn (GG.map (List.map Prod.fst)) = GG.flatten.length := by
      intro GG
      induction GG with
      | nil => rfl
      | cons r GG ih =>
        have hm : ∀ (b : List Comer) w, manyIn (b :: w) = b.length + manyIn w := fun b w => by unfold manyIn; rw [List.map_cons, List.sum_cons]
        rw [List.map_cons, hm, ih, List.length_map, List.flatten_cons, List.length_append]
    rw [this]
    exact h.2.1
  · obtain ⟨r, hr, rfl⟩ := List.mem_map.mp hb
    obtain ⟨p, hp, rfl⟩ := List.mem_map.mp hc
    have := h.2.2 r hr p hp
    exact ⟨this.1, this.2.1⟩
theorem RowsOk.out {k : Nat} {GG : Rows} (h : RowsOk k GG) (f : CN → Bool) : RowsOk k (outOf f GG) := by
  refine ⟨by rw [outLen]; exact h.1, Nat.le_trans (flatFilter f GG) h.2.1, fun r hr p hp => ?_⟩
  obtain ⟨r', hr', rfl⟩ := List.mem_map.mp hr
  exact h.2.2 r' hr' p (List.mem_filter.mp hp).1
theorem RowsOk.up {k : Nat} {GG : Rows} (h : RowsOk k GG) : RowsOk (k + 1) GG := ⟨h.1, by have := h.2.1; omega, fun r hr p hp => by
  obtain ⟨a, b, c, d⟩ := h.2.2 r hr p hp
  exact ⟨a, by omega, c, d⟩⟩
theorem RowsOk.long {k : Nat} {GG : Rows} (h : RowsOk k GG) (n : Int) {m : Nat} (hm : m ≤ 6) : RowsOk (k + 1) (GG.map (List.map (longOne n m))) := by
  refine ⟨by rw [List.length_map]; exact h.1, by rw [flatMapLen]; have := h.2.1; omega, fun r hr p hp => ?_⟩
  obtain ⟨r', hr', rfl⟩ := List.mem_map.mp hr
  obtain ⟨q, hq, rfl⟩ := List.mem_map.mp hp
  obtain ⟨a, b, c, d⟩ := h.2.2 r' hr' q hq
  refine ⟨a, ?_, c, d⟩
  show q.1.work + m * (if q.2 = n then 1 else 0) ≤ _
  split <;> omega
theorem RowsOk.put {k : Nat} {GG : Rows} (h : RowsOk k GG) {i : Nat} (hi : i < GG.length) {c : Comer} (c1 : c.rank < 2) (c2 : c.work ≤ 6) (place : Nat) : RowsOk (k + 1) (GG.set i (putIn (c, -1) place (GG.getD i []))) := by
  have hg : GG.getD i [] = GG[i] := by rw [List.getD_eq_getElem?_getD, List.getElem?_eq_getElem hi]; rfl
  rw [hg]
  refine ⟨by rw [List.length_set]; exact h.1, ?_, fun r hr p hp => ?_⟩
  · have := setFlat hi (putIn (c, -1) place GG[i]) rfl
    rw [putLen] at this
    have := h.2.1
    omega
  · rcases List.mem_or_eq_of_mem_set hr with hr | rfl
    · obtain ⟨a, b, c, d⟩ := h.2.2 r hr p hp
      exact ⟨a, by omega, c, d⟩
    · have hm := h.2.2 GG[i] (List.getElem_mem hi)
      unfold putIn at hp
      rcases List.mem_append.mp hp with hp | hp
      · rcases List.mem_append.mp hp with hp | hp
        · obtain ⟨a, b, c, d⟩ := hm p (List.mem_of_mem_take hp)
          exact ⟨a, by omega, c, d⟩
        · rw [List.mem_singleton.mp hp]
          exact ⟨c1, by show c.work ≤ _; omega, by show (-1 : Int) ≤ -1; decide, by show (-1 : Int) ≤ 1000; decide⟩
      · obtain ⟨a, b, c, d⟩ := hm p (List.mem_of_mem_drop hp)
        exact ⟨a, by omega, c, d⟩
theorem shC {c : Comer} (h : c.rank < 2 ∧ c.work ≤ 100) : Sh 1 30 c.d := by
  have := shNatsS (ns := [c.rank, c.work]) (fun n hn => by
    simp only [List.mem_cons, List.not_mem_nil, or_false] at hn
    rcases hn with rfl | rfl <;> omega)
  exact this.mono (Nat.le_refl _) (by simp)
theorem memManyLe {way : List (List Comer)} : ∀ {b}, b ∈ way → b.length ≤ manyIn way := by
  intro b h
  unfold manyIn
  induction way with
  | nil => cases h
  | cons x w ih =>
    rw [List.map_cons, List.sum_cons]
    rcases List.mem_cons.mp h with rfl | h
    · omega
    · have := ih h; omega
theorem WOk.sh {k : Nat} {way : List (List Comer)} (h : WOk k way) (hk : k ≤ 10) : Sh 3 22000 (wayD way) := by
  have h1 : ∀ x ∈ way.map beatD, Sh 2 1550 x := fun x hx => by
    obtain ⟨b, hb, rfl⟩ := List.mem_map.mp hx
    have h2 : ∀ x ∈ b.map Comer.d, Sh 1 30 x := fun x hx => by
      obtain ⟨c, hc, rfl⟩ := List.mem_map.mp hx
      have := h.2.2 b hb c hc
      exact shC ⟨this.1, by omega⟩
    have h3 := Sh.tup (ShAll.of h2)
    have h4 := memManyLe hb
    have h5 := h.2.1
    rw [List.length_map] at h3
    exact h3.mono (Nat.le_refl _) (by omega)
  have h6 := Sh.tup (ShAll.of h1)
  rw [List.length_map] at h6
  have := h.1
  exact h6.mono (Nat.le_refl _) (by omega)
theorem shNum {i : Int} (h : -1 ≤ i ∧ i ≤ 1000) {dp : Nat} : Sh dp 40 (.int i) := Sh.int (by omega)
theorem RowsOk.sh {k : Nat} {GG : Rows} (h : RowsOk k GG) (hk : k ≤ 10) : Sh 4 48000 (outD GG) := by
  have h1 := h.way.sh hk
  have h2 : ∀ x ∈ GG.flatten.map (fun p => PyData.int p.2), Sh 2 40 x := fun x hx => by
    obtain ⟨p, hp, rfl⟩ := List.mem_map.mp hx
    obtain ⟨r, hr, hp⟩ := List.mem_flatten.mp hp
    obtain ⟨_, _, a, b⟩ := h.2.2 r hr p hp
    exact shNum ⟨a, b⟩
  have h3 := Sh.tup (ShAll.of h2)
  rw [List.length_map] at h3
  have := h.2.1
  have h4 : ∀ x ∈ [wayD (GG.map (List.map Prod.fst)), .tuple (GG.flatten.map fun p => .int p.2)], Sh 3 22000 x := fun x hx => by
    simp only [List.mem_cons, List.not_mem_nil, or_false] at hx
    rcases hx with rfl | rfl
    · exact h1
    · exact h3.mono (Nat.le_refl _) (by omega)
  exact (Sh.tup (ShAll.of h4)).mono (Nat.le_refl _) (by show 2 * 22001 ≤ _; decide)
theorem shToldG {k : Nat} {GG : Rows} (h : RowsOk k GG) (hk : k ≤ 10) : ∃ t, reprV (toldD GG) = .ok (.str t) := by
  have h1 := h.sh hk
  have a : ShAll 4 (48001 + 100) [PyData.str "told", outD GG] := by
    have s1 : Sh 4 4 (.str ("told" : Str)) := (Sh.str (by decide +kernel)).mono (Nat.le_refl _) (by decide +kernel)
    have hh : ∀ x ∈ [PyData.str "told", outD GG], Sh 4 48000 x ∧ x.weight ≤ 48000 := fun x hx => by
      simp only [List.mem_cons, List.not_mem_nil, or_false] at hx
      rcases hx with rfl | rfl
      · exact ⟨s1.mono (Nat.le_refl _) (by decide), Nat.le_trans s1.wt (by decide)⟩
      · exact ⟨h1, h1.wt⟩
    refine ⟨by rw [PyData.showableAll, PyData.showableAll, s1.s, h1.s]; rfl, by rw [PyData.hasDictAll, PyData.hasDictAll, s1.nd, h1.nd]; rfl, ?_, by rw [PyData.leavesShortAll, PyData.leavesShortAll, s1.lv, h1.lv]; rfl, ?_⟩
    · rw [PyData.depthAll, PyData.depthAll]
      exact Nat.max_le.mpr ⟨s1.dep, Nat.max_le.mpr ⟨h1.dep, Nat.zero_le _⟩⟩
    · rw [PyData.weightAll, PyData.weightAll, PyData.weightAll]
      have := s1.wt
      have := h1.wt
      omega
  exact ⟨_, reprV_shB (Sh.tup a) (by decide) (by decide)⟩
/-! texts of plain signs -/
theorem ascJn : ∀ (xs : List PyData) (e : List Nat), (∀ x ∈ xs, ∀ c ∈ J.sh x, c < 128) → (∀ c ∈ e, c < 128) → ∀ c ∈ J.jn xs e, c < 128
  | [], e, _, he, c, h => he c h
  | [x], e, hx, he, c, h => by
    rcases List.mem_append.mp (show c ∈ J.sh x ++ e from h) with h | h
    · exact hx x List.mem_cons_self c h
    · exact he c h
  | x :: y :: r, e, hx, he, c, h => by
    rcases List.mem_append.mp (show c ∈ J.sh x ++ (44 :: 32 :: J.jn (y :: r) e) from h) with h | h
    · exact hx x List.mem_cons_self c h
    · rcases List.mem_cons.mp h with rfl | h
      · decide
      · rcases List.mem_cons.mp h with rfl | h
        · decide
        · exact ascJn (y :: r) e (fun z hz => hx z (List.mem_cons_of_mem _ hz)) he c h
theorem ascTup {xs : List PyData} (h : ∀ x ∈ xs, ∀ c ∈ J.sh x, c < 128) : ∀ c ∈ J.sh (.tuple xs), c < 128 := by
  intro c hc
  rw [J.sh_tup] at hc
  rcases List.mem_cons.mp hc with rfl | hc
  · decide
  · refine ascJn xs _ h (fun z hz => ?_) c hc
    split at hz
    · simp only [List.mem_cons, List.not_mem_nil, or_false] at hz
      rcases hz with rfl | rfl <;> decide
    · rw [List.mem_singleton.mp hz]; decide
theorem ascInt (i : Int) : ∀ c ∈ J.sh (.int i), c < 128 := asc_int i
theorem ascOut (GG : Rows) : ∀ c ∈ (outD GG).shown.cps.toList, c < 128 := by
  refine ascTup fun x hx => ?_
  simp only [List.mem_cons, List.not_mem_nil, or_false] at hx
  rcases hx with rfl | rfl
  · refine ascTup fun x hx => ?_
    obtain ⟨b, -, rfl⟩ := List.mem_map.mp hx
    refine ascTup fun x hx => ?_
    obtain ⟨c, -, rfl⟩ := List.mem_map.mp hx
    refine ascTup fun x hx => ?_
    simp only [List.mem_cons, List.not_mem_nil, or_false] at hx
    rcases hx with rfl | rfl <;> exact ascInt _
  · refine ascTup fun x hx => ?_
    obtain ⟨p, -, rfl⟩ := List.mem_map.mp hx
    exact ascInt _
theorem strOkB {x : Str} (h : ∀ c ∈ x.cps.toList, c < 128) : PyData.strOk x = true := by
  unfold PyData.strOk
  rw [← Array.all_toList]
  exact List.all_eq_true.mpr fun c hc => decide_eq_true (Nat.lt_trans (h c hc) (by decide))
theorem eqTwo {x : Str} (h : ∀ c ∈ x.cps.toList, c < 128) : Vl.eqV (.list [.str x, .str x]) (.list [.str x, .str x]) = R.ok true := by
  have c : (PyData.list [.str x, .str x]).canLay0 = true := by
    rw [PyData.canLay0, PyData.canLayAll0, PyData.canLayAll0, PyData.canLayAll0, PyData.canLay0, strOkB h]
    rfl
  have hs : SeqAt.shaped (.list [.str x, .str x]) = true := by
    show (PyData.canLay0 _ && decide (PyData.depth _ ≤ 64)) = true
    rw [c, Bool.true_and, decide_eq_true_iff, PyData.depth, PyData.depthAll, PyData.depthAll, PyData.depthAll, PyData.depth]
    decide
  rw [eqV_of hs hs, SeqAt.eqv_refl _ c]
theorem frontRight {k : Nat} {way : List (List Comer)} (h : WOk k way) (hk : k ≤ 10) : f_q_front_right (wayD way) = .ok (.bool true) := by
  have hl := h.1
  have hm := h.2.1
  have hR := (h.rows hk).out fun p => decide (p.1.rank = 0)
  have hlen := numb_len 0 way
  have e1 := reprV_shB (hR.sh hk) (by decide) (by decide)
  have e2 := reprV_shB (h.sh hk) (by decide) (by decide)
  unfold f_q_front_right
  refine st1 e2 (st1 (r_flat (by omega) (by omega)) (st1 (itemsI_eq (immFD _)) ?_))
  refine st1 (a := (flatR 0 (outOf (fun p => decide (p.1.rank = 0)) (numb 0 way))).map fD) ?_ ?_
  · rw [← flatFilt, ← filterOpt (fun q : FN => decide (q.2.1.rank = 0)) fD]
    refine fmapTo _ fun q _ => ?_
    refine st1 (ixV_t (i := 1) (z := q.2.1.d) rfl) (st1 (ixV_t (i := 0) (z := .int (q.2.1.rank : Int)) rfl) (st1 (eqV_int _ _) ?_))
    by_cases c : q.2.1.rank = 0
    · rw [decide_eq_true (show (q.2.1.rank : Int) = 0 by omega), cond_true, if_pos (decide_eq_true c)]
    · rw [decide_eq_false (show ¬ (q.2.1.rank : Int) = 0 by omega), cond_false, if_neg (by simpa using c)]
  refine st1 (lenWay way) (st1 (r_builtR _ (by rw [outLen]; omega) (by rw [outLen]; omega)) (st1 e1 (st1 (range1_n 2 (by decide)) ?_)))
  refine st1 (a := [PyData.str (outD (outOf (fun p => decide (p.1.rank = 0)) (numb 0 way))).shown, .str (outD (outOf (fun p => decide (p.1.rank = 0)) (numb 0 way))).shown]) ?_ ?_
  · exact mapTo (xs := List.range 2) (fun _ => PyData.str (outD (outOf (fun p => decide (p.1.rank = 0)) (numb 0 way))).shown) fun i _ => st1 (r_front (by omega) (by omega)) (st1 e1 rfl)
  refine st1 (eqTwo (ascOut _)) ?_
  rw [cond_true]
  refine st1 (a := true) (st1 e2 (st1 (eqV_str _ _) ?_)) rfl
  rw [decide_eq_true rfl]
/-! ### drawn deeds -/
def DeedIs (w : Str) (d : PyData) : Prop := (w = "with" ∧ ∃ (i place : Nat) (c : Comer), d = withD i place c ∧ i ≤ 10 ^ 30 ∧ place ≤ 10 ^ 30 ∧ c.rank < 2 ∧ c.work ≤ 6) ∨
  ((w = "without" ∨ w = "longer") ∧ ∃ n m : Nat, d = numD n m ∧ n ≤ 10 ^ 30 ∧ m ≤ 6)
theorem pow30 : powV (.int 10) (.int 30) = .ok (.int ((10 ^ 30 : Nat) : Int)) := by
  show (if (0 : Int) ≤ 30 ∧ (30 : Int) ≤ 1000000 ∧ (10 : Int).natAbs < 2 ^ 64 then R.ok (PyData.int ((10 : Int) ^ (30 : Int).toNat)) else .stuck) = _
  rw [if_pos (by decide)]
  rfl
theorem r_deed {way : List (List Comer)} (hl : way.length ≤ 1000) (hm : manyIn way ≤ 900) {fd : List PyData} {b : Nat} (hf : FeedL fd (b + 20)) : ∃ p : PyData × List PyData, f_q_deed fd (wayD way) = .ok p ∧ (∃ w d, p.1 = .tuple [.str w, d] ∧ DeedIs w d) ∧ FeedL p.2 b := by
  have q30 : 1000 ≤ 10 ^ 30 := by decide
  unfold f_q_deed
  obtain ⟨v, fd1, e1, hv, hf1⟩ := r_next (m := 4) (b := b + 19) hf (by decide) (by decide)
  refine ex1 e1 ?_
  have key : ∃ w : Str, ixV (.list [(.str "with"), (.str "with"), (.str "without"), (.str "longer")]) (.int (v : Int)) = .ok (.str w) ∧ ((w = "with" ∧ Vl.eqV (.str w) (.str "with") = R.ok true) ∨ ((w = "without" ∨ w = "longer") ∧ Vl.eqV (.str w) (.str "with") = R.ok false)) := by
    have : v = 0 ∨ v = 1 ∨ v = 2 ∨ v = 3 := by omega
    rcases this with rfl | rfl | rfl | rfl
    · exact ⟨_, rfl, .inl ⟨rfl, s_ww⟩⟩
    · exact ⟨_, rfl, .inl ⟨rfl, s_ww⟩⟩
    · exact ⟨_, rfl, .inr ⟨.inl rfl, s_ow⟩⟩
    · exact ⟨_, rfl, .inr ⟨.inr rfl, s_lw⟩⟩
  obtain ⟨w, ew, hw⟩ := key
  refine ex1 ew ?_
  obtain ⟨u, fd2, e2, hu, hf2⟩ := r_next (m := 12) (b := b + 18) hf1 (by decide) (by decide)
  refine ex1 e2 (ex1 (eqV_int _ _) ?_)
  rcases hw with ⟨rfl, hw⟩ | ⟨hw', hw⟩
  · refine ex1 hw ?_
    rw [cond_true]
    refine ex2 (fun q : PyData × List PyData => (∃ i : Nat, q.1 = .int (i : Int) ∧ i ≤ 10 ^ 30) ∧ FeedL q.2 (b + 17)) ?_ ?_
    · cases decide ((u : Int) = 0) with
      | true =>
        rw [cond_true]
        exact ex1 pow30 ⟨_, rfl, ⟨_, rfl, Nat.le_refl _⟩, FeedL.less hf2 (by omega)⟩
      | false =>
        rw [cond_false]
        refine ex1 (lenWay way) (ex1 (addV_int _ _) ?_)
        obtain ⟨x, fd3, e3, hx, hf3⟩ := r_next (m := (way.length : Int) + 2) (b := b + 17) hf2 (by omega) (by omega)
        exact ex1 e3 ⟨_, rfl, ⟨x, rfl, by omega⟩, hf3⟩
    rintro ⟨-, fd3⟩ ⟨⟨i, rfl, hi⟩, hf3⟩
    obtain ⟨x1, fd4, e4, h4, hf4⟩ := r_next (m := 4) (b := b + 16) hf3 (by decide) (by decide)
    refine ex1 e4 ?_
    obtain ⟨x2, fd5, e5, h5, hf5⟩ := r_next (m := 6) (b := b + 15) hf4 (by decide) (by decide)
    refine ex1 e5 (ex1 pow30 ?_)
    obtain ⟨x3, fd6, e6, h6, hf6⟩ := r_next (m := 3) (b := b + 14) hf5 (by decide) (by decide)
    refine ex1 e6 ?_
    obtain ⟨place, ep, hp⟩ : ∃ place : Nat, ixV (.list [.int (x1 : Int), .int (x2 : Int), .int ((10 ^ 30 : Nat) : Int)]) (.int (x3 : Int)) = .ok (.int (place : Int)) ∧ place ≤ 10 ^ 30 := by
      have : x3 = 0 ∨ x3 = 1 ∨ x3 = 2 := by omega
      rcases this with rfl | rfl | rfl
      · exact ⟨x1, rfl, by omega⟩
      · exact ⟨x2, rfl, by omega⟩
      · exact ⟨10 ^ 30, rfl, Nat.le_refl _⟩
    refine ex1 ep ?_
    obtain ⟨x7, fd7, e7, h7, hf7⟩ := r_next (m := 2) (b := b + 13) hf6 (by decide) (by decide)
    refine ex1 e7 ?_
    obtain ⟨x8, fd8, e8, h8, hf8⟩ := r_next (m := 6) (b := b + 12) hf7 (by decide) (by decide)
    refine ex1 e8 (ex1 (addV_int _ _) ⟨_, rfl, ⟨"with", withD i place ⟨x7, x8 + 1⟩, ?_, .inl ⟨rfl, i, place, ⟨x7, x8 + 1⟩, rfl, hi, hp, by show x7 < 2; omega, by show x8 + 1 ≤ 6; omega⟩⟩, FeedL.less hf8 (by omega)⟩)
    unfold withD Comer.d
    rw [show (1 : Int) + (x8 : Int) = ((x8 + 1 : Nat) : Int) by omega]
  · refine ex1 hw ?_
    rw [cond_false]
    refine ex2 (fun q : PyData × List PyData => (∃ i : Nat, q.1 = .int (i : Int) ∧ i ≤ 10 ^ 30) ∧ FeedL q.2 (b + 17)) ?_ ?_
    · cases decide ((u : Int) = 0) with
      | true =>
        rw [cond_true]
        exact ex1 pow30 ⟨_, rfl, ⟨_, rfl, Nat.le_refl _⟩, FeedL.less hf2 (by omega)⟩
      | false =>
        rw [cond_false]
        refine ex1 (r_flat hl hm) (ex1 (lenFlat way) (ex1 (addV_int _ _) ?_))
        obtain ⟨x, fd3, e3, hx, hf3⟩ := r_next (m := ((manyIn way : Nat) : Int) + 2) (b := b + 17) hf2 (by omega) (by omega)
        exact ex1 e3 ⟨_, rfl, ⟨x, rfl, by omega⟩, hf3⟩
    rintro ⟨-, fd3⟩ ⟨⟨i, rfl, hi⟩, hf3⟩
    obtain ⟨x1, fd4, e4, h4, hf4⟩ := r_next (m := 7) (b := b + 16) hf3 (by decide) (by decide)
    exact ex1 e4 ⟨_, rfl, ⟨w, numD i x1, rfl, .inr ⟨hw', i, x1, rfl, hi, by omega⟩⟩, FeedL.less hf4 (by omega)⟩
/-- what a deed leads to: told as due -/
def OutIs (k : Nat) (d : PyData) : Prop := d = beatN ∨ (∃ n : Nat, d = comerN n ∧ n ≤ 10 ^ 30) ∨ ∃ GG : Rows, d = toldD GG ∧ RowsOk (k + 1) GG
theorem deedRight {k : Nat} {way : List (List Comer)} (h : WOk k way) (hk : k ≤ 8) {w : Str} {d : PyData} (hd : DeedIs w d) : ∃ z, f_q_told (.str w) (wayD way) d = .ok z ∧ f_q_due (.str w) (wayD way) d = .ok z ∧ OutIs k z := by
  have hl := h.1
  have hm := h.2.1
  have hR := h.rows (by omega)
  have hlen := numb_len 0 way
  rcases hd with ⟨rfl, i, place, c, rfl, hi, hp, c1, c2⟩ | ⟨rfl | rfl, n, m, rfl, hn, hm6⟩
  · by_cases q : i < way.length
    · exact ⟨_, t_with (by omega) (by omega) q c, d_with (by omega) (by omega) q c, .inr (.inr ⟨_, rfl, hR.put (by omega) c1 c2 place⟩)⟩
    · exact ⟨_, t_with_no (by omega) c, d_with_no (by omega) (by omega) (by omega) c, .inl rfl⟩
  · by_cases q : n < manyIn way
    · exact ⟨_, t_out (by omega) (by omega) q, d_out (by omega) (by omega) q, .inr (.inr ⟨_, rfl, (hR.out _).up⟩)⟩
    · exact ⟨_, t_out_no (by omega), d_no (by omega) (by omega) s_ow (by omega), .inr (.inl ⟨n, rfl, hn⟩)⟩
  · by_cases q : n < manyIn way
    · exact ⟨_, t_long (by omega) (by omega) q, d_long (by omega) (by omega) q (by omega), .inr (.inr ⟨_, rfl, hR.long n hm6⟩)⟩
    · exact ⟨_, t_long_no (by omega), d_no (by omega) (by omega) s_lw (by omega), .inr (.inl ⟨n, rfl, hn⟩)⟩
theorem q30 : (10 : Nat) ^ 30 < 10 ^ 200 := by decide +kernel
theorem OutIs.rep {k : Nat} (hk : k ≤ 8) {z : PyData} (h : OutIs k z) : ∃ t, reprV z = .ok (.str t) := by
  rcases h with rfl | ⟨n, rfl, hn⟩ | ⟨GG, rfl, h⟩
  · exact ⟨_, (thB_ok (B := 10) (d := beatN) (dp := 1) (by decide +kernel)).repr (by decide +kernel) (by decide) (by decide +kernel)⟩
  · have q := q30
    have hn2 : (n : Int).natAbs < 10 ^ 200 := by omega
    refine ⟨_, (Th.tup (B := 10 ^ 200) (dp := 0) (ds := [.str "comer", .int (n : Int)]) fun d hd => ?_).repr (Nat.le_refl _) (by decide) ?_⟩
    · simp only [List.mem_cons, List.not_mem_nil, or_false] at hd
      rcases hd with rfl | rfl
      · exact .str (by decide +kernel)
      · exact .int hn2
    · rw [wtT, PyData.weightAll, PyData.weightAll, PyData.weightAll]
      have := wtI hn2
      have : (PyData.str "comer").weight ≤ 10 := by decide +kernel
      omega
  · exact shToldG h (by omega)
theorem reprSome {k : Nat} {way : List (List Comer)} (h : WOk k way) (hk : k ≤ 8) {w : Str} {d : PyData} (hd : DeedIs w d) : ∃ t, reprV (.tuple [wayD way, d]) = .ok (.str t) := by
  have h1 := h.sh (by omega)
  have q := q30
  have h2 : Sh 3 22000 d := by
    rcases hd with ⟨-, i, place, c, rfl, hi, hp, c1, c2⟩ | ⟨-, n, m, rfl, hn, hm6⟩
    · have hh : ∀ x ∈ [PyData.int (i : Int), .int (place : Int), c.d], Sh 1 670 x := fun x hx => by
        simp only [List.mem_cons, List.not_mem_nil, or_false] at hx
        rcases hx with rfl | rfl | rfl
        · exact Sh.intB (by omega)
        · exact Sh.intB (by omega)
        · exact (shC ⟨c1, by omega⟩).mono (Nat.le_refl _) (by decide)
      exact (Sh.tup (ShAll.of hh)).mono (by decide) (by show 3 * 671 ≤ _; decide)
    · have hh : ∀ x ∈ [PyData.int (n : Int), .int (m : Int)], Sh 1 670 x := fun x hx => by
        simp only [List.mem_cons, List.not_mem_nil, or_false] at hx
        rcases hx with rfl | rfl
        · exact Sh.intB (by omega)
        · exact Sh.intB (by omega)
      exact (Sh.tup (ShAll.of hh)).mono (by decide) (by show 2 * 671 ≤ _; decide)
  have hh : ∀ x ∈ [wayD way, d], Sh 3 22000 x := fun x hx => by
    simp only [List.mem_cons, List.not_mem_nil, or_false] at hx
    rcases hx with rfl | rfl
    · exact h1
    · exact h2
  exact ⟨_, reprV_shB (Sh.tup (ShAll.of hh)) (by decide) (show 2 * 22001 ≤ 70000 by decide)⟩
theorem loopEx {α σ ρ : Type} {f : α → σ → R (Ctl σ ρ)} {xs : List α} {s0 : σ} (P : Nat → σ → Prop) (h0 : P 0 s0) (h : ∀ i x s, xs[i]? = some x → P i s → ∃ p, f x s = .ok p ∧ ∃ s', p = .go s' ∧ P (i + 1) s') : ∃ c, loopR xs s0 f = .ok c ∧ ∃ s, c = .inl s ∧ P xs.length s := by
  obtain ⟨s, e, q⟩ := loopR_inv (f := f) xs P s0 h0 fun i x s hx hp => by
    obtain ⟨p, e, s', rfl, h2⟩ := h i x s hx hp
    exact ⟨s', e, h2⟩
  exact ⟨_, e, s, rfl, q⟩
theorem ne_self (t : Str) : Vl.neV (.str t) (.str t) = R.ok false := by rw [neV_str, decide_eq_true rfl]; rfl
theorem law_true (ns : List Int) (hn : ns.length ≤ 63) : f_law (ns.map PyData.int) = .ok (.bool true) := by
  obtain ⟨fd0, e0, hf0⟩ := r_feed hn
  unfold f_law
  refine st1 e0 ?_
  refine st1 (range1_n 4 (by decide)) ?_
  refine st2 (P := fun c : Sum (List PyData) PyData => ∃ s, c = .inl s) ?_ (by rintro _ ⟨s, rfl⟩; rfl)
  refine Exists.imp (fun c h => ⟨h.1, h.2.imp fun s q => q.1⟩) (loopEx (fun i s => FeedL s (1000000 - 1000 * i)) hf0 fun i x s hx hs => ?_)
  obtain ⟨hi, -⟩ := rangeGet hx
  obtain ⟨b, hb⟩ : ∃ b, 1000000 - 1000 * i = b + 1000 ∧ b = 1000000 - 1000 * (i + 1) := ⟨_, by omega, rfl⟩
  rw [← hb.2]
  rw [hb.1] at hs
  clear hb hx
  obtain ⟨v, fd1, e1, hv, hf1⟩ := r_next (m := 3) (b := b + 999) hs (by decide) (by decide)
  refine ex1 e1 ?_
  obtain ⟨n, en, hn24⟩ : ∃ n : Nat, ixV (.list [(.int 3), (.int 8), (.int 14)]) (.int (v : Int)) = .ok (.int (n : Int)) ∧ n ≤ 14 := by
    have : v = 0 ∨ v = 1 ∨ v = 2 := by omega
    rcases this with rfl | rfl | rfl
    · exact ⟨3, rfl, by decide⟩
    · exact ⟨8, rfl, by decide⟩
    · exact ⟨14, rfl, by decide⟩
  refine ex1 en ?_
  obtain ⟨way, fd2, e2, hW, hwl, hwm, -, hf2⟩ := r_way (b := b + 700) (beats := n) (works := 6) (FeedL.less hf1 (by omega)) (by omega) (by decide) (by decide)
  refine ex1 e2 ?_
  refine ex1 (range1_n 2 (by decide)) ?_
  have hW0 : WOk 0 way := ⟨by omega, by omega, fun x hx c hc => by
    exact ⟨hW.rk x hx c hc, hW.wm x hx c hc⟩⟩
  refine ex2 (fun c : Sum (List PyData × PyData) PyData => ∃ s, c = .inl s ∧ ∃ w : List (List Comer), s.2 = wayD w ∧ WOk 2 w ∧ FeedL s.1 b) ?_ ?_
  · refine Exists.imp (fun c h => ⟨h.1, h.2.imp fun s q => ⟨q.1, q.2.imp fun w z => ⟨z.1, by simpa using z.2.1, FeedL.less z.2.2 (by simp)⟩⟩⟩) (loopEx (fun i (s : List PyData × PyData) => ∃ w : List (List Comer), s.2 = wayD w ∧ WOk i w ∧ FeedL s.1 (b + 700 - 100 * i)) ⟨way, rfl, hW0, hf2⟩ fun i x s hx ⟨w, h1, h2, h3⟩ => ?_)
    · obtain ⟨hi2, -⟩ := rangeGet hx
      obtain ⟨fd, d⟩ := s
      have h1 : d = wayD w := h1
      subst h1
      have h3 : FeedL fd (b + 700 - 100 * i) := h3
      have hl := h2.1
      have hm := h2.2.1
      refine ex2 _ (r_deed (by omega) (by omega) (b := b + 700 - 100 * (i + 1)) (FeedL.less h3 (by omega))) ?_
      rintro ⟨-, fd3⟩ ⟨⟨wd, some, rfl, hd⟩, hf3⟩
      refine ex1 (unpk2_t _ _) ?_
      obtain ⟨t, et⟩ := reprSome h2 (by omega) hd
      refine ex1 et ?_
      obtain ⟨z, ez1, ez2, hz⟩ := deedRight h2 (by omega) hd
      refine ex1 ez2 (ex1 (range1_n 2 (by decide)) ?_)
      obtain ⟨tz, etz⟩ := hz.rep (by omega)
      refine ex1 (a := .inl ()) (loopTo (fun _ => ()) rfl rfl fun j y hy => ?_) ?_
      · refine st1 ez1 (st1 etz (st1 etz (st1 (ne_self tz) (st1 (a := false) ?_ rfl))))
        rw [cond_false]
        exact st1 et (st1 (ne_self t) rfl)
      · refine ex1 (frontRight h2 (by omega)) (ex1 (asB_b _) ?_)
        rw [Bool.not_true, cond_false]
        have s_bt : Vl.eqV (.str "beat") (.str "told") = R.ok false := by rw [eqV_str]; exact congrArg R.ok (by decide +kernel)
        have s_ct : Vl.eqV (.str "comer") (.str "told") = R.ok false := by rw [eqV_str]; exact congrArg R.ok (by decide +kernel)
        have s_tt : Vl.eqV (.str "told") (.str "told") = R.ok true := by rw [eqV_str, decide_eq_true rfl]
        rcases hz with rfl | ⟨n, rfl, hn⟩ | ⟨GG, rfl, hG⟩
        · exact ex1 (ixV_t (i := 0) (z := .str "beat") rfl) (ex1 s_bt (ex1 (a := wayD w) rfl ⟨_, rfl, _, rfl, w, rfl, ⟨hl, by omega, fun x hx c hc => by have := h2.2.2 x hx c hc; omega⟩, hf3⟩))
        · exact ex1 (ixV_t (i := 0) (z := .str "comer") rfl) (ex1 s_ct (ex1 (a := wayD w) rfl ⟨_, rfl, _, rfl, w, rfl, ⟨hl, by omega, fun x hx c hc => by have := h2.2.2 x hx c hc; omega⟩, hf3⟩))
        · refine ex1 (ixV_t (i := 0) (z := .str "told") rfl) (ex1 s_tt ?_)
          rw [cond_true]
          exact ex1 (a := wayD (GG.map (List.map Prod.fst))) (st1 (ixV_t (i := 1) (z := outD GG) rfl) (st1 (ixV_t (i := 0) (z := wayD (GG.map (List.map Prod.fst))) rfl) rfl)) ⟨_, rfl, _, rfl, _, rfl, hG.way, hf3⟩
  rintro - ⟨⟨fd3, d⟩, rfl, w, h1, h2, h3⟩
  have h1 : d = wayD w := h1
  subst h1
  refine ex1 (frontRight h2 (by omega)) (ex1 (asB_b _) ?_)
  exact ⟨_, rfl, _, rfl, h3⟩

end Hw
namespace Hw
open PySem PySem.Spec PyProof.Rows L2 Vl
def topS (i : Nat) : Stmt := PySem.Challenge.pw_hatchwaits_k26_ways_changed.main.body.getD i (.Pass ⟨0, 0, 0, 0⟩)
abbrev s_p_numbered : Stmt := topS 11
abbrev N_p_numbered : List Str := ["way", "rows", "number", "beat", "place", "comer"]
abbrev s_p_way_of : Stmt := topS 12
abbrev N_p_way_of : List Str := ["rows", "numbers", "row", "comer", "number"]
abbrev s_p_ask_number : Stmt := topS 13
abbrev N_p_ask_number : List Str := ["way", "number", "beat"]
abbrev s_p_with_comer : Stmt := topS 14
abbrev N_p_with_comer : List Str := ["way", "beat", "place", "comer", "rows"]
abbrev s_p_without : Stmt := topS 15
abbrev N_p_without : List Str := ["way", "number", "one", "row"]
abbrev s_p_longer : Stmt := topS 16
abbrev N_p_longer : List Str := ["way", "number", "more", "rows", "row", "told", "rank", "work", "own"]
abbrev s_p_front_alone : Stmt := topS 17
abbrev N_p_front_alone : List Str := ["way", "one", "row"]
abbrev s_q_feed : Stmt := topS 19
abbrev N_q_feed : List Str := ["_law_script"]
abbrev s_q_next : Stmt := topS 20
abbrev N_q_next : List Str := ["_law_feed_here", "_law_many", "_law_digit", "_law_at", "_law_cell", "_law_first"]
abbrev s_q_way : Stmt := topS 21
abbrev N_q_way : List Str := ["_law_feed_here", "_law_beats", "_law_works", "_law_way_here", "_law_many", "_law_k", "_law_beat", "_law_j"]
abbrev s_q_flat : Stmt := topS 22
abbrev N_q_flat : List Str := ["_law_way_here", "_law_rows", "_law_at", "_law_comer"]
abbrev s_q_built : Stmt := topS 23
abbrev N_q_built : List Str := ["_law_rows", "_law_many", "_law_beats", "_law_at", "_law_comer", "_law_number", "_law_beat"]
abbrev s_q_told : Stmt := topS 24
abbrev N_q_told : List Str := ["_law_deed_here", "_law_way_here", "_law_some", "_law_told_here", "e", "_law_others"]
abbrev s_q_due : Stmt := topS 25
abbrev N_q_due : List Str := ["_law_deed_here", "_law_way_here", "_law_some", "_law_rows", "_law_beat", "_law_place", "_law_comer", "_law_ahead", "_law_row", "_law_more", "_law_at", "_law_number"]
abbrev s_q_deed : Stmt := topS 26
abbrev N_q_deed : List Str := ["_law_feed_here", "_law_way_here", "_law_deed_here", "_law_far", "_law_beat", "_law_place", "_law_number"]
abbrev s_q_front_right : Stmt := topS 27
abbrev N_q_front_right : List Str := ["_law_way_here", "_law_kept", "_law_due_here", "_law_row", "_law_once"]
abbrev s_law : Stmt := topS 28
abbrev N_law : List Str := ["_law_script", "_law_feed_here", "_law_turn", "_law_way_here", "_law_again", "_law_deed_here", "_law_some", "_law_kept", "_law_due_here", "_law_once"]
abbrev s_p_NoComer___init__ : Stmt := inClass (topS 6) 0
abbrev N_p_NoComer___init__ : List Str := ["self", "number"]
abbrev s_p_NoBeat___init__ : Stmt := inClass (topS 7) 0
abbrev N_p_NoBeat___init__ : List Str := ["self"]
structure Txt (K : PySem.W.Frag) (mg : Str → Option Value) where
  f_p_numbered : Addr
  fd_p_numbered : FuncData
  F_p_numbered : Fun K "numbered" "numbered" s_p_numbered f_p_numbered fd_p_numbered
  m_p_numbered : mg "numbered" = some (.ref f_p_numbered)
  b_p_numbered : Binds K fd_p_numbered ["way"] []
  f_p_way_of : Addr
  fd_p_way_of : FuncData
  F_p_way_of : Fun K "way_of" "way_of" s_p_way_of f_p_way_of fd_p_way_of
  m_p_way_of : mg "way_of" = some (.ref f_p_way_of)
  b_p_way_of : Binds K fd_p_way_of ["rows"] []
  f_p_ask_number : Addr
  fd_p_ask_number : FuncData
  F_p_ask_number : Fun K "ask_number" "ask_number" s_p_ask_number f_p_ask_number fd_p_ask_number
  m_p_ask_number : mg "ask_number" = some (.ref f_p_ask_number)
  b_p_ask_number : Binds K fd_p_ask_number ["way", "number"] []
  f_p_with_comer : Addr
  fd_p_with_comer : FuncData
  F_p_with_comer : Fun K "with_comer" "with_comer" s_p_with_comer f_p_with_comer fd_p_with_comer
  m_p_with_comer : mg "with_comer" = some (.ref f_p_with_comer)
  b_p_with_comer : Binds K fd_p_with_comer ["way", "beat", "place", "comer"] []
  f_p_without : Addr
  fd_p_without : FuncData
  F_p_without : Fun K "without" "without" s_p_without f_p_without fd_p_without
  m_p_without : mg "without" = some (.ref f_p_without)
  b_p_without : Binds K fd_p_without ["way", "number"] []
  f_p_longer : Addr
  fd_p_longer : FuncData
  F_p_longer : Fun K "longer" "longer" s_p_longer f_p_longer fd_p_longer
  m_p_longer : mg "longer" = some (.ref f_p_longer)
  b_p_longer : Binds K fd_p_longer ["way", "number", "more"] []
  f_p_front_alone : Addr
  fd_p_front_alone : FuncData
  F_p_front_alone : Fun K "front_alone" "front_alone" s_p_front_alone f_p_front_alone fd_p_front_alone
  m_p_front_alone : mg "front_alone" = some (.ref f_p_front_alone)
  b_p_front_alone : Binds K fd_p_front_alone ["way"] []
  f_q_feed : Addr
  fd_q_feed : FuncData
  F_q_feed : Fun K "_law_feed" "_law_feed" s_q_feed f_q_feed fd_q_feed
  m_q_feed : mg "_law_feed" = some (.ref f_q_feed)
  b_q_feed : Binds K fd_q_feed ["_law_script"] []
  f_q_next : Addr
  fd_q_next : FuncData
  F_q_next : Fun K "_law_next" "_law_next" s_q_next f_q_next fd_q_next
  m_q_next : mg "_law_next" = some (.ref f_q_next)
  b_q_next : Binds K fd_q_next ["_law_feed_here", "_law_many"] []
  f_q_way : Addr
  fd_q_way : FuncData
  F_q_way : Fun K "_law_way" "_law_way" s_q_way f_q_way fd_q_way
  m_q_way : mg "_law_way" = some (.ref f_q_way)
  b_q_way : Binds K fd_q_way ["_law_feed_here", "_law_beats", "_law_works"] []
  f_q_flat : Addr
  fd_q_flat : FuncData
  F_q_flat : Fun K "_law_flat" "_law_flat" s_q_flat f_q_flat fd_q_flat
  m_q_flat : mg "_law_flat" = some (.ref f_q_flat)
  b_q_flat : Binds K fd_q_flat ["_law_way_here"] []
  f_q_built : Addr
  fd_q_built : FuncData
  F_q_built : Fun K "_law_built" "_law_built" s_q_built f_q_built fd_q_built
  m_q_built : mg "_law_built" = some (.ref f_q_built)
  b_q_built : Binds K fd_q_built ["_law_rows", "_law_many"] []
  f_q_told : Addr
  fd_q_told : FuncData
  F_q_told : Fun K "_law_told" "_law_told" s_q_told f_q_told fd_q_told
  m_q_told : mg "_law_told" = some (.ref f_q_told)
  b_q_told : Binds K fd_q_told ["_law_deed_here", "_law_way_here", "_law_some"] []
  f_q_due : Addr
  fd_q_due : FuncData
  F_q_due : Fun K "_law_due" "_law_due" s_q_due f_q_due fd_q_due
  m_q_due : mg "_law_due" = some (.ref f_q_due)
  b_q_due : Binds K fd_q_due ["_law_deed_here", "_law_way_here", "_law_some"] []
  f_q_deed : Addr
  fd_q_deed : FuncData
  F_q_deed : Fun K "_law_deed" "_law_deed" s_q_deed f_q_deed fd_q_deed
  m_q_deed : mg "_law_deed" = some (.ref f_q_deed)
  b_q_deed : Binds K fd_q_deed ["_law_feed_here", "_law_way_here"] []
  f_q_front_right : Addr
  fd_q_front_right : FuncData
  F_q_front_right : Fun K "_law_front_right" "_law_front_right" s_q_front_right f_q_front_right fd_q_front_right
  m_q_front_right : mg "_law_front_right" = some (.ref f_q_front_right)
  b_q_front_right : Binds K fd_q_front_right ["_law_way_here"] []
  f_law : Addr
  fd_law : FuncData
  F_law : Fun K "law" "law" s_law f_law fd_law
  m_law : mg "law" = some (.ref f_law)
  b_law : Binds K fd_law ["_law_script"] []
  z_enumerate : mg "enumerate" = none
  z_len : mg "len" = none
  z_tuple : mg "tuple" = none
  z_sum : mg "sum" = none
  z_list : mg "list" = none
  z_range : mg "range" = none
  z_isinstance : mg "isinstance" = none
  z_ValueError : mg "ValueError" = none
  z_min : mg "min" = none
  z_int : mg "int" = none
  z_repr : mg "repr" = none
  C_NoComer : Addr
  mC_NoComer : mg "NoComer" = some (.ref C_NoComer)
  C_NoBeat : Addr
  mC_NoBeat : mg "NoBeat" = some (.ref C_NoBeat)
  C_WaitError : Addr
  mC_WaitError : mg "WaitError" = some (.ref C_WaitError)
  C_NoHouse : Addr
  mC_NoHouse : mg "NoHouse" = some (.ref C_NoHouse)
  C_NoPaper : Addr
  mC_NoPaper : mg "NoPaper" = some (.ref C_NoPaper)
  C_NoRest : Addr
  mC_NoRest : mg "NoRest" = some (.ref C_NoRest)
  C_NoRow : Addr
  mC_NoRow : mg "NoRow" = some (.ref C_NoRow)
  C_NoText : Addr
  mC_NoText : mg "NoText" = some (.ref C_NoText)
  C_TooMany : Addr
  mC_TooMany : mg "TooMany" = some (.ref C_TooMany)
  ic_NoHouse : PySem.W.isClsIn K C_NoHouse = true
  tc_NoHouse : PySem.W.typeIn K (.ref C_NoHouse) = some (.type "type")
  bc_NoHouse : PySem.W.subIn K (.ref C_NoHouse) (.type "BaseException") = some true
  ic_NoPaper : PySem.W.isClsIn K C_NoPaper = true
  tc_NoPaper : PySem.W.typeIn K (.ref C_NoPaper) = some (.type "type")
  bc_NoPaper : PySem.W.subIn K (.ref C_NoPaper) (.type "BaseException") = some true
  ic_NoRest : PySem.W.isClsIn K C_NoRest = true
  tc_NoRest : PySem.W.typeIn K (.ref C_NoRest) = some (.type "type")
  bc_NoRest : PySem.W.subIn K (.ref C_NoRest) (.type "BaseException") = some true
  ic_NoRow : PySem.W.isClsIn K C_NoRow = true
  tc_NoRow : PySem.W.typeIn K (.ref C_NoRow) = some (.type "type")
  bc_NoRow : PySem.W.subIn K (.ref C_NoRow) (.type "BaseException") = some true
  ic_NoText : PySem.W.isClsIn K C_NoText = true
  tc_NoText : PySem.W.typeIn K (.ref C_NoText) = some (.type "type")
  bc_NoText : PySem.W.subIn K (.ref C_NoText) (.type "BaseException") = some true
  ic_TooMany : PySem.W.isClsIn K C_TooMany = true
  tc_TooMany : PySem.W.typeIn K (.ref C_TooMany) = some (.type "type")
  bc_TooMany : PySem.W.subIn K (.ref C_TooMany) (.type "BaseException") = some true
  ic_NoBeat : PySem.W.isClsIn K C_NoBeat = true
  tc_NoBeat : PySem.W.typeIn K (.ref C_NoBeat) = some (.type "type")
  bc_NoBeat : PySem.W.subIn K (.ref C_NoBeat) (.type "BaseException") = some true
  ic_NoComer : PySem.W.isClsIn K C_NoComer = true
  tc_NoComer : PySem.W.typeIn K (.ref C_NoComer) = some (.type "type")
  bc_NoComer : PySem.W.subIn K (.ref C_NoComer) (.type "BaseException") = some true
  ic_WaitError : PySem.W.isClsIn K C_WaitError = true
  tc_WaitError : PySem.W.typeIn K (.ref C_WaitError) = some (.type "type")
  bc_WaitError : PySem.W.subIn K (.ref C_WaitError) (.type "BaseException") = some true
  rd_WaitError : ClX.CRead K C_WaitError (.type "type")
  at_WaitError : PySem.W.findCls K (.ref C_WaitError) (.type "type") "__init__" = some (.val (.builtin "ValueError.__init__"))
  f_p_NoComer___init__ : Addr
  fd_p_NoComer___init__ : FuncData
  F_p_NoComer___init__ : Fun K "__init__" "NoComer.__init__" s_p_NoComer___init__ f_p_NoComer___init__ fd_p_NoComer___init__
  b_p_NoComer___init__ : Binds K fd_p_NoComer___init__ ["self", "number"] []
  oex_NoComer : OexC K C_NoComer
  ini_NoComer : PySem.W.findIn K (.ref C_NoComer) "__init__" = some (some (.ref f_p_NoComer___init__))
  tyI_NoComer : PySem.W.typeIn K (.ref f_p_NoComer___init__) = some (.type "function")
  nf_NoComer : ∀ f ∈ (["number"] : List Str), PySem.W.findIn K (.ref C_NoComer) f = some none
  xc_NoComer : XCls K C_NoComer
  xf_NoComer : XfC K C_NoComer
  su_NoComer_NoComer : PySem.W.subIn K (.ref C_NoComer) (.ref C_NoComer) = some true
  su_NoComer_NoHouse : PySem.W.subIn K (.ref C_NoComer) (.ref C_NoHouse) = some false
  su_NoComer_NoPaper : PySem.W.subIn K (.ref C_NoComer) (.ref C_NoPaper) = some false
  su_NoComer_NoRest : PySem.W.subIn K (.ref C_NoComer) (.ref C_NoRest) = some false
  su_NoComer_NoRow : PySem.W.subIn K (.ref C_NoComer) (.ref C_NoRow) = some false
  su_NoComer_NoText : PySem.W.subIn K (.ref C_NoComer) (.ref C_NoText) = some false
  su_NoComer_TooMany : PySem.W.subIn K (.ref C_NoComer) (.ref C_TooMany) = some false
  su_NoComer_NoBeat : PySem.W.subIn K (.ref C_NoComer) (.ref C_NoBeat) = some false
  su_NoComer_WaitError : PySem.W.subIn K (.ref C_NoComer) (.ref C_WaitError) = some true
  kit_NoComer_NoHouse : PySem.W.kitOne K (.ref C_NoComer) (.ref C_NoHouse) = some false
  kit_NoComer_NoPaper : PySem.W.kitOne K (.ref C_NoComer) (.ref C_NoPaper) = some false
  kit_NoComer_NoRest : PySem.W.kitOne K (.ref C_NoComer) (.ref C_NoRest) = some false
  kit_NoComer_NoRow : PySem.W.kitOne K (.ref C_NoComer) (.ref C_NoRow) = some false
  kit_NoComer_NoText : PySem.W.kitOne K (.ref C_NoComer) (.ref C_NoText) = some false
  kit_NoComer_TooMany : PySem.W.kitOne K (.ref C_NoComer) (.ref C_TooMany) = some false
  kit_NoComer_NoBeat : PySem.W.kitOne K (.ref C_NoComer) (.ref C_NoBeat) = some false
  kit_NoComer_NoComer : PySem.W.kitOne K (.ref C_NoComer) (.ref C_NoComer) = some true
  exm_NoComer_WaitError : PySem.W.exmOne K (.ref C_NoComer) (.ref C_WaitError) = some true
  kit_NoComer_ValueError : PySem.W.kitOne K (.ref C_NoComer) (.type "ValueError") = some true
  f_p_NoBeat___init__ : Addr
  fd_p_NoBeat___init__ : FuncData
  F_p_NoBeat___init__ : Fun K "__init__" "NoBeat.__init__" s_p_NoBeat___init__ f_p_NoBeat___init__ fd_p_NoBeat___init__
  b_p_NoBeat___init__ : Binds K fd_p_NoBeat___init__ ["self"] []
  oex_NoBeat : OexC K C_NoBeat
  ini_NoBeat : PySem.W.findIn K (.ref C_NoBeat) "__init__" = some (some (.ref f_p_NoBeat___init__))
  tyI_NoBeat : PySem.W.typeIn K (.ref f_p_NoBeat___init__) = some (.type "function")
  nf_NoBeat : ∀ f ∈ ([] : List Str), PySem.W.findIn K (.ref C_NoBeat) f = some none
  xc_NoBeat : XCls K C_NoBeat
  xf_NoBeat : XfC K C_NoBeat
  su_NoBeat_NoBeat : PySem.W.subIn K (.ref C_NoBeat) (.ref C_NoBeat) = some true
  su_NoBeat_NoHouse : PySem.W.subIn K (.ref C_NoBeat) (.ref C_NoHouse) = some false
  su_NoBeat_NoPaper : PySem.W.subIn K (.ref C_NoBeat) (.ref C_NoPaper) = some false
  su_NoBeat_NoRest : PySem.W.subIn K (.ref C_NoBeat) (.ref C_NoRest) = some false
  su_NoBeat_NoRow : PySem.W.subIn K (.ref C_NoBeat) (.ref C_NoRow) = some false
  su_NoBeat_NoText : PySem.W.subIn K (.ref C_NoBeat) (.ref C_NoText) = some false
  su_NoBeat_TooMany : PySem.W.subIn K (.ref C_NoBeat) (.ref C_TooMany) = some false
  su_NoBeat_NoComer : PySem.W.subIn K (.ref C_NoBeat) (.ref C_NoComer) = some false
  su_NoBeat_WaitError : PySem.W.subIn K (.ref C_NoBeat) (.ref C_WaitError) = some true
  kit_NoBeat_NoHouse : PySem.W.kitOne K (.ref C_NoBeat) (.ref C_NoHouse) = some false
  kit_NoBeat_NoPaper : PySem.W.kitOne K (.ref C_NoBeat) (.ref C_NoPaper) = some false
  kit_NoBeat_NoRest : PySem.W.kitOne K (.ref C_NoBeat) (.ref C_NoRest) = some false
  kit_NoBeat_NoRow : PySem.W.kitOne K (.ref C_NoBeat) (.ref C_NoRow) = some false
  kit_NoBeat_NoText : PySem.W.kitOne K (.ref C_NoBeat) (.ref C_NoText) = some false
  kit_NoBeat_TooMany : PySem.W.kitOne K (.ref C_NoBeat) (.ref C_TooMany) = some false
  kit_NoBeat_NoBeat : PySem.W.kitOne K (.ref C_NoBeat) (.ref C_NoBeat) = some true
  kit_NoBeat_NoComer : PySem.W.kitOne K (.ref C_NoBeat) (.ref C_NoComer) = some false
  exm_NoBeat_WaitError : PySem.W.exmOne K (.ref C_NoBeat) (.ref C_WaitError) = some true
  kit_NoBeat_ValueError : PySem.W.kitOne K (.ref C_NoBeat) (.type "ValueError") = some true
section
variable {K : PySem.W.Frag} {mg : Str → Option Value}
def cmX (T : Txt K mg) : Str → Option Addr := fun s => if s = "NoComer" then some T.C_NoComer else if s = "NoBeat" then some T.C_NoBeat else none
theorem cm_NoComer (T : Txt K mg) : cmX T "NoComer" = some T.C_NoComer := by
  unfold cmX
  exact if_pos rfl
theorem cm_NoBeat (T : Txt K mg) : cmX T "NoBeat" = some T.C_NoBeat := by
  unfold cmX
  rw [if_neg (by decide +kernel : ¬ (("NoBeat" : Str) = "NoComer"))]
  exact if_pos rfl
theorem cm_cases (T : Txt K mg) {s : Str} {D : Addr} (h : cmX T s = some D) : (s = "NoComer" ∧ D = T.C_NoComer) ∨ (s = "NoBeat" ∧ D = T.C_NoBeat) := by
  unfold cmX at h
  by_cases c0 : s = "NoComer"
  · rw [if_pos c0] at h
    exact .inl ⟨c0, (Option.some.inj h).symm⟩
  rw [if_neg c0] at h
  by_cases c1 : s = "NoBeat"
  · rw [if_pos c1] at h
    exact .inr ⟨c1, (Option.some.inj h).symm⟩
  rw [if_neg c1] at h
  cases h
theorem xcls (T : Txt K mg) {s : Str} {D : Addr} (h : cmX T s = some D) : XCls K D := by
  rcases cm_cases T h with ⟨rfl, rfl⟩ | ⟨rfl, rfl⟩
  · exact T.xc_NoComer
  · exact T.xc_NoBeat
theorem xkit_NoHouse (T : Txt K mg) {s : Str} {D : Addr} (h : cmX T s = some D) : PySem.W.kitOne K (.ref D) (.ref T.C_NoHouse) = some (isE s "NoHouse") := by
  rcases cm_cases T h with ⟨rfl, rfl⟩ | ⟨rfl, rfl⟩
  · rw [T.kit_NoComer_NoHouse]; decide +kernel
  · rw [T.kit_NoBeat_NoHouse]; decide +kernel
theorem xkit_NoPaper (T : Txt K mg) {s : Str} {D : Addr} (h : cmX T s = some D) : PySem.W.kitOne K (.ref D) (.ref T.C_NoPaper) = some (isE s "NoPaper") := by
  rcases cm_cases T h with ⟨rfl, rfl⟩ | ⟨rfl, rfl⟩
  · rw [T.kit_NoComer_NoPaper]; decide +kernel
  · rw [T.kit_NoBeat_NoPaper]; decide +kernel
theorem xkit_NoRest (T : Txt K mg) {s : Str} {D : Addr} (h : cmX T s = some D) : PySem.W.kitOne K (.ref D) (.ref T.C_NoRest) = some (isE s "NoRest") := by
  rcases cm_cases T h with ⟨rfl, rfl⟩ | ⟨rfl, rfl⟩
  · rw [T.kit_NoComer_NoRest]; decide +kernel
  · rw [T.kit_NoBeat_NoRest]; decide +kernel
theorem xkit_NoRow (T : Txt K mg) {s : Str} {D : Addr} (h : cmX T s = some D) : PySem.W.kitOne K (.ref D) (.ref T.C_NoRow) = some (isE s "NoRow") := by
  rcases cm_cases T h with ⟨rfl, rfl⟩ | ⟨rfl, rfl⟩
  · rw [T.kit_NoComer_NoRow]; decide +kernel
  · rw [T.kit_NoBeat_NoRow]; decide +kernel
theorem xkit_NoText (T : Txt K mg) {s : Str} {D : Addr} (h : cmX T s = some D) : PySem.W.kitOne K (.ref D) (.ref T.C_NoText) = some (isE s "NoText") := by
  rcases cm_cases T h with ⟨rfl, rfl⟩ | ⟨rfl, rfl⟩
  · rw [T.kit_NoComer_NoText]; decide +kernel
  · rw [T.kit_NoBeat_NoText]; decide +kernel
theorem xkit_TooMany (T : Txt K mg) {s : Str} {D : Addr} (h : cmX T s = some D) : PySem.W.kitOne K (.ref D) (.ref T.C_TooMany) = some (isE s "TooMany") := by
  rcases cm_cases T h with ⟨rfl, rfl⟩ | ⟨rfl, rfl⟩
  · rw [T.kit_NoComer_TooMany]; decide +kernel
  · rw [T.kit_NoBeat_TooMany]; decide +kernel
theorem xkit_NoBeat (T : Txt K mg) {s : Str} {D : Addr} (h : cmX T s = some D) : PySem.W.kitOne K (.ref D) (.ref T.C_NoBeat) = some (isE s "NoBeat") := by
  rcases cm_cases T h with ⟨rfl, rfl⟩ | ⟨rfl, rfl⟩
  · rw [T.kit_NoComer_NoBeat]; decide +kernel
  · rw [T.kit_NoBeat_NoBeat]; decide +kernel
theorem xkit_NoComer (T : Txt K mg) {s : Str} {D : Addr} (h : cmX T s = some D) : PySem.W.kitOne K (.ref D) (.ref T.C_NoComer) = some (isE s "NoComer") := by
  rcases cm_cases T h with ⟨rfl, rfl⟩ | ⟨rfl, rfl⟩
  · rw [T.kit_NoComer_NoComer]; decide +kernel
  · rw [T.kit_NoBeat_NoComer]; decide +kernel
theorem xkit_ValueError (T : Txt K mg) {s : Str} {D : Addr} (h : cmX T s = some D) : PySem.W.kitOne K (.ref D) (.type "ValueError") = some (isE s "ValueError") := by
  rcases cm_cases T h with ⟨rfl, rfl⟩ | ⟨rfl, rfl⟩
  · rw [T.kit_NoComer_ValueError]; decide +kernel
  · rw [T.kit_NoBeat_ValueError]; decide +kernel
theorem xexm_WaitError (T : Txt K mg) {s : Str} {D : Addr} (h : cmX T s = some D) : PySem.W.exmOne K (.ref D) (.ref T.C_WaitError) = some (isE s "WaitError") := by
  rcases cm_cases T h with ⟨rfl, rfl⟩ | ⟨rfl, rfl⟩
  · rw [T.exm_NoComer_WaitError]; decide +kernel
  · rw [T.exm_NoBeat_WaitError]; decide +kernel
theorem xinj_NoComer (T : Txt K mg) {s : Str} {D : Addr} (h : cmX T s = some D) (e : s = "NoComer") : D = T.C_NoComer := by
  subst e
  rw [cm_NoComer] at h
  exact (Option.some.inj h).symm
theorem xinj_NoBeat (T : Txt K mg) {s : Str} {D : Addr} (h : cmX T s = some D) (e : s = "NoBeat") : D = T.C_NoBeat := by
  subst e
  rw [cm_NoBeat] at h
  exact (Option.some.inj h).symm
end
abbrev sp_law (K : PySem.W.Frag) : Sp := lawSp K
section
variable {P : Program} {w : World} {K : PySem.W.Frag} {mg : Str → Option Value} {base : Heap}
theorem sc_p_NoComer___init__ : FnScope N_p_NoComer___init__ ["self", "number"] (defScope s_p_NoComer___init__) := ⟨rfl, rfl, rfl, by decide +kernel, rfl, by decide +kernel, by decide +kernel⟩
theorem ok_p_NoComer___init__ (T : Txt K mg) : FnOk P w K mg base CX0 1 T.f_p_NoComer___init__ T.fd_p_NoComer___init__ ["self", "number"] (spI K T.C_NoComer ["number"]) := by
  refine T.F_p_NoComer___init__.ok sc_p_NoComer___init__ (spI_len rfl) (fun cdv A out s H vs Q E hr h => ?_)
  exact ⟨_, (pss_cons (ps_expr (pe_weinit (by rfl) T.mC_WaitError T.rd_WaitError T.at_WaitError (pa_cons (pv 0) (pa_cons pe_str pa_nil)))) (pss_one (ps_ost (pv 0) (pv 1)))), init1 rfl h⟩
theorem sc_p_NoBeat___init__ : FnScope N_p_NoBeat___init__ ["self"] (defScope s_p_NoBeat___init__) := ⟨rfl, rfl, rfl, by decide +kernel, rfl, by decide +kernel, by decide +kernel⟩
theorem ok_p_NoBeat___init__ (T : Txt K mg) : FnOk P w K mg base CX0 1 T.f_p_NoBeat___init__ T.fd_p_NoBeat___init__ ["self"] (spI0 K T.C_NoBeat) := by
  refine T.F_p_NoBeat___init__.ok sc_p_NoBeat___init__ spI0_len (fun cdv A out s H vs Q E hr h => ?_)
  exact ⟨_, (pss_one (ps_expr (pe_weinit (by rfl) T.mC_WaitError T.rd_WaitError T.at_WaitError (pa_cons (pv 0) (pa_cons pe_str pa_nil))))), init0 rfl h⟩
abbrev sp_p_numbered (K : PySem.W.Frag) (cm : Str → Option Addr) : Sp := spV K cm (α := PyData) [.imm] (fun a => [a]) (fun a => f_p_numbered a) (fun z => .own (.list z)) (fun _ => [])
theorem sc_p_numbered : FnScope N_p_numbered ["way"] (defScope s_p_numbered) := ⟨rfl, rfl, rfl, by decide +kernel, rfl, by decide +kernel, by decide +kernel⟩
theorem ok_p_numbered (T : Txt K mg) : FnG P w K mg base CX0 1 T.f_p_numbered T.fd_p_numbered ["way"] (sp_p_numbered K (cmX T)) := by
  refine okG0 T.F_p_numbered sc_p_numbered (fun vs H Q E h => spV_len h) (fun cdv A out s H vs Q E hgd hr h => ?_)
  have hu := hu_of hr
  have hu1 : (A.deeper (envOfC "numbered" (defScope s_p_numbered) s.heap.objs.size T.f_p_numbered cdv)).units + 160 < cLine := by have := hr.un; omega
  have hu64 : (A.deeper (envOfC "numbered" (defScope s_p_numbered) s.heap.objs.size T.f_p_numbered cdv)).units + 64 < cLine := by omega
  have hu65 : (A.deeper (envOfC "numbered" (defScope s_p_numbered) s.heap.objs.size T.f_p_numbered cdv)).units + 65 < cLine := by omega
  refine ⟨_, (pss_cons (ps_set (i := 1) sc_p_numbered.nd rfl (Or.inl rfl) (pe_lstG pa_nil))
    (pss_cons (ps_set (i := 2) sc_p_numbered.nd rfl (Or.inr rfl) pe_int)
    (pss_cons (ps_for PassesOwn.never rfl (show PI _ _ _ (iTup K _) from pi_tup (pv 0)) (pg_name (i := 3) sc_p_numbered.nd rfl (Or.inl rfl))
      (pss_cons (ps_expr (show PE _ _ (tBM K "list" rAppG _ _) from pe_bm PySem.F.plainAttrs_list PySem.F.slot_list_append PySem.F.type_list_append mt_appendG (pv 1) (pa_cons (pe_lc (own := [("place", 4), ("comer", 5)]) (g := (gTup K 2 (gCons (gName 4) (gCons (gName 5) gNil)))) (tt := tYes) rfl sc_p_numbered.nd (show PI _ _ _ (iEnumT K _) from pi_enumT (by rfl) T.z_enumerate (pa_cons (pv 3) pa_nil)) (blkOk_by (N := N_p_numbered) (sc := defScope s_p_numbered) (by decide +kernel)) (fun _ _ _ _ _ => (show PG _ _ (gTup K 2 _) from pg_tup rfl (pgs_cons (pg_name (i := 4) sc_p_numbered.nd rfl (Or.inl rfl)) (pgs_cons (pg_name (i := 5) sc_p_numbered.nd rfl (Or.inl rfl)) pgs_nil)))) (fun _ _ _ _ _ => pts_nil) (fun _ _ _ _ _ => (pe_tupG (pa_cons (pv 5) (pa_cons (pe_op (show OpR _ _ (rImm2 K addV) from op_addV) (pv 2) (pv 4)) pa_nil))))) pa_nil)))
    (pss_one (ps_set (i := 2) sc_p_numbered.nd rfl (Or.inr rfl) (pe_op (show OpR _ _ (rImm2 K addV) from op_addV) (pv 2) (pe_callB (show CallR _ _ (arg1 (rDat1 K lenV)) from call_lenV) (by rfl) T.z_len (by decide +kernel) (pa_cons (pv 3) pa_nil)))))))
    (pss_one (ps_ret (pv 1)))))), ?_⟩
  refine spV_body (n := 5) h rfl (fun a vs hl => ?_)
  match vs, hl with
  | [v0], _ =>
  let a_0 := a
  show SV (ctxF K (cmX T) E) _ [.imm a_0, .no, .no, .no, .no, .no] (f_p_numbered a_0) _
  unfold f_p_numbered
  refine (sv_seq (sv_asg (ev_lstO (ea_nil ⟨[], .nil, Nat.le_of_ble_eq_true rfl, (gv_name rfl rfl ?h1)⟩))))
  case h1 =>
   show SV _ _ [.imm a_0, .own (.list []), .no, .no, .no, .no] _ _
   refine (sv_seq (sv_asg (ev_int (gv_name rfl rfl ?h2))))
   case h2 =>
    show SV _ _ [.imm a_0, .own (.list []), .imm (.int 0), .no, .no, .no] _ _
    refine (sv_seq (sv_for (fun s3 : List PyData × PyData => [.imm a_0, .own (.list s3.1), .imm s3.2, .no, .no, .no]) (iv_tup (ev_imm rfl ⟨_, _, rfl, rfl, fun ds1 => ⟨([], (.int 0)), _, _, rfl, (.cons (.same _) (.cons (.same _) (.cons (.same _) (.cons (.drop _) (.cons (.drop _) (.cons (.drop _) .nil)))))), fun x2 s3 hx => (gv_name rfl rfl ?h3), fun s3 => (sv_ret (ev_move rfl rfl ⟨_, rfl, rfl, (.imm .nil)⟩))⟩⟩))))
    case h3 =>
     exact (sv_seq (sv_app rfl (.own _) (ev_map (vs := [4, 5]) [.imm a_0, .own (.list s3.1), .imm s3.2, .imm x2, .no, .no] (hnoC rfl (hnoC rfl hnoN)) rfl (fun _ h => h) rfl (iv_enumT (ea_cons (ev_imm rfl (ea_nil ⟨_, _, rfl, rfl, fun ds4 => ⟨_, _, rfl, (.cons (.same _) (.cons (.same _) (.cons (.same _) (.cons (.same _) (.cons (.drop _) (.cons (.drop _) .nil)))))), fun x5 hx => (gv_tup2 rfl fun p7 => (gv_cons (gv_name rfl rfl (gv_cons (gv_name rfl rfl (gv_nil (ev_tupI (ea_cons (ev_imm rfl (ea_cons (ev_op (ev_imm rfl (ev_imm rfl (opK opS_imm2 rfl (fun z8 => (ea_nil ⟨[p7.2, z8], rfl, Nat.le_of_ble_eq_true rfl, ⟨_, rfl, (.imm _), (.cons (.same _) (.cons (.same _) (.cons (.same _) (.cons (.same _) (.cons (.drop _) (.cons (.drop _) .nil))))))⟩⟩)) (nx_addV _ _))))))))))))))), fun l9 => ⟨_, _, _, _, _, (.own _), rfl, (.own _), rfl, fun z10 => (sv_asg (ev_op (ev_imm rfl (ev_cb (ea_cons (ev_imm rfl (ea_nil (caK1 (unK (unS_arg1 (unS_dat1 (.imm _))) rfl (fun z11 => (opK opS_imm2 rfl (fun z12 => (gv_name rfl rfl ⟨(z10, z12), rfl, (.cons (.same _) (.cons (.same _) (.cons (.same _) (.cons (.drop _) (.cons (.drop _) (.cons (.drop _) .nil))))))⟩)) (nx_addV _ _))) (nx_lenV _))))))))))⟩⟩⟩)))))))
abbrev sp_p_way_of (K : PySem.W.Frag) (cm : Str → Option Addr) : Sp := spV K cm (α := PyData) [.shr] (fun a => [a]) (fun a => f_p_way_of a) (fun z => .imm z) (fun _ => [])
theorem sc_p_way_of : FnScope N_p_way_of ["rows"] (defScope s_p_way_of) := ⟨rfl, rfl, rfl, by decide +kernel, rfl, by decide +kernel, by decide +kernel⟩
theorem ok_p_way_of (T : Txt K mg) : FnG P w K mg base CX0 1 T.f_p_way_of T.fd_p_way_of ["rows"] (sp_p_way_of K (cmX T)) := by
  refine okG0 T.F_p_way_of sc_p_way_of (fun vs H Q E h => spV_len h) (fun cdv A out s H vs Q E hgd hr h => ?_)
  have hu := hu_of hr
  have hu1 : (A.deeper (envOfC "way_of" (defScope s_p_way_of) s.heap.objs.size T.f_p_way_of cdv)).units + 160 < cLine := by have := hr.un; omega
  have hu64 : (A.deeper (envOfC "way_of" (defScope s_p_way_of) s.heap.objs.size T.f_p_way_of cdv)).units + 64 < cLine := by omega
  have hu65 : (A.deeper (envOfC "way_of" (defScope s_p_way_of) s.heap.objs.size T.f_p_way_of cdv)).units + 65 < cLine := by omega
  refine ⟨_, (pss_cons (ps_set (i := 1) sc_p_way_of.nd rfl (Or.inl rfl) (pe_lstG pa_nil))
    (pss_cons (ps_for PassesOwn.never rfl (show PI _ _ _ (iList K _) from pi_list (pv 0)) (pg_name (i := 2) sc_p_way_of.nd rfl (Or.inl rfl))
      (pss_one (ps_expr (show PE _ _ (tBM K "list" rExtG _ _) from pe_bm PySem.F.plainAttrs_list PySem.F.slot_list_extend PySem.F.type_list_extend mt_extendG (pv 1) (pa_cons (pe_lc (own := [("comer", 3), ("number", 4)]) (g := (gTup K 2 (gCons (gName 3) (gCons (gName 4) gNil)))) (tt := tYes) rfl sc_p_way_of.nd (show PI _ _ _ (iList K _) from pi_list (pv 2)) (blkOk_by (N := N_p_way_of) (sc := defScope s_p_way_of) (by decide +kernel)) (fun _ _ _ _ _ => (show PG _ _ (gTup K 2 _) from pg_tup rfl (pgs_cons (pg_name (i := 3) sc_p_way_of.nd rfl (Or.inl rfl)) (pgs_cons (pg_name (i := 4) sc_p_way_of.nd rfl (Or.inl rfl)) pgs_nil)))) (fun _ _ _ _ _ => pts_nil) (fun _ _ _ _ _ => (pv 4))) pa_nil)))))
    (pss_one (ps_ret (pe_tupG (pa_cons (pe_callTy (show CallR _ _ (arg1 (rDat1 K tupV)) from call_tupV) (by rfl) T.z_tuple (by decide +kernel) (pa_cons (pe_lc (own := [("row", 2)]) (g := (gName 2)) (tt := tYes) rfl sc_p_way_of.nd (show PI _ _ _ (iList K _) from pi_list (pv 0)) (blkOk_by (N := N_p_way_of) (sc := defScope s_p_way_of) (by decide +kernel)) (fun _ _ _ _ _ => (pg_name (i := 2) sc_p_way_of.nd rfl (Or.inl rfl))) (fun _ _ _ _ _ => pts_nil) (fun _ _ _ _ _ => (pe_callTy (show CallR _ _ (arg1 (rDat1 K tupV)) from call_tupV) (by rfl) T.z_tuple (by decide +kernel) (pa_cons (pe_lc (own := [("comer", 3), ("number", 4)]) (g := (gTup K 2 (gCons (gName 3) (gCons (gName 4) gNil)))) (tt := tYes) rfl sc_p_way_of.nd (show PI _ _ _ (iList K _) from pi_list (pv 2)) (blkOk_by (N := N_p_way_of) (by with_unfolding_all rfl)) (fun _ _ _ _ _ => (show PG _ _ (gTup K 2 _) from pg_tup rfl (pgs_cons (pg_name (i := 3) sc_p_way_of.nd rfl (Or.inl rfl)) (pgs_cons (pg_name (i := 4) sc_p_way_of.nd rfl (Or.inl rfl)) pgs_nil)))) (fun _ _ _ _ _ => pts_nil) (fun _ _ _ _ _ => (pv 3))) pa_nil)))) pa_nil)) (pa_cons (pe_callTy (show CallR _ _ (arg1 (rDat1 K tupV)) from call_tupV) (by rfl) T.z_tuple (by decide +kernel) (pa_cons (pv 1) pa_nil)) pa_nil))))))), ?_⟩
  refine spV_body (n := 4) h rfl (fun a vs hl => ?_)
  match vs, hl with
  | [v0], _ =>
  let a_0 := a
  show SV (ctxF K (cmX T) E) _ [.shr a_0, .no, .no, .no, .no] (f_p_way_of a_0) _
  unfold f_p_way_of
  refine (sv_seq (sv_asg (ev_lstO (ea_nil ⟨[], .nil, Nat.le_of_ble_eq_true rfl, (gv_name rfl rfl ?h4)⟩))))
  case h4 =>
   show SV _ _ [.shr a_0, .own (.list []), .no, .no, .no] _ _
   refine (sv_seq (sv_for (fun s3 : List PyData => [.shr a_0, .own (.list s3), .no, .no, .no]) (iv_lstA (ev_shr rfl ⟨_, _, rfl, rfl, fun ds1 => ⟨[], _, _, rfl, (.cons (.same _) (.cons (.same _) (.cons (.drop _) (.cons (.drop _) (.cons (.drop _) .nil))))), fun x2 s3 hx => (gv_name rfl rfl ?h5), fun s3 => (sv_ret (ev_tupI (ea_cons (ev_cb (ea_cons (ev_map (vs := [2]) [.shr a_0, .own (.list s3), .no, .no, .no] (hnoC rfl hnoN) rfl (fun _ h => h) rfl (iv_lstA (ev_shr rfl ⟨_, _, rfl, rfl, fun ds12 => ⟨_, _, rfl, (.cons (.same _) (.cons (.same _) (.cons (.drop _) (.cons (.drop _) (.cons (.drop _) .nil))))), fun x13 hx => (gv_name rfl rfl ?h6), fun l23 => (ea_nil (caK1 (unK (unS_arg1 (unS_dat1 (.own _))) rfl (fun z24 => (ea_cons (ev_cb (ea_cons (ev_own rfl (ea_nil (caK1 (unK (unS_arg1 (unS_dat1 (.bor _))) rfl (fun z25 => (ea_nil ⟨[z24, z25], rfl, Nat.le_of_ble_eq_true rfl, ⟨_, rfl, rfl, (.shr .nil)⟩⟩)) (nx_tupV _))))))))) (nx_tupV _))))⟩⟩))))))))⟩⟩))))
   case h5 =>
    exact (sv_ext rfl (.own _) (ev_map (vs := [3, 4]) [.shr a_0, .own (.list s3), .shr x2, .no, .no] (hnoC rfl (hnoC rfl hnoN)) rfl (fun _ h => h) rfl (iv_lstA (ev_shr rfl ⟨_, _, rfl, rfl, fun ds4 => ⟨_, _, rfl, (.cons (.same _) (.cons (.same _) (.cons (.same _) (.cons (.drop _) (.cons (.drop _) .nil))))), fun x5 hx => (gv_tupA2 rfl fun p7 => (gv_cons (gv_asIk (.shr _) rfl fun z8 => (gv_name rfl rfl (gv_cons (gv_asIk (.shr _) rfl fun z9 => (gv_name rfl rfl (gv_nil (ev_imm rfl ⟨_, rfl, (.imm _), (.cons (.same _) (.cons (.same _) (.cons (.same _) (.cons (.drop _) (.cons (.drop _) .nil)))))⟩))))))))), fun l10 => ⟨_, _, _, _, _, rfl, rfl, (.own _), rfl, fun z11 => ⟨z11, rfl, (.cons (.same _) (.cons (.same _) (.cons (.drop _) (.cons (.drop _) (.cons (.drop _) .nil)))))⟩⟩⟩⟩))))
   case h6 =>
    exact (ev_cb (ea_cons (ev_map (vs := [3, 4]) [.shr a_0, .own (.list s3), .shr x13, .no, .no] (hnoC rfl (hnoC rfl hnoN)) rfl (fun _ h => h) rfl (iv_lstA (ev_shr rfl ⟨_, _, rfl, rfl, fun ds15 => ⟨_, _, rfl, (.cons (.same _) (.cons (.same _) (.cons (.same _) (.cons (.drop _) (.cons (.drop _) .nil))))), fun x16 hx => (gv_tupA2 rfl fun p18 => (gv_cons (gv_asIk (.shr _) rfl fun z19 => (gv_name rfl rfl (gv_cons (gv_asIk (.shr _) rfl fun z20 => (gv_name rfl rfl (gv_nil (ev_imm rfl ⟨_, rfl, (.imm _), (.cons (.same _) (.cons (.same _) (.cons (.same _) (.cons (.drop _) (.cons (.drop _) .nil)))))⟩))))))))), fun l21 => (ea_nil (caK1 (unK (unS_arg1 (unS_dat1 (.own _))) rfl (fun z22 => ⟨_, rfl, (.imm _), (.cons (.same _) (.cons (.same _) (.cons (.drop _) (.cons (.drop _) (.cons (.drop _) .nil)))))⟩) (nx_tupV _))))⟩⟩)))))
abbrev sp_p_ask_number (K : PySem.W.Frag) (cm : Str → Option Addr) : Sp := spV K cm (α := PyData × PyData) [.imm, .imm] (fun a => [a.1, a.2]) (fun a => f_p_ask_number a.1 a.2) (fun z => .imm z) (fun _ => [])
theorem sc_p_ask_number : FnScope N_p_ask_number ["way", "number"] (defScope s_p_ask_number) := ⟨rfl, rfl, rfl, by decide +kernel, rfl, by decide +kernel, by decide +kernel⟩
theorem ok_p_ask_number (T : Txt K mg) : FnG P w K mg base (L2.CX P w) 3 T.f_p_ask_number T.fd_p_ask_number ["way", "number"] (sp_p_ask_number K (cmX T)) := by
  refine okGX T.F_p_ask_number sc_p_ask_number (fun vs H Q E h => spV_len h) (fun cdv A out s H vs Q E hgd hr h => ?_)
  have hu := hu_of hr
  have hu1 : (A.deeper (envOfC "ask_number" (defScope s_p_ask_number) s.heap.objs.size T.f_p_ask_number cdv)).units + 160 < cLine := by have := hr.un; omega
  have hu64 : (A.deeper (envOfC "ask_number" (defScope s_p_ask_number) s.heap.objs.size T.f_p_ask_number cdv)).units + 64 < cLine := by omega
  have hu65 : (A.deeper (envOfC "ask_number" (defScope s_p_ask_number) s.heap.objs.size T.f_p_ask_number cdv)).units + 65 < cLine := by omega
  refine ⟨_, fun tk po => (pss_one (ps_if (pt_cmpR (show OpR _ _ (rDat2 K geV) from (op_geVd hu1)) (pv 1) (pe_callB (show CallR _ _ (arg1 (rDat1 K sumV)) from (call_sumV rfl)) (by rfl) T.z_sum (by decide +kernel) (pa_cons (pe_lc (own := [("beat", 2)]) (g := (gName 2)) (tt := tYes) rfl sc_p_ask_number.nd (show PI _ _ _ (iTup K _) from pi_tup (pv 0)) (blkOk_by (N := N_p_ask_number) (sc := defScope s_p_ask_number) (by decide +kernel)) (fun _ _ _ _ _ => (pg_name (i := 2) sc_p_ask_number.nd rfl (Or.inl rfl))) (fun _ _ _ _ _ => pts_nil) (fun _ _ _ _ _ => (pe_callB (show CallR _ _ (arg1 (rDat1 K lenV)) from call_lenV) (by rfl) T.z_len (by decide +kernel) (pa_cons (pv 2) pa_nil)))) pa_nil)) (nomark _))
      (pss_one (ps_raise rfl tk (pmk_oex T.oex_NoComer T.ini_NoComer T.tyI_NoComer (ok_p_NoComer___init__ T) (hr.mono (by decide)) T.b_p_NoComer___init__ .nil pass0 (by rfl) T.mC_NoComer (pa_cons (pv 1) pa_nil))))
      pss_nil)), ?_⟩
  refine spV_body (n := 1) h rfl (fun a vs hl => ?_)
  match vs, hl with
  | [v0, v1], _ =>
  obtain ⟨a_0, a_1⟩ := a
  show SV (ctxF K (cmX T) E) _ [.imm a_0, .imm a_1, .no] (f_p_ask_number a_0 a_1) _
  unfold f_p_ask_number
  exact (sv_if (tv_test (ev_op (ev_imm rfl (ev_cb (ea_cons (ev_map (vs := [2]) [.imm a_0, .imm a_1, .no] (hnoC rfl hnoN) rfl (fun _ h => h) rfl (iv_tup (ev_imm rfl ⟨_, _, rfl, rfl, fun ds1 => ⟨_, _, rfl, (.cons (.same _) (.cons (.same _) (.cons (.drop _) .nil))), fun x2 hx => (gv_name rfl rfl (ev_cb (ea_cons (ev_imm rfl (ea_nil (caK1 (unK (unS_arg1 (unS_dat1 (.imm _))) rfl (fun z4 => ⟨_, rfl, (.imm _), (.cons (.same _) (.cons (.same _) (.cons (.drop _) .nil)))⟩) (nx_lenV _)))))))), fun l5 => (ea_nil (caK1 (unK (unS_arg1 (unS_dat1 (.own _))) rfl (fun z6 => (opK (opS_dat2 (.imm _) (.imm _)) rfl (fun b7 => ⟨_, rfl, ⟨_, _, rfl, (sv_raise (fl := ["number"]) (cm_NoComer T) T.oex_NoComer T.nf_NoComer (by decide) (by decide +kernel) (ea_cons (ev_imm rfl (ea_nil ⟨[a_1], rfl, rfl, trivial, rfl⟩)))), (sv_next ⟨_, rfl, rfl, (.imm (.imm .nil))⟩)⟩⟩) (nx_geV _ _))) (nx_sumV _))))⟩⟩)))))))))
abbrev sp_p_with_comer (K : PySem.W.Frag) (cm : Str → Option Addr) : Sp := spV K cm (α := PyData × PyData × PyData × PyData) [.imm, .imm, .imm, .imm] (fun a => [a.1, a.2.1, a.2.2.1, a.2.2.2]) (fun a => f_p_with_comer a.1 a.2.1 a.2.2.1 a.2.2.2) (fun z => .imm z) (fun _ => [])
theorem sc_p_with_comer : FnScope N_p_with_comer ["way", "beat", "place", "comer"] (defScope s_p_with_comer) := ⟨rfl, rfl, rfl, by decide +kernel, rfl, by decide +kernel, by decide +kernel⟩
theorem ok_p_with_comer (T : Txt K mg) : FnG P w K mg base (L2.CX P w) 3 T.f_p_with_comer T.fd_p_with_comer ["way", "beat", "place", "comer"] (sp_p_with_comer K (cmX T)) := by
  refine okGX T.F_p_with_comer sc_p_with_comer (fun vs H Q E h => spV_len h) (fun cdv A out s H vs Q E hgd hr h => ?_)
  have hu := hu_of hr
  have hu1 : (A.deeper (envOfC "with_comer" (defScope s_p_with_comer) s.heap.objs.size T.f_p_with_comer cdv)).units + 160 < cLine := by have := hr.un; omega
  have hu64 : (A.deeper (envOfC "with_comer" (defScope s_p_with_comer) s.heap.objs.size T.f_p_with_comer cdv)).units + 64 < cLine := by omega
  have hu65 : (A.deeper (envOfC "with_comer" (defScope s_p_with_comer) s.heap.objs.size T.f_p_with_comer cdv)).units + 65 < cLine := by omega
  refine ⟨_, fun tk po => (pss_cons (ps_if (pt_cmpR (show OpR _ _ (rDat2 K geV) from (op_geVd hu1)) (pv 1) (pe_callB (show CallR _ _ (arg1 (rDat1 K lenV)) from call_lenV) (by rfl) T.z_len (by decide +kernel) (pa_cons (pv 0) pa_nil)) (nomark _))
      (pss_one (ps_raise rfl tk (pmk_oex0 T.oex_NoBeat T.ini_NoBeat T.tyI_NoBeat (ok_p_NoBeat___init__ T) (hr.mono (by decide)) T.b_p_NoBeat___init__ pass0 (by rfl) T.mC_NoBeat)))
      pss_nil)
    (pss_cons (ps_set (i := 4) sc_p_with_comer.nd rfl (Or.inl rfl) (pe_callG (ok_p_numbered T) hgd (hr.mono (by decide)) (by rfl) T.m_p_numbered T.F_p_numbered.kp T.b_p_numbered .nil (pass0E (E := E)) (pa_cons (pv 0) pa_nil)))
    (pss_cons (ps_asg (pe_op (show OpR _ _ (rLst2 K catL) from op_catV) (pe_op (show OpR _ _ (rLst2 K catL) from op_catV) (pe_slice (show L2.SlR _ (rSlL2 K) from sl_L2) (pe_ix (show IxR _ (rIxL K) from ix_list) (pv 4) (pv 1) (fun _ _ => rfl)) po_none (po_some (pv 2))) (pe_lstG (pa_cons (pe_tupG (pa_cons (pv 3) (pa_cons (pe_un (show UnR _ _ (rImm1 K negV) from un_negV) pe_int) pa_nil))) pa_nil))) (pe_slice (show L2.SlR _ (rSlL2 K) from sl_L2) (pe_ix (show IxR _ (rIxL K) from ix_list) (pv 4) (pv 1) (fun _ _ => rfl)) (po_some (pv 2)) po_none)) (pg_sub (pv 4) (pv 1) set_listG))
    (pss_one (ps_ret (pe_callG (ok_p_way_of T) hgd (hr.mono (by decide)) (by rfl) T.m_p_way_of T.F_p_way_of.kp T.b_p_way_of .nil (pass0E (E := E)) (pa_cons (pv 4) pa_nil))))))), ?_⟩
  refine spV_body (n := 1) h rfl (fun a vs hl => ?_)
  match vs, hl with
  | [v0, v1, v2, v3], _ =>
  obtain ⟨a_0, a_1, a_2, a_3⟩ := a
  show SV (ctxF K (cmX T) E) _ [.imm a_0, .imm a_1, .imm a_2, .imm a_3, .no] (f_p_with_comer a_0 a_1 a_2 a_3) _
  unfold f_p_with_comer
  refine (sv_seq (sv_if (tv_test (ev_op (ev_imm rfl (ev_cb (ea_cons (ev_imm rfl (ea_nil (caK1 (unK (unS_arg1 (unS_dat1 (.imm _))) rfl (fun z1 => (opK (opS_dat2 (.imm _) (.imm _)) rfl (fun b2 => ⟨_, rfl, ⟨_, _, rfl, (sv_raise0 (cm_NoBeat T) T.oex_NoBeat trivial rfl), (sv_next (sv_seq (sv_asg (ev_callP (ex_val (ev_imm rfl (ex_nil ⟨a_0, (.imm .nil), _, rfl, fun z3 => ⟨.own _, (gv_name rfl rfl ?h7)⟩⟩)))))))⟩⟩) (nx_geV _ _))) (nx_lenV _))))))))))))
  case h7 =>
   show SV _ _ [.imm a_0, .imm a_1, .imm a_2, .imm a_3, .own (.list z3)] _ _
   exact (sv_seq (sv_set (ev_op (ev_op (ev_slL (ev_op (ev_own rfl (ev_imm rfl (opS_ixLL (.bor _) rfl fun z4 => (eo_none (eo_some (ev_imm rfl ⟨_, _, rfl, rfl, fun o5 => ⟨_, _, (.bor _), rfl, fun z6 => (ev_lstO (ea_cons (ev_tupI (ea_cons (ev_imm rfl (ea_cons (ev_un (ev_int (unK unS_imm1 rfl (fun z7 => (ea_nil ⟨[a_3, z7], rfl, Nat.le_of_ble_eq_true rfl, (ea_nil ⟨[(.tuple [a_3, z7])], (.cons (.imm _) .nil), Nat.le_of_ble_eq_true rfl, (opK (opS_lst2 (.own _) (.own _)) rfl (fun z8 => (ev_slL (ev_op (ev_own rfl (ev_imm rfl (opS_ixLL (.bor _) rfl fun z9 => (eo_some (ev_imm rfl ⟨_, _, rfl, rfl, fun o10 => (eo_none ⟨_, _, (.bor _), rfl, fun z11 => (opK (opS_lst2 (.own _) (.own _)) rfl (fun z12 => ⟨_, _, _, _, (.own _), rfl, (.own _), (ev_imm rfl ⟨_, _, _, _, _, rfl, rfl, (.own _), rfl, fun z13 => (sv_ret (ev_callP (ex_al rfl (fun z => nomatch z) (ex_nil ⟨(.list z13), (.al rfl (.own _) .nil), _, rfl, fun z14 => ⟨.imm _, ⟨_, rfl, rfl, (.imm (.imm (.imm (.imm .nil))))⟩⟩⟩))))⟩)⟩) (nx_catL _ _))⟩)⟩)))))))) (nx_catL _ _))⟩)⟩)) (nx_negV _))))))))))⟩⟩))))))))))))
abbrev sp_p_without (K : PySem.W.Frag) (cm : Str → Option Addr) : Sp := spV K cm (α := PyData × PyData) [.imm, .imm] (fun a => [a.1, a.2]) (fun a => f_p_without a.1 a.2) (fun z => .imm z) (fun _ => [])
theorem sc_p_without : FnScope N_p_without ["way", "number"] (defScope s_p_without) := ⟨rfl, rfl, rfl, by decide +kernel, rfl, by decide +kernel, by decide +kernel⟩
theorem ok_p_without (T : Txt K mg) : FnG P w K mg base (L2.CX P w) 4 T.f_p_without T.fd_p_without ["way", "number"] (sp_p_without K (cmX T)) := by
  refine okGX T.F_p_without sc_p_without (fun vs H Q E h => spV_len h) (fun cdv A out s H vs Q E hgd hr h => ?_)
  have hu := hu_of hr
  have hu1 : (A.deeper (envOfC "without" (defScope s_p_without) s.heap.objs.size T.f_p_without cdv)).units + 160 < cLine := by have := hr.un; omega
  have hu64 : (A.deeper (envOfC "without" (defScope s_p_without) s.heap.objs.size T.f_p_without cdv)).units + 64 < cLine := by omega
  have hu65 : (A.deeper (envOfC "without" (defScope s_p_without) s.heap.objs.size T.f_p_without cdv)).units + 65 < cLine := by omega
  refine ⟨_, fun tk po => (pss_cons (ps_expr (pe_callG (ok_p_ask_number T) hgd (hr.mono (by decide)) (by rfl) T.m_p_ask_number T.F_p_ask_number.kp T.b_p_ask_number .nil (passes_call tk fun _ _ _ _ h => h) (pa_cons (pv 0) (pa_cons (pv 1) pa_nil))))
    (pss_one (ps_ret (pe_callG (ok_p_way_of T) hgd (hr.mono (by decide)) (by rfl) T.m_p_way_of T.F_p_way_of.kp T.b_p_way_of .nil (pass0E (E := E)) (pa_cons (pe_lc (own := [("row", 3)]) (g := (gName 3)) (tt := tYes) rfl sc_p_without.nd (show PI _ _ _ (iList K _) from pi_list (pe_callG (ok_p_numbered T) hgd (hr.mono (by decide)) (by rfl) T.m_p_numbered T.F_p_numbered.kp T.b_p_numbered .nil (pass0E (E := E)) (pa_cons (pv 0) pa_nil))) (blkOk_by (N := N_p_without) (sc := defScope s_p_without) (by decide +kernel)) (fun _ _ _ _ _ => (pg_name (i := 3) sc_p_without.nd rfl (Or.inl rfl))) (fun _ _ _ _ _ => pts_nil) (fun _ _ _ _ _ => (pe_lc (own := [("one", 2)]) (g := (gName 2)) rfl sc_p_without.nd (show PI _ _ _ (iList K _) from pi_list (pv 3)) (blkOk_by (N := N_p_without) (by with_unfolding_all rfl)) (fun _ _ _ _ _ => (pg_name (i := 2) sc_p_without.nd rfl (Or.inl rfl))) (fun _ _ _ _ _ => (pts_one (pt_cmpR (show OpR _ _ (rDat2 K neV) from (op_neVd hu64)) (pe_ix (show IxR _ (rIxV K) from ix_V) (pv 2) pe_int (fun _ _ => rfl)) (pv 1) (nomark _)))) (fun _ _ _ _ _ => (pv 2))))) pa_nil))))), ?_⟩
  refine spV_body (n := 2) h rfl (fun a vs hl => ?_)
  match vs, hl with
  | [v0, v1], _ =>
  obtain ⟨a_0, a_1⟩ := a
  show SV (ctxF K (cmX T) E) _ [.imm a_0, .imm a_1, .no, .no] (f_p_without a_0 a_1) _
  unfold f_p_without
  refine (sv_seq (sv_drop (ev_callP (ex_val (ev_imm rfl (ex_val (ev_imm rfl (ex_nil ⟨(a_0, a_1), (.imm (.imm .nil)), _, rfl, fun z1 => ⟨.imm _, (sv_ret (ev_callP (ex_val (ev_map (vs := [3]) [.imm a_0, .imm a_1, .no, .no] (hnoC rfl hnoN) rfl (fun _ h => h) rfl (iv_lstA (ev_toShr (ev_callP (ex_val (ev_imm rfl (ex_nil ⟨a_0, (.imm .nil), _, rfl, fun z2 => ⟨.own _, ⟨_, rfl, ⟨_, _, rfl, rfl, fun ds3 => ⟨_, _, rfl, (.cons (.same _) (.cons (.same _) (.cons (.drop _) (.cons (.drop _) .nil)))), fun x4 hx => (gv_name rfl rfl ?h8), fun l13 => (ex_nil ⟨(.list l13), (.shr (.own _) .nil), _, rfl, fun z14 => ⟨.imm _, ⟨_, rfl, rfl, (.imm (.imm .nil))⟩⟩⟩)⟩⟩⟩⟩⟩))))))))))⟩⟩))))))))
  case h8 =>
   refine (ev_fmap (vs := [2]) [.imm a_0, .imm a_1, .no, .shr x4] (hnoC rfl hnoN) rfl (fun _ h => h) rfl (iv_lstA (ev_shr rfl ⟨_, _, rfl, rfl, fun ds6 => ⟨_, _, rfl, (.cons (.same _) (.cons (.same _) (.cons (.drop _) (.cons (.same _) .nil)))), fun x7 hx => (gv_asIk (.shr _) rfl fun z9 => (gv_name rfl rfl ?h9)), fun l12 => ⟨_, rfl, (.own _), (.cons (.same _) (.cons (.same _) (.cons (.drop _) (.cons (.drop _) .nil))))⟩⟩⟩)))
   case h9 =>
    exact (tv_test (ev_op (ev_op (ev_imm rfl (ev_int (opK opS_ixT rfl (fun z10 => (ev_imm rfl (opK (opS_dat2 (.imm _) (.imm _)) rfl (fun b11 => ⟨_, rfl, ⟨_, _, rfl, (ev_imm rfl ⟨_, rfl, (.imm _), (.cons (.same _) (.cons (.same _) (.cons (.drop _) (.cons (.same _) .nil))))⟩), rfl, (.cons (.same _) (.cons (.same _) (.cons (.drop _) (.cons (.same _) .nil))))⟩⟩) (nx_neV _ _)))) (nx_ixV _ _)))))))
abbrev sp_p_longer (K : PySem.W.Frag) (cm : Str → Option Addr) : Sp := spV K cm (α := PyData × PyData × PyData) [.imm, .imm, .imm] (fun a => [a.1, a.2.1, a.2.2]) (fun a => f_p_longer a.1 a.2.1 a.2.2) (fun z => .imm z) (fun _ => [])
theorem sc_p_longer : FnScope N_p_longer ["way", "number", "more"] (defScope s_p_longer) := ⟨rfl, rfl, rfl, by decide +kernel, rfl, by decide +kernel, by decide +kernel⟩
theorem ok_p_longer (T : Txt K mg) : FnG P w K mg base (L2.CX P w) 4 T.f_p_longer T.fd_p_longer ["way", "number", "more"] (sp_p_longer K (cmX T)) := by
  refine okGX T.F_p_longer sc_p_longer (fun vs H Q E h => spV_len h) (fun cdv A out s H vs Q E hgd hr h => ?_)
  have hu := hu_of hr
  have hu1 : (A.deeper (envOfC "longer" (defScope s_p_longer) s.heap.objs.size T.f_p_longer cdv)).units + 160 < cLine := by have := hr.un; omega
  have hu64 : (A.deeper (envOfC "longer" (defScope s_p_longer) s.heap.objs.size T.f_p_longer cdv)).units + 64 < cLine := by omega
  have hu65 : (A.deeper (envOfC "longer" (defScope s_p_longer) s.heap.objs.size T.f_p_longer cdv)).units + 65 < cLine := by omega
  refine ⟨_, fun tk po => (pss_cons (ps_expr (pe_callG (ok_p_ask_number T) hgd (hr.mono (by decide)) (by rfl) T.m_p_ask_number T.F_p_ask_number.kp T.b_p_ask_number .nil (passes_call tk fun _ _ _ _ h => h) (pa_cons (pv 0) (pa_cons (pv 1) pa_nil))))
    (pss_cons (ps_set (i := 3) sc_p_longer.nd rfl (Or.inl rfl) (pe_lstG pa_nil))
    (pss_cons (ps_for po rfl (show PI _ _ _ (iList K _) from pi_list (pe_callG (ok_p_numbered T) hgd (hr.mono (by decide)) (by rfl) T.m_p_numbered T.F_p_numbered.kp T.b_p_numbered .nil (pass0E (E := E)) (pa_cons (pv 0) pa_nil))) (pg_name (i := 4) sc_p_longer.nd rfl (Or.inl rfl))
      (pss_cons (ps_set (i := 5) sc_p_longer.nd rfl (Or.inl rfl) (pe_lstG pa_nil))
    (pss_cons (ps_for po rfl (show PI _ _ _ (iList K _) from pi_list (pv 4)) (show PG _ _ (gTup K 2 _) from pg_tup rfl (pgs_cons (show PG _ _ (gTup K 2 _) from pg_tup rfl (pgs_cons (pg_name (i := 6) sc_p_longer.nd rfl (Or.inl rfl)) (pgs_cons (pg_name (i := 7) sc_p_longer.nd rfl (Or.inl rfl)) pgs_nil))) (pgs_cons (pg_name (i := 8) sc_p_longer.nd rfl (Or.inl rfl)) pgs_nil)))
      (pss_one (ps_expr (show PE _ _ (tBM K "list" rAppG _ _) from pe_bm PySem.F.plainAttrs_list PySem.F.slot_list_append PySem.F.type_list_append mt_appendG (pv 5) (pa_cons (pe_ifExp (pt_cmpR (show OpR _ _ (rDat2 K eqV) from (op_eqVd hu64)) (pv 8) (pv 1) (nomark _)) (pe_tupG (pa_cons (pe_tupG (pa_cons (pv 6) (pa_cons (pe_op (show OpR _ _ (rImm2 K addV) from op_addV) (pv 7) (pv 2)) pa_nil))) (pa_cons (pv 8) pa_nil))) (pe_tupG (pa_cons (pe_tupG (pa_cons (pv 6) (pa_cons (pv 7) pa_nil))) (pa_cons (pv 8) pa_nil)))) pa_nil)))))
    (pss_one (ps_expr (show PE _ _ (tBM K "list" rAppG _ _) from pe_bm PySem.F.plainAttrs_list PySem.F.slot_list_append PySem.F.type_list_append mt_appendG (pv 3) (pa_cons (pv 5) pa_nil)))))))
    (pss_one (ps_ret (pe_callG (ok_p_way_of T) hgd (hr.mono (by decide)) (by rfl) T.m_p_way_of T.F_p_way_of.kp T.b_p_way_of .nil (pass0E (E := E)) (pa_cons (pv 3) pa_nil))))))), ?_⟩
  refine spV_body (n := 6) h rfl (fun a vs hl => ?_)
  match vs, hl with
  | [v0, v1, v2], _ =>
  obtain ⟨a_0, a_1, a_2⟩ := a
  show SV (ctxF K (cmX T) E) _ [.imm a_0, .imm a_1, .imm a_2, .no, .no, .no, .no, .no, .no] (f_p_longer a_0 a_1 a_2) _
  unfold f_p_longer
  refine (sv_seq (sv_drop (ev_callP (ex_val (ev_imm rfl (ex_val (ev_imm rfl (ex_nil ⟨(a_0, a_1), (.imm (.imm .nil)), _, rfl, fun z1 => ⟨.imm _, (sv_seq (sv_asg (ev_lstO (ea_nil ⟨[], .nil, Nat.le_of_ble_eq_true rfl, (gv_name rfl rfl ?h10)⟩))))⟩⟩))))))))
  case h10 =>
   show SV _ _ [.imm a_0, .imm a_1, .imm a_2, .own (.list []), .no, .no, .no, .no, .no] _ _
   refine (sv_seq (sv_for (fun s5 : List PyData => [.imm a_0, .imm a_1, .imm a_2, .own (.list s5), .no, .no, .no, .no, .no]) (iv_lstA (ev_toShr (ev_callP (ex_val (ev_imm rfl (ex_nil ⟨a_0, (.imm .nil), _, rfl, fun z2 => ⟨.own _, ⟨_, rfl, ⟨_, _, rfl, rfl, fun ds3 => ⟨[], _, _, rfl, (.cons (.same _) (.cons (.same _) (.cons (.same _) (.cons (.same _) (.cons (.drop _) (.cons (.drop _) (.cons (.drop _) (.cons (.drop _) (.cons (.drop _) .nil))))))))), fun x4 s5 hx => (gv_name rfl rfl ?h11), fun s5 => (sv_ret (ev_callP (ex_al rfl (fun z => nomatch z) (ex_nil ⟨(.list s5), (.al rfl (.own _) .nil), _, rfl, fun z18 => ⟨.imm _, ⟨_, rfl, rfl, (.imm (.imm (.imm .nil)))⟩⟩⟩))))⟩⟩⟩⟩⟩))))))))
   case h11 =>
    refine (sv_seq (sv_asg (ev_lstO (ea_nil ⟨[], .nil, Nat.le_of_ble_eq_true rfl, (gv_name rfl rfl ?h12)⟩))))
    case h12 =>
     show SV _ _ [.imm a_0, .imm a_1, .imm a_2, .own (.list s5), .shr x4, .own (.list []), .no, .no, .no] _ _
     exact (sv_seq (sv_for (fun s8 : List PyData => [.imm a_0, .imm a_1, .imm a_2, .own (.list s5), .shr x4, .own (.list s8), .no, .no, .no]) (iv_lstA (ev_shr rfl ⟨_, _, rfl, rfl, fun ds6 => ⟨[], _, _, rfl, (.cons (.same _) (.cons (.same _) (.cons (.same _) (.cons (.same _) (.cons (.same _) (.cons (.same _) (.cons (.drop _) (.cons (.drop _) (.cons (.drop _) .nil))))))))), fun x7 s8 hx => (gv_tupA2 rfl fun p9 => (gv_cons (gv_asIk (.shr _) rfl fun z10 => (gv_tup2 rfl fun p11 => (gv_cons (gv_name rfl rfl (gv_cons (gv_name rfl rfl (gv_nil (gv_cons (gv_asIk (.shr _) rfl fun z12 => (gv_name rfl rfl (gv_nil (sv_app rfl (.own _) (ev_if (tv_test (ev_op (ev_imm rfl (ev_imm rfl (opK (opS_dat2 (.imm _) (.imm _)) rfl (fun b13 => ⟨_, rfl, ⟨_, _, _, rfl, (ev_tupI (ea_cons (ev_tupI (ea_cons (ev_imm rfl (ea_cons (ev_op (ev_imm rfl (ev_imm rfl (opK opS_imm2 rfl (fun z14 => (ea_nil ⟨[p11.1, z14], rfl, Nat.le_of_ble_eq_true rfl, (ea_cons (ev_imm rfl (ea_nil ⟨[(.tuple [p11.1, z14]), z12], rfl, Nat.le_of_ble_eq_true rfl, ⟨_, rfl, rfl, rfl⟩⟩)))⟩)) (nx_addV _ _))))))))))), (ev_tupI (ea_cons (ev_tupI (ea_cons (ev_imm rfl (ea_cons (ev_imm rfl (ea_nil ⟨[p11.1, p11.2], rfl, Nat.le_of_ble_eq_true rfl, (ea_cons (ev_imm rfl (ea_nil ⟨[(.tuple [p11.1, p11.2]), z12], rfl, Nat.le_of_ble_eq_true rfl, ⟨_, rfl, rfl, rfl⟩⟩)))⟩)))))))), fun z15 => ⟨_, _, _, _, _, (.imm _), rfl, (.own _), rfl, fun z16 => ⟨z16, rfl, (.cons (.same _) (.cons (.same _) (.cons (.same _) (.cons (.same _) (.cons (.same _) (.cons (.same _) (.cons (.drop _) (.cons (.drop _) (.cons (.drop _) .nil)))))))))⟩⟩⟩⟩) (nx_eqV _ _))))))))))))))))))))), fun s8 => (sv_app rfl (.own _) (ev_move rfl rfl ⟨_, _, _, _, _, (.own _), rfl, (.own _), rfl, fun z17 => ⟨z17, rfl, (.cons (.same _) (.cons (.same _) (.cons (.same _) (.cons (.same _) (.cons (.drop _) (.cons (.drop _) (.cons (.drop _) (.cons (.drop _) (.cons (.drop _) .nil)))))))))⟩⟩))⟩⟩))))
abbrev sp_p_front_alone (K : PySem.W.Frag) (cm : Str → Option Addr) : Sp := spV K cm (α := PyData) [.imm] (fun a => [a]) (fun a => f_p_front_alone a) (fun z => .imm z) (fun _ => [])
theorem sc_p_front_alone : FnScope N_p_front_alone ["way"] (defScope s_p_front_alone) := ⟨rfl, rfl, rfl, by decide +kernel, rfl, by decide +kernel, by decide +kernel⟩
theorem ok_p_front_alone (T : Txt K mg) : FnG P w K mg base CX0 2 T.f_p_front_alone T.fd_p_front_alone ["way"] (sp_p_front_alone K (cmX T)) := by
  refine okG0 T.F_p_front_alone sc_p_front_alone (fun vs H Q E h => spV_len h) (fun cdv A out s H vs Q E hgd hr h => ?_)
  have hu := hu_of hr
  have hu1 : (A.deeper (envOfC "front_alone" (defScope s_p_front_alone) s.heap.objs.size T.f_p_front_alone cdv)).units + 160 < cLine := by have := hr.un; omega
  have hu64 : (A.deeper (envOfC "front_alone" (defScope s_p_front_alone) s.heap.objs.size T.f_p_front_alone cdv)).units + 64 < cLine := by omega
  have hu65 : (A.deeper (envOfC "front_alone" (defScope s_p_front_alone) s.heap.objs.size T.f_p_front_alone cdv)).units + 65 < cLine := by omega
  refine ⟨_, (pss_one (ps_ret (pe_callG (ok_p_way_of T) hgd (hr.mono (by decide)) (by rfl) T.m_p_way_of T.F_p_way_of.kp T.b_p_way_of .nil (pass0E (E := E)) (pa_cons (pe_lc (own := [("row", 2)]) (g := (gName 2)) (tt := tYes) rfl sc_p_front_alone.nd (show PI _ _ _ (iList K _) from pi_list (pe_callG (ok_p_numbered T) hgd (hr.mono (by decide)) (by rfl) T.m_p_numbered T.F_p_numbered.kp T.b_p_numbered .nil (pass0E (E := E)) (pa_cons (pv 0) pa_nil))) (blkOk_by (N := N_p_front_alone) (sc := defScope s_p_front_alone) (by decide +kernel)) (fun _ _ _ _ _ => (pg_name (i := 2) sc_p_front_alone.nd rfl (Or.inl rfl))) (fun _ _ _ _ _ => pts_nil) (fun _ _ _ _ _ => (pe_lc (own := [("one", 1)]) (g := (gName 1)) rfl sc_p_front_alone.nd (show PI _ _ _ (iList K _) from pi_list (pv 2)) (blkOk_by (N := N_p_front_alone) (by with_unfolding_all rfl)) (fun _ _ _ _ _ => (pg_name (i := 1) sc_p_front_alone.nd rfl (Or.inl rfl))) (fun _ _ _ _ _ => (pts_one (pt_cmpR (show OpR _ _ (rDat2 K eqV) from (op_eqVd hu64)) (pe_ix (show IxR _ (rIxV K) from ix_V) (pe_ix (show IxR _ (rIxV K) from ix_V) (pv 1) pe_int (fun _ _ => rfl)) pe_int (fun _ _ => rfl)) pe_int (nomark _)))) (fun _ _ _ _ _ => (pv 1))))) pa_nil)))), ?_⟩
  refine spV_body (n := 2) h rfl (fun a vs hl => ?_)
  match vs, hl with
  | [v0], _ =>
  let a_0 := a
  show SV (ctxF K (cmX T) E) _ [.imm a_0, .no, .no] (f_p_front_alone a_0) _
  unfold f_p_front_alone
  refine (sv_ret (ev_callP (ex_val (ev_map (vs := [2]) [.imm a_0, .no, .no] (hnoC rfl hnoN) rfl (fun _ h => h) rfl (iv_lstA (ev_toShr (ev_callP (ex_val (ev_imm rfl (ex_nil ⟨a_0, (.imm .nil), _, rfl, fun z1 => ⟨.own _, ⟨_, rfl, ⟨_, _, rfl, rfl, fun ds2 => ⟨_, _, rfl, (.cons (.same _) (.cons (.drop _) (.cons (.drop _) .nil))), fun x3 hx => (gv_name rfl rfl ?h13), fun l13 => (ex_nil ⟨(.list l13), (.shr (.own _) .nil), _, rfl, fun z14 => ⟨.imm _, ⟨_, rfl, rfl, (.imm .nil)⟩⟩⟩)⟩⟩⟩⟩⟩))))))))))
  case h13 =>
   refine (ev_fmap (vs := [1]) [.imm a_0, .no, .shr x3] (hnoC rfl hnoN) rfl (fun _ h => h) rfl (iv_lstA (ev_shr rfl ⟨_, _, rfl, rfl, fun ds5 => ⟨_, _, rfl, (.cons (.same _) (.cons (.drop _) (.cons (.same _) .nil))), fun x6 hx => (gv_asIk (.shr _) rfl fun z8 => (gv_name rfl rfl ?h14)), fun l12 => ⟨_, rfl, (.own _), (.cons (.same _) (.cons (.drop _) (.cons (.drop _) .nil)))⟩⟩⟩)))
   case h14 =>
    exact (tv_test (ev_op (ev_op (ev_op (ev_imm rfl (ev_int (opK opS_ixT rfl (fun z9 => (ev_int (opK opS_ixT rfl (fun z10 => (ev_int (opK (opS_dat2 (.imm _) (.imm _)) rfl (fun b11 => ⟨_, rfl, ⟨_, _, rfl, (ev_imm rfl ⟨_, rfl, (.imm _), (.cons (.same _) (.cons (.drop _) (.cons (.same _) .nil)))⟩), rfl, (.cons (.same _) (.cons (.drop _) (.cons (.same _) .nil)))⟩⟩) (nx_eqV _ _)))) (nx_ixV _ _)))) (nx_ixV _ _))))))))
abbrev sp_q_feed (K : PySem.W.Frag) (cm : Str → Option Addr) : Sp := spV K cm (α := List PyData) [.shr] (fun a => [.list a]) (fun a => f_q_feed a) (fun z => .own (.list z)) (fun _ => [])
theorem sc_q_feed : FnScope N_q_feed ["_law_script"] (defScope s_q_feed) := ⟨rfl, rfl, rfl, by decide +kernel, rfl, by decide +kernel, by decide +kernel⟩
theorem ok_q_feed (T : Txt K mg) : FnG P w K mg base CX0 1 T.f_q_feed T.fd_q_feed ["_law_script"] (sp_q_feed K (cmX T)) := by
  refine okG0 T.F_q_feed sc_q_feed (fun vs H Q E h => spV_len h) (fun cdv A out s H vs Q E hgd hr h => ?_)
  have hu := hu_of hr
  have hu1 : (A.deeper (envOfC "_law_feed" (defScope s_q_feed) s.heap.objs.size T.f_q_feed cdv)).units + 160 < cLine := by have := hr.un; omega
  have hu64 : (A.deeper (envOfC "_law_feed" (defScope s_q_feed) s.heap.objs.size T.f_q_feed cdv)).units + 64 < cLine := by omega
  have hu65 : (A.deeper (envOfC "_law_feed" (defScope s_q_feed) s.heap.objs.size T.f_q_feed cdv)).units + 65 < cLine := by omega
  refine ⟨_, (pss_one (ps_ret (pe_lstG (pa_cons (pe_callTy (show CallR _ _ (arg1 (rLst1 K lstV)) from call_lstV) (by rfl) T.z_list (by decide +kernel) (pa_cons (pe_slice (show L2.SlR _ (rSlL2 K) from sl_L2) (pv 0) po_none (po_some pe_int)) pa_nil)) (pa_cons pe_int (pa_cons pe_int pa_nil)))))), ?_⟩
  refine spV_body (n := 0) h rfl (fun a vs hl => ?_)
  match vs, hl with
  | [v0], _ =>
  let a_0 := a
  show SV (ctxF K (cmX T) E) _ [.shr (.list a_0)] (f_q_feed a_0) _
  unfold f_q_feed
  exact (sv_ret (ev_lstO (ea_cons (ev_cb (ea_cons (ev_slL (ev_shr rfl (eo_none (eo_some (ev_int ⟨_, _, rfl, rfl, fun o1 => ⟨_, _, (.shr _), rfl, fun z2 => (ea_nil (caK1 (unK (unS_arg1 (unS_lst1 (.own _))) rfl (fun z3 => (ea_cons (ev_int (ea_cons (ev_int (ea_nil ⟨[(.list z3), (.int 0), (.int 0)], (.cons (.own _) (.cons (.imm _) (.cons (.imm _) .nil))), Nat.le_of_ble_eq_true rfl, ⟨_, rfl, rfl, (.shr .nil)⟩⟩)))))) (nx_lstV _))))⟩⟩))))))))))
abbrev sp_q_next (K : PySem.W.Frag) (cm : Str → Option Addr) : Sp := spV K cm (α := List PyData × PyData) [.io, .imm] (fun a => [.list a.1, a.2]) (fun a => f_q_next a.1 a.2) (fun z => .imm z.1) (fun z => [.list z.2])
theorem sc_q_next : FnScope N_q_next ["_law_feed_here", "_law_many"] (defScope s_q_next) := ⟨rfl, rfl, rfl, by decide +kernel, rfl, by decide +kernel, by decide +kernel⟩
theorem ok_q_next (T : Txt K mg) : FnG P w K mg base CX0 1 T.f_q_next T.fd_q_next ["_law_feed_here", "_law_many"] (sp_q_next K (cmX T)) := by
  refine okG0 T.F_q_next sc_q_next (fun vs H Q E h => spV_len h) (fun cdv A out s H vs Q E hgd hr h => ?_)
  have hu := hu_of hr
  have hu1 : (A.deeper (envOfC "_law_next" (defScope s_q_next) s.heap.objs.size T.f_q_next cdv)).units + 160 < cLine := by have := hr.un; omega
  have hu64 : (A.deeper (envOfC "_law_next" (defScope s_q_next) s.heap.objs.size T.f_q_next cdv)).units + 64 < cLine := by omega
  have hu65 : (A.deeper (envOfC "_law_next" (defScope s_q_next) s.heap.objs.size T.f_q_next cdv)).units + 65 < cLine := by omega
  refine ⟨_, (pss_cons (ps_if (pt_cmpR (show OpR _ _ (rDat2 K gtV) from (op_gtVd hu1)) (pe_ix (show IxR _ (rIxV K) from ix_V) (pv 0) pe_int (fun _ _ => rfl)) pe_int (nomark _))
      (pss_cons (ps_set (i := 2) sc_q_next.nd rfl (Or.inl rfl) (pe_op (show OpR _ _ (rImm2 K modV) from op_modV) (pe_ix (show IxR _ (rIxV K) from ix_V) (pv 0) pe_int (fun _ _ => rfl)) (pv 1)))
    (pss_cons (ps_asg (pe_op (show OpR _ _ (rImm2 K divV) from op_divV) (pe_ix (show IxR _ (rIxV K) from ix_V) (pv 0) pe_int (fun _ _ => rfl)) (pv 1)) (pg_sub (pv 0) pe_int set_listG))
    (pss_one (ps_ret (pv 2)))))
      pss_nil)
    (pss_cons (ps_set (i := 3) sc_q_next.nd rfl (Or.inl rfl) (pe_ix (show IxR _ (rIxV K) from ix_V) (pv 0) pe_int (fun _ _ => rfl)))
    (pss_cons (ps_asg (pe_op (show OpR _ _ (rImm2 K addV) from op_addV) (pv 3) pe_int) (pg_sub (pv 0) pe_int set_listG))
    (pss_cons (ps_set (i := 4) sc_q_next.nd rfl (Or.inl rfl) (pe_ifExp (pt_cmpR (show OpR _ _ (rDat2 K neV) from (op_neVd hu64)) (pe_ix (show IxR _ (rIxL K) from ix_list) (pv 0) pe_int (fun _ _ => rfl)) (pe_lstG pa_nil) (nomark _)) (pe_ix (show IxR _ (rIxV K) from ix_V) (pe_ix (show IxR _ (rIxL K) from ix_list) (pv 0) pe_int (fun _ _ => rfl)) (pe_op (show OpR _ _ (rImm2 K modV) from op_modV) (pv 3) (pe_callB (show CallR _ _ (arg1 (rDat1 K lenV)) from call_lenV) (by rfl) T.z_len (by decide +kernel) (pa_cons (pe_ix (show IxR _ (rIxL K) from ix_list) (pv 0) pe_int (fun _ _ => rfl)) pa_nil))) (fun _ _ => rfl)) pe_int))
    (pss_cons (ps_if (PW.pt (pw_and (pt_cmpR (show OpR _ _ (rDat2 K geV) from (op_geVd hu1)) (pv 4) (pe_op (show OpR _ _ (rImm2 K powV) from op_powV) pe_int pe_int) (nomark _)) (pw_and1 (pt_cmpR (show OpR _ _ (rDat2 K ltV) from (op_ltVd hu1)) (pv 3) (pe_callB (show CallR _ _ (arg1 (rDat1 K lenV)) from call_lenV) (by rfl) T.z_len (by decide +kernel) (pa_cons (pe_ix (show IxR _ (rIxL K) from ix_list) (pv 0) pe_int (fun _ _ => rfl)) pa_nil)) (nomark _)))))
      (pss_cons (ps_asg (pe_op (show OpR _ _ (rImm2 K divV) from op_divV) (pv 4) (pv 1)) (pg_sub (pv 0) pe_int set_listG))
    (pss_one (ps_ret (pe_op (show OpR _ _ (rImm2 K modV) from op_modV) (pv 4) (pv 1)))))
      pss_nil)
    (pss_cons (ps_set (i := 5) sc_q_next.nd rfl (Or.inl rfl) (pe_op (show OpR _ _ (rImm2 K modV) from op_modV) (pe_op (show OpR _ _ (rImm2 K mulV) from op_mulV) (pe_op (show OpR _ _ (rImm2 K addV) from op_addV) (pe_op (show OpR _ _ (rImm2 K addV) from op_addV) (pe_op (show OpR _ _ (rImm2 K addV) from op_addV) (pe_op (show OpR _ _ (rImm2 K modV) from op_modV) (pv 4) pe_int) (pe_op (show OpR _ _ (rImm2 K mulV) from op_mulV) (pe_op (show OpR _ _ (rImm2 K mulV) from op_mulV) pe_int (pv 3)) (pv 3))) (pe_op (show OpR _ _ (rImm2 K mulV) from op_mulV) pe_int (pv 3))) pe_int) pe_int) pe_int))
    (pss_one (ps_ret (pe_op (show OpR _ _ (rImm2 K modV) from op_modV) (pe_op (show OpR _ _ (rImm2 K divV) from op_divV) (pe_op (show OpR _ _ (rImm2 K modV) from op_modV) (pe_op (show OpR _ _ (rImm2 K mulV) from op_mulV) (pe_op (show OpR _ _ (rImm2 K modV) from op_modV) (pe_op (show OpR _ _ (rImm2 K addV) from op_addV) (pe_op (show OpR _ _ (rImm2 K addV) from op_addV) (pe_op (show OpR _ _ (rImm2 K mulV) from op_mulV) (pv 5) (pv 5)) (pe_op (show OpR _ _ (rImm2 K mulV) from op_mulV) pe_int (pv 3))) pe_int) pe_int) pe_int) pe_int) pe_int) (pv 1)))))))))), ?_⟩
  refine spV_body (n := 4) h rfl (fun a vs hl => ?_)
  match vs, hl with
  | [v0, v1], _ =>
  obtain ⟨a_0, a_1⟩ := a
  show SV (ctxF K (cmX T) E) _ [.iow v0 (.list a_0), .imm a_1, .no, .no, .no, .no] (f_q_next a_0 a_1) _
  unfold f_q_next
  refine (sv_seq (sv_if (tv_test (ev_op (ev_op (ev_iow rfl (ev_int (opK (opS_ixL (.bor _)) rfl (fun z1 => (ev_int (opK (opS_dat2 (.imm _) (.imm _)) rfl (fun b2 => ⟨_, rfl, ⟨_, _, rfl, (sv_seq (sv_asg (ev_op (ev_op (ev_iow rfl (ev_int (opK (opS_ixL (.bor _)) rfl (fun z3 => (ev_imm rfl (opK opS_imm2 rfl (fun z4 => (gv_name rfl rfl ?h15)) (nx_modV _ _)))) (nx_ixV _ _)))))))), (sv_next (sv_seq (sv_asg (ev_op (ev_iow rfl (ev_int (opK (opS_ixL (.bor _)) rfl (fun z8 => (gv_name rfl rfl ?h16)) (nx_ixV _ _))))))))⟩⟩) (nx_gtV _ _)))) (nx_ixV _ _)))))))))
  case h15 =>
   show SV _ _ [.iow v0 (.list a_0), .imm a_1, .imm z4, .no, .no, .no] _ _
   exact (sv_seq (sv_set (ev_op (ev_op (ev_iow rfl (ev_int (opK (opS_ixL (.bor _)) rfl (fun z5 => (ev_imm rfl (opK opS_imm2 rfl (fun z6 => ⟨_, _, _, _, (.imm _), rfl, (.iow _ _), (ev_int ⟨_, _, _, _, _, rfl, rfl, (.iow _ _), rfl, fun z7 => (sv_ret (ev_imm rfl ⟨_, rfl, rfl, (.io (.imm .nil))⟩))⟩)⟩) (nx_divV _ _)))) (nx_ixV _ _))))))))
  case h16 =>
   show SV _ _ [.iow v0 (.list a_0), .imm a_1, .no, .imm z8, .no, .no] _ _
   refine (sv_seq (sv_set (ev_op (ev_imm rfl (ev_int (opK opS_imm2 rfl (fun z9 => ⟨_, _, _, _, (.imm _), rfl, (.iow _ _), (ev_int ⟨_, _, _, _, _, rfl, rfl, (.iow _ _), rfl, fun z10 => (sv_seq (sv_asg (ev_if (tv_test (ev_op (ev_op (ev_iow rfl (ev_int (opS_ixLL (.bor _) rfl fun z11 => (ev_lstO (ea_nil ⟨[], .nil, Nat.le_of_ble_eq_true rfl, (opK (opS_dat2 (.bor _) (.own _)) rfl (fun b12 => ⟨_, rfl, ⟨_, _, _, rfl, (ev_op (ev_op (ev_iow rfl (ev_int (opS_ixLL (.bor _) rfl fun z13 => (ev_op (ev_imm rfl (ev_cb (ea_cons (ev_op (ev_iow rfl (ev_int (opS_ixLL (.bor _) rfl fun z14 => (ea_nil (caK1 (unK (unS_arg1 (unS_dat1 (.bor _))) rfl (fun z15 => (opK opS_imm2 rfl (fun z16 => (opK (opS_ixL (.bor _)) rfl (fun z17 => ⟨_, rfl, rfl, rfl⟩) (nx_ixV _ _))) (nx_modV _ _))) (nx_lenV _))))))))))))))))), (ev_int ⟨_, rfl, rfl, rfl⟩), fun z18 => (gv_name rfl rfl ?h17)⟩⟩) (nx_neV _ _))⟩)))))))))))⟩)⟩) (nx_addV _ _)))))))
   case h17 =>
    show SV _ _ [.iow v0 (.list z10), .imm a_1, .no, .imm z8, .imm z18, .no] _ _
    refine (sv_seq (sv_if (tv_and (tv_test (ev_op (ev_imm rfl (ev_op (ev_int (ev_int (opK opS_imm2 rfl (fun z19 => (opK (opS_dat2 (.imm _) (.imm _)) rfl (fun b20 => ⟨_, rfl, ⟨_, _, rfl, (tv_test (ev_op (ev_imm rfl (ev_cb (ea_cons (ev_op (ev_iow rfl (ev_int (opS_ixLL (.bor _) rfl fun z22 => (ea_nil (caK1 (unK (unS_arg1 (unS_dat1 (.bor _))) rfl (fun z23 => (opK (opS_dat2 (.imm _) (.imm _)) rfl (fun b24 => ⟨_, rfl, ⟨rfl, rfl⟩⟩) (nx_ltV _ _))) (nx_lenV _))))))))))))), fun b21 => ⟨_, _, rfl, (sv_seq (sv_set (ev_op (ev_imm rfl (ev_imm rfl (opK opS_imm2 rfl (fun z25 => ⟨_, _, _, _, (.imm _), rfl, (.iow _ _), (ev_int ⟨_, _, _, _, _, rfl, rfl, (.iow _ _), rfl, fun z26 => (sv_ret (ev_op (ev_imm rfl (ev_imm rfl (opK opS_imm2 rfl (fun z27 => ⟨_, rfl, rfl, (.io (.imm .nil))⟩) (nx_modV _ _))))))⟩)⟩) (nx_divV _ _))))))), (sv_next (sv_seq (sv_asg (ev_op (ev_op (ev_op (ev_op (ev_op (ev_op (ev_imm rfl (ev_int (opK opS_imm2 rfl (fun z28 => (ev_op (ev_op (ev_int (ev_imm rfl (opK opS_imm2 rfl (fun z29 => (ev_imm rfl (opK opS_imm2 rfl (fun z30 => (opK opS_imm2 rfl (fun z31 => (ev_op (ev_int (ev_imm rfl (opK opS_imm2 rfl (fun z32 => (opK opS_imm2 rfl (fun z33 => (ev_int (opK opS_imm2 rfl (fun z34 => (ev_int (opK opS_imm2 rfl (fun z35 => (ev_int (opK opS_imm2 rfl (fun z36 => (gv_name rfl rfl ?h18)) (nx_modV _ _)))) (nx_mulV _ _)))) (nx_addV _ _)))) (nx_addV _ _))) (nx_mulV _ _)))))) (nx_addV _ _))) (nx_mulV _ _)))) (nx_mulV _ _))))))) (nx_modV _ _)))))))))))))⟩⟩⟩) (nx_geV _ _))) (nx_powV _ _)))))))))))
    case h18 =>
     show SV _ _ [.iow v0 (.list z10), .imm a_1, .no, .imm z8, .imm z18, .imm z36] _ _
     exact (sv_ret (ev_op (ev_op (ev_op (ev_op (ev_op (ev_op (ev_op (ev_op (ev_imm rfl (ev_imm rfl (opK opS_imm2 rfl (fun z37 => (ev_op (ev_int (ev_imm rfl (opK opS_imm2 rfl (fun z38 => (opK opS_imm2 rfl (fun z39 => (ev_int (opK opS_imm2 rfl (fun z40 => (ev_int (opK opS_imm2 rfl (fun z41 => (ev_int (opK opS_imm2 rfl (fun z42 => (ev_int (opK opS_imm2 rfl (fun z43 => (ev_int (opK opS_imm2 rfl (fun z44 => (ev_imm rfl (opK opS_imm2 rfl (fun z45 => ⟨_, rfl, rfl, (.io (.imm .nil))⟩) (nx_modV _ _)))) (nx_divV _ _)))) (nx_modV _ _)))) (nx_mulV _ _)))) (nx_modV _ _)))) (nx_addV _ _)))) (nx_addV _ _))) (nx_mulV _ _)))))) (nx_mulV _ _)))))))))))))
abbrev sp_q_way (K : PySem.W.Frag) (cm : Str → Option Addr) : Sp := spV K cm (α := List PyData × PyData × PyData) [.io, .imm, .imm] (fun a => [.list a.1, a.2.1, a.2.2]) (fun a => f_q_way a.1 a.2.1 a.2.2) (fun z => .imm z.1) (fun z => [.list z.2])
theorem sc_q_way : FnScope N_q_way ["_law_feed_here", "_law_beats", "_law_works"] (defScope s_q_way) := ⟨rfl, rfl, rfl, by decide +kernel, rfl, by decide +kernel, by decide +kernel⟩
theorem ok_q_way (T : Txt K mg) : FnG P w K mg base CX0 2 T.f_q_way T.fd_q_way ["_law_feed_here", "_law_beats", "_law_works"] (sp_q_way K (cmX T)) := by
  refine okG0 T.F_q_way sc_q_way (fun vs H Q E h => spV_len h) (fun cdv A out s H vs Q E hgd hr h => ?_)
  have hu := hu_of hr
  have hu1 : (A.deeper (envOfC "_law_way" (defScope s_q_way) s.heap.objs.size T.f_q_way cdv)).units + 160 < cLine := by have := hr.un; omega
  have hu64 : (A.deeper (envOfC "_law_way" (defScope s_q_way) s.heap.objs.size T.f_q_way cdv)).units + 64 < cLine := by omega
  have hu65 : (A.deeper (envOfC "_law_way" (defScope s_q_way) s.heap.objs.size T.f_q_way cdv)).units + 65 < cLine := by omega
  refine ⟨_, (pss_cons (ps_set (i := 3) sc_q_way.nd rfl (Or.inl rfl) (pe_lstG pa_nil))
    (pss_cons (ps_set (i := 4) sc_q_way.nd rfl (Or.inl rfl) pe_int)
    (pss_cons (ps_for PassesOwn.never rfl (pi_range1 rfl T.z_range (pa_cons (pe_callG (ok_q_next T) hgd (hr.mono (by decide)) (by rfl) T.m_q_next T.F_q_next.kp T.b_q_next .nil (pass0E (E := E)) (pa_cons (pv 0) (pa_cons (pe_op (show OpR _ _ (rImm2 K addV) from op_addV) (pv 1) pe_int) pa_nil))) pa_nil)) (pg_name (i := 5) sc_q_way.nd rfl (Or.inl rfl))
      (pss_cons (ps_set (i := 6) sc_q_way.nd rfl (Or.inl rfl) (pe_lstG pa_nil))
    (pss_cons (ps_for PassesOwn.never rfl (pi_range1 rfl T.z_range (pa_cons (pe_ix (show IxR _ (rIxV K) from ix_V) (pe_lstG (pa_cons pe_int (pa_cons pe_int (pa_cons pe_int (pa_cons pe_int (pa_cons pe_int (pa_cons pe_int pa_nil))))))) (pe_callG (ok_q_next T) hgd (hr.mono (by decide)) (by rfl) T.m_q_next T.F_q_next.kp T.b_q_next .nil (pass0E (E := E)) (pa_cons (pv 0) (pa_cons pe_int pa_nil))) (fun _ _ => rfl)) pa_nil)) (pg_name (i := 7) sc_q_way.nd rfl (Or.inl rfl))
      (pss_one (ps_if (pt_cmpR (show OpR _ _ (rDat2 K ltV) from (op_ltVd hu1)) (pv 4) pe_int (nomark _))
      (pss_cons (ps_expr (show PE _ _ (tBM K "list" rAppG _ _) from pe_bm PySem.F.plainAttrs_list PySem.F.slot_list_append PySem.F.type_list_append mt_appendG (pv 6) (pa_cons (pe_tupG (pa_cons (pe_callG (ok_q_next T) hgd (hr.mono (by decide)) (by rfl) T.m_q_next T.F_q_next.kp T.b_q_next .nil (pass0E (E := E)) (pa_cons (pv 0) (pa_cons pe_int pa_nil))) (pa_cons (pe_op (show OpR _ _ (rImm2 K addV) from op_addV) pe_int (pe_callG (ok_q_next T) hgd (hr.mono (by decide)) (by rfl) T.m_q_next T.F_q_next.kp T.b_q_next .nil (pass0E (E := E)) (pa_cons (pv 0) (pa_cons (pv 2) pa_nil)))) pa_nil))) pa_nil)))
    (pss_one (ps_set (i := 4) sc_q_way.nd rfl (Or.inl rfl) (pe_op (show OpR _ _ (rImm2 K addV) from op_addV) (pv 4) pe_int))))
      pss_nil)))
    (pss_one (ps_expr (show PE _ _ (tBM K "list" rAppG _ _) from pe_bm PySem.F.plainAttrs_list PySem.F.slot_list_append PySem.F.type_list_append mt_appendG (pv 3) (pa_cons (pe_callTy (show CallR _ _ (arg1 (rDat1 K tupV)) from call_tupV) (by rfl) T.z_tuple (by decide +kernel) (pa_cons (pv 6) pa_nil)) pa_nil)))))))
    (pss_one (ps_ret (pe_callTy (show CallR _ _ (arg1 (rDat1 K tupV)) from call_tupV) (by rfl) T.z_tuple (by decide +kernel) (pa_cons (pv 3) pa_nil))))))), ?_⟩
  refine spV_body (n := 5) h rfl (fun a vs hl => ?_)
  match vs, hl with
  | [v0, v1, v2], _ =>
  obtain ⟨a_0, a_1, a_2⟩ := a
  show SV (ctxF K (cmX T) E) _ [.iow v0 (.list a_0), .imm a_1, .imm a_2, .no, .no, .no, .no, .no] (f_q_way a_0 a_1 a_2) _
  unfold f_q_way
  refine (sv_seq (sv_asg (ev_lstO (ea_nil ⟨[], .nil, Nat.le_of_ble_eq_true rfl, (gv_name rfl rfl ?h19)⟩))))
  case h19 =>
   show SV _ _ [.iow v0 (.list a_0), .imm a_1, .imm a_2, .own (.list []), .no, .no, .no, .no] _ _
   refine (sv_seq (sv_asg (ev_int (gv_name rfl rfl ?h20))))
   case h20 =>
    show SV _ _ [.iow v0 (.list a_0), .imm a_1, .imm a_2, .own (.list []), .imm (.int 0), .no, .no, .no] _ _
    refine (sv_seq (sv_for (fun s5 : PyData × List PyData × List PyData => [.iow v0 (.list s5.2.1), .imm a_1, .imm a_2, .own (.list s5.2.2), .imm s5.1, .no, .no, .no]) (iv_range1 (ea_cons (ev_callI rfl (ex_al rfl (fun z => nomatch z) (ex_val (ev_op (ev_imm rfl (ev_int (opK opS_imm2 rfl (fun z1 => (ex_nil ⟨(a_0, z1), 0, _, _, _, (.io rfl (.iow _ _) (.imm .nil)), _, rfl, fun z2 => ⟨_, rfl, .imm _, (ea_nil ⟨_, _, rfl, rfl, fun ds3 => ⟨((.int 0), z2.2, []), _, _, rfl, (.cons (.same _) (.cons (.same _) (.cons (.same _) (.cons (.same _) (.cons (.same _) (.cons (.drop _) (.cons (.drop _) (.cons (.drop _) .nil)))))))), fun x4 s5 hx => (gv_name rfl rfl ?h21), fun s5 => (sv_ret (ev_cb (ea_cons (ev_own rfl (ea_nil (caK1 (unK (unS_arg1 (unS_dat1 (.bor _))) rfl (fun z20 => ⟨_, rfl, rfl, (.io (.imm (.imm .nil)))⟩) (nx_tupV _))))))))⟩⟩)⟩⟩)) (nx_addV _ _))))))))))))
    case h21 =>
     refine (sv_seq (sv_asg (ev_lstO (ea_nil ⟨[], .nil, Nat.le_of_ble_eq_true rfl, (gv_name rfl rfl ?h22)⟩))))
     case h22 =>
      show SV _ _ [.iow v0 (.list s5.2.1), .imm a_1, .imm a_2, .own (.list s5.2.2), .imm s5.1, .imm x4, .own (.list []), .no] _ _
      refine (sv_seq (sv_for (fun s10 : List PyData × PyData × List PyData => [.iow v0 (.list s10.2.2), .imm a_1, .imm a_2, .own (.list s5.2.2), .imm s10.2.1, .imm x4, .own (.list s10.1), .no]) (iv_range1 (ea_cons (ev_op (ev_lstO (ea_cons (ev_int (ea_cons (ev_int (ea_cons (ev_int (ea_cons (ev_int (ea_cons (ev_int (ea_cons (ev_int (ea_nil ⟨[(.int 0), (.int 0), (.int 1), (.int 1), (.int 2), (.int 3)], (.cons (.imm _) (.cons (.imm _) (.cons (.imm _) (.cons (.imm _) (.cons (.imm _) (.cons (.imm _) .nil)))))), Nat.le_of_ble_eq_true rfl, (ev_callI rfl (ex_al rfl (fun z => nomatch z) (ex_val (ev_int (ex_nil ⟨(s5.2.1, (.int 6)), 0, _, _, _, (.io rfl (.iow _ _) (.imm .nil)), _, rfl, fun z6 => ⟨_, rfl, .imm _, (opK (opS_ixL (.own _)) rfl (fun z7 => (ea_nil ⟨_, _, rfl, rfl, fun ds8 => ⟨([], s5.1, z6.2), _, _, rfl, (.cons (.same _) (.cons (.same _) (.cons (.same _) (.cons (.same _) (.cons (.same _) (.cons (.same _) (.cons (.same _) (.cons (.drop _) .nil)))))))), fun x9 s10 hx => (gv_name rfl rfl ?h23), fun s10 => (sv_app rfl (.own _) (ev_cb (ea_cons (ev_own rfl (ea_nil (caK1 (unK (unS_arg1 (unS_dat1 (.bor _))) rfl (fun z18 => ⟨_, _, _, _, _, (.imm _), rfl, (.own _), rfl, fun z19 => ⟨(s10.2.1, s10.2.2, z19), rfl, (.cons (.same _) (.cons (.same _) (.cons (.same _) (.cons (.same _) (.cons (.same _) (.cons (.drop _) (.cons (.drop _) (.cons (.drop _) .nil))))))))⟩⟩) (nx_tupV _))))))))⟩⟩)) (nx_ixV _ _))⟩⟩)))))⟩)))))))))))))))))))
      case h23 =>
       exact (sv_ifk (tv_test (ev_op (ev_imm rfl (ev_int (opK (opS_dat2 (.imm _) (.imm _)) rfl (fun b11 => ⟨_, rfl, ⟨(fun s12 : List PyData × List PyData × PyData => [.iow v0 (.list s12.2.1), .imm a_1, .imm a_2, .own (.list s5.2.2), .imm s12.2.2, .imm x4, .own (.list s12.1), .imm x9]), _, _, _, rfl, (sv_seq (sv_app rfl (.own _) (ev_tupI (ea_cons (ev_callI rfl (ex_al rfl (fun z => nomatch z) (ex_val (ev_int (ex_nil ⟨(s10.2.2, (.int 2)), 0, _, _, _, (.io rfl (.iow _ _) (.imm .nil)), _, rfl, fun z13 => ⟨_, rfl, .imm _, (ea_cons (ev_op (ev_int (ev_callI rfl (ex_al rfl (fun z => nomatch z) (ex_val (ev_imm rfl (ex_nil ⟨(z13.2, a_2), 0, _, _, _, (.io rfl (.iow _ _) (.imm .nil)), _, rfl, fun z14 => ⟨_, rfl, .imm _, (opK opS_imm2 rfl (fun z15 => (ea_nil ⟨[z13.1, z15], rfl, Nat.le_of_ble_eq_true rfl, ⟨_, _, _, _, _, (.imm _), rfl, (.own _), rfl, fun z16 => (sv_asg (ev_op (ev_imm rfl (ev_int (opK opS_imm2 rfl (fun z17 => (gv_name rfl rfl ⟨(z16, z14.2, z17), rfl, (.cons (.same _) (.cons (.same _) (.cons (.same _) (.cons (.same _) (.cons (.same _) (.cons (.same _) (.cons (.same _) (.cons (.same _) .nil))))))))⟩)) (nx_addV _ _))))))⟩⟩)) (nx_addV _ _))⟩⟩))))))))⟩⟩))))))))), (sv_next ⟨(s10.1, s10.2.2, s10.2.1), rfl, (.cons (.same _) (.cons (.same _) (.cons (.same _) (.cons (.same _) (.cons (.same _) (.cons (.same _) (.cons (.same _) (.cons (.same _) .nil))))))))⟩), fun s12 => ⟨(s12.1, s12.2.2, s12.2.1), rfl, (.cons (.same _) (.cons (.same _) (.cons (.same _) (.cons (.same _) (.cons (.same _) (.cons (.same _) (.cons (.same _) (.cons (.drop _) .nil))))))))⟩⟩⟩) (nx_ltV _ _)))))))
abbrev sp_q_flat (K : PySem.W.Frag) (cm : Str → Option Addr) : Sp := spV K cm (α := PyData) [.imm] (fun a => [a]) (fun a => f_q_flat a) (fun z => .own (.list z)) (fun _ => [])
theorem sc_q_flat : FnScope N_q_flat ["_law_way_here"] (defScope s_q_flat) := ⟨rfl, rfl, rfl, by decide +kernel, rfl, by decide +kernel, by decide +kernel⟩
theorem ok_q_flat (T : Txt K mg) : FnG P w K mg base CX0 1 T.f_q_flat T.fd_q_flat ["_law_way_here"] (sp_q_flat K (cmX T)) := by
  refine okG0 T.F_q_flat sc_q_flat (fun vs H Q E h => spV_len h) (fun cdv A out s H vs Q E hgd hr h => ?_)
  have hu := hu_of hr
  have hu1 : (A.deeper (envOfC "_law_flat" (defScope s_q_flat) s.heap.objs.size T.f_q_flat cdv)).units + 160 < cLine := by have := hr.un; omega
  have hu64 : (A.deeper (envOfC "_law_flat" (defScope s_q_flat) s.heap.objs.size T.f_q_flat cdv)).units + 64 < cLine := by omega
  have hu65 : (A.deeper (envOfC "_law_flat" (defScope s_q_flat) s.heap.objs.size T.f_q_flat cdv)).units + 65 < cLine := by omega
  refine ⟨_, (pss_cons (ps_set (i := 1) sc_q_flat.nd rfl (Or.inl rfl) (pe_lstG pa_nil))
    (pss_cons (ps_for PassesOwn.never rfl (pi_range1 rfl T.z_range (pa_cons (pe_callB (show CallR _ _ (arg1 (rDat1 K lenV)) from call_lenV) (by rfl) T.z_len (by decide +kernel) (pa_cons (pv 0) pa_nil)) pa_nil)) (pg_name (i := 2) sc_q_flat.nd rfl (Or.inl rfl))
      (pss_one (ps_for PassesOwn.never rfl (show PI _ _ _ (iTup K _) from pi_tup (pe_ix (show IxR _ (rIxV K) from ix_V) (pv 0) (pv 2) (fun _ _ => rfl))) (pg_name (i := 3) sc_q_flat.nd rfl (Or.inl rfl))
      (pss_one (ps_expr (show PE _ _ (tBM K "list" rAppG _ _) from pe_bm PySem.F.plainAttrs_list PySem.F.slot_list_append PySem.F.type_list_append mt_appendG (pv 1) (pa_cons (pe_tupG (pa_cons (pv 2) (pa_cons (pv 3) (pa_cons (pe_callB (show CallR _ _ (arg1 (rDat1 K lenV)) from call_lenV) (by rfl) T.z_len (by decide +kernel) (pa_cons (pv 1) pa_nil)) pa_nil)))) pa_nil)))))))
    (pss_one (ps_ret (pv 1))))), ?_⟩
  refine spV_body (n := 3) h rfl (fun a vs hl => ?_)
  match vs, hl with
  | [v0], _ =>
  let a_0 := a
  show SV (ctxF K (cmX T) E) _ [.imm a_0, .no, .no, .no] (f_q_flat a_0) _
  unfold f_q_flat
  refine (sv_seq (sv_asg (ev_lstO (ea_nil ⟨[], .nil, Nat.le_of_ble_eq_true rfl, (gv_name rfl rfl ?h24)⟩))))
  case h24 =>
   show SV _ _ [.imm a_0, .own (.list []), .no, .no] _ _
   refine (sv_seq (sv_for (fun s4 : List PyData => [.imm a_0, .own (.list s4), .no, .no]) (iv_range1 (ea_cons (ev_cb (ea_cons (ev_imm rfl (ea_nil (caK1 (unK (unS_arg1 (unS_dat1 (.imm _))) rfl (fun z1 => (ea_nil ⟨_, _, rfl, rfl, fun ds2 => ⟨[], _, _, rfl, (.cons (.same _) (.cons (.same _) (.cons (.drop _) (.cons (.drop _) .nil)))), fun x3 s4 hx => (gv_name rfl rfl ?h25), fun s4 => (sv_ret (ev_move rfl rfl ⟨_, rfl, rfl, (.imm .nil)⟩))⟩⟩)) (nx_lenV _)))))))))))
   case h25 =>
    refine (sv_for (fun s8 : List PyData => [.imm a_0, .own (.list s8), .imm x3, .no]) (iv_tup (ev_op (ev_imm rfl (ev_imm rfl (opK opS_ixT rfl (fun z5 => ⟨_, _, rfl, rfl, fun ds6 => ⟨s4, _, _, rfl, (.cons (.same _) (.cons (.same _) (.cons (.same _) (.cons (.drop _) .nil)))), fun x7 s8 hx => (gv_name rfl rfl ?h26), fun s8 => ⟨s8, rfl, (.cons (.same _) (.cons (.same _) (.cons (.drop _) (.cons (.drop _) .nil))))⟩⟩⟩) (nx_ixV _ _)))))))
    case h26 =>
     exact (sv_app rfl (.own _) (ev_tupI (ea_cons (ev_imm rfl (ea_cons (ev_imm rfl (ea_cons (ev_cb (ea_cons (ev_own rfl (ea_nil (caK1 (unK (unS_arg1 (unS_dat1 (.bor _))) rfl (fun z9 => (ea_nil ⟨[x3, x7, z9], rfl, Nat.le_of_ble_eq_true rfl, ⟨_, _, _, _, _, (.imm _), rfl, (.own _), rfl, fun z10 => ⟨z10, rfl, (.cons (.same _) (.cons (.same _) (.cons (.same _) (.cons (.drop _) .nil))))⟩⟩⟩)) (nx_lenV _))))))))))))))
abbrev sp_q_built (K : PySem.W.Frag) (cm : Str → Option Addr) : Sp := spV K cm (α := List PyData × PyData) [.shr, .imm] (fun a => [.list a.1, a.2]) (fun a => f_q_built a.1 a.2) (fun z => .imm z) (fun _ => [])
theorem sc_q_built : FnScope N_q_built ["_law_rows", "_law_many"] (defScope s_q_built) := ⟨rfl, rfl, rfl, by decide +kernel, rfl, by decide +kernel, by decide +kernel⟩
theorem ok_q_built (T : Txt K mg) : FnG P w K mg base CX0 1 T.f_q_built T.fd_q_built ["_law_rows", "_law_many"] (sp_q_built K (cmX T)) := by
  refine okG0 T.F_q_built sc_q_built (fun vs H Q E h => spV_len h) (fun cdv A out s H vs Q E hgd hr h => ?_)
  have hu := hu_of hr
  have hu1 : (A.deeper (envOfC "_law_built" (defScope s_q_built) s.heap.objs.size T.f_q_built cdv)).units + 160 < cLine := by have := hr.un; omega
  have hu64 : (A.deeper (envOfC "_law_built" (defScope s_q_built) s.heap.objs.size T.f_q_built cdv)).units + 64 < cLine := by omega
  have hu65 : (A.deeper (envOfC "_law_built" (defScope s_q_built) s.heap.objs.size T.f_q_built cdv)).units + 65 < cLine := by omega
  refine ⟨_, (pss_cons (ps_setLc (i := 2) (own := [("_law_beat", 6)]) (g := (gName 6)) (tt := tYes) rfl sc_q_built.nd rfl rfl (sw_true rfl rfl rfl (by decide +kernel)) (pi_range1 rfl T.z_range (pa_cons (pv 1) pa_nil)) (blkOk_by (N := N_q_built) (sc := defScope s_q_built) (by decide +kernel)) (fun _ _ _ _ _ => (pg_name (i := 6) sc_q_built.nd rfl (Or.inr rfl))) (fun _ _ _ _ _ => pts_nil) (fun _ _ _ _ _ => (pe_callTy (show CallR _ _ (arg1 (rDat1 K tupV)) from call_tupV) (by rfl) T.z_tuple (by decide +kernel) (pa_cons (pe_lc (own := [("_law_at", 3), ("_law_comer", 4), ("_law_number", 5)]) (g := (gTup K 3 (gCons (gName 3) (gCons (gName 4) (gCons (gName 5) gNil))))) rfl sc_q_built.nd (show PI _ _ _ (iList K _) from pi_list (pv 0)) (blkOk_by (N := N_q_built) (by with_unfolding_all rfl)) (fun _ _ _ _ _ => (show PG _ _ (gTup K 3 _) from pg_tup rfl (pgs_cons (pg_name (i := 3) sc_q_built.nd rfl (Or.inl rfl)) (pgs_cons (pg_name (i := 4) sc_q_built.nd rfl (Or.inl rfl)) (pgs_cons (pg_name (i := 5) sc_q_built.nd rfl (Or.inl rfl)) pgs_nil))))) (fun _ _ _ _ _ => (pts_one (pt_cmpR (show OpR _ _ (rDat2 K eqV) from (op_eqVd hu64)) (pv 3) (pv 6) (nomark _)))) (fun _ _ _ _ _ => (pv 4))) pa_nil))))
    (pss_one (ps_ret (pe_tupG (pa_cons (pe_callTy (show CallR _ _ (arg1 (rDat1 K tupV)) from call_tupV) (by rfl) T.z_tuple (by decide +kernel) (pa_cons (pv 2) pa_nil)) (pa_cons (pe_callTy (show CallR _ _ (arg1 (rDat1 K tupV)) from call_tupV) (by rfl) T.z_tuple (by decide +kernel) (pa_cons (pe_lc (own := [("_law_at", 3), ("_law_comer", 4), ("_law_number", 5)]) (g := (gTup K 3 (gCons (gName 3) (gCons (gName 4) (gCons (gName 5) gNil))))) (tt := tYes) rfl sc_q_built.nd (show PI _ _ _ (iList K _) from pi_list (pv 0)) (blkOk_by (N := N_q_built) (sc := defScope s_q_built) (by decide +kernel)) (fun _ _ _ _ _ => (show PG _ _ (gTup K 3 _) from pg_tup rfl (pgs_cons (pg_name (i := 3) sc_q_built.nd rfl (Or.inl rfl)) (pgs_cons (pg_name (i := 4) sc_q_built.nd rfl (Or.inl rfl)) (pgs_cons (pg_name (i := 5) sc_q_built.nd rfl (Or.inl rfl)) pgs_nil))))) (fun _ _ _ _ _ => pts_nil) (fun _ _ _ _ _ => (pv 5))) pa_nil)) pa_nil)))))), ?_⟩
  refine spV_body (n := 5) h rfl (fun a vs hl => ?_)
  match vs, hl with
  | [v0, v1], _ =>
  obtain ⟨a_0, a_1⟩ := a
  show SV (ctxF K (cmX T) E) _ [.shr (.list a_0), .imm a_1, .no, .no, .no, .no, .no] (f_q_built a_0 a_1) _
  unfold f_q_built
  refine (sv_seq (sv_asg (ev_map (vs := [6]) [.shr (.list a_0), .imm a_1, .no, .no, .no, .no, .no] (hnoC rfl hnoN) rfl (fun _ h => h) rfl (iv_range1 (ea_cons (ev_imm rfl (ea_nil ⟨_, _, rfl, rfl, fun ds1 => ⟨_, _, rfl, (.cons (.same _) (.cons (.same _) (.cons (.drop _) (.cons (.drop _) (.cons (.drop _) (.cons (.drop _) (.cons (.drop _) .nil))))))), fun x2 hx => (gv_name rfl rfl ?h27), fun l11 => (gv_name rfl rfl ?h28)⟩⟩)))))))
  case h27 =>
   exact (ev_cb (ea_cons (ev_fmap (vs := [3, 4, 5]) [.shr (.list a_0), .imm a_1, .no, .no, .no, .no, .imm x2] (hnoC rfl (hnoC rfl (hnoC rfl hnoN))) rfl (fun _ h => h) rfl (iv_lstI (ev_shr rfl ⟨_, _, (.shr _), rfl, fun ds4 => ⟨_, _, rfl, (.cons (.same _) (.cons (.same _) (.cons (.drop _) (.cons (.drop _) (.cons (.drop _) (.cons (.drop _) (.cons (.same _) .nil))))))), fun x5 hx => (gv_tup3 rfl fun p7 => (gv_cons (gv_name rfl rfl (gv_cons (gv_name rfl rfl (gv_cons (gv_name rfl rfl (gv_nil (tv_test (ev_op (ev_imm rfl (ev_imm rfl (opK (opS_dat2 (.imm _) (.imm _)) rfl (fun b8 => ⟨_, rfl, ⟨_, _, rfl, (ev_imm rfl ⟨_, rfl, (.imm _), (.cons (.same _) (.cons (.same _) (.cons (.drop _) (.cons (.drop _) (.cons (.drop _) (.cons (.drop _) (.cons (.same _) .nil)))))))⟩), rfl, (.cons (.same _) (.cons (.same _) (.cons (.drop _) (.cons (.drop _) (.cons (.drop _) (.cons (.drop _) (.cons (.same _) .nil)))))))⟩⟩) (nx_eqV _ _)))))))))))))), fun l9 => (ea_nil (caK1 (unK (unS_arg1 (unS_dat1 (.own _))) rfl (fun z10 => ⟨_, rfl, (.imm _), (.cons (.same _) (.cons (.same _) (.cons (.drop _) (.cons (.drop _) (.cons (.drop _) (.cons (.drop _) (.cons (.drop _) .nil)))))))⟩) (nx_tupV _))))⟩⟩)))))
  case h28 =>
   show SV _ _ [.shr (.list a_0), .imm a_1, .own (.list l11), .no, .no, .no, .no] _ _
   exact (sv_ret (ev_tupI (ea_cons (ev_cb (ea_cons (ev_own rfl (ea_nil (caK1 (unK (unS_arg1 (unS_dat1 (.bor _))) rfl (fun z12 => (ea_cons (ev_cb (ea_cons (ev_map (vs := [3, 4, 5]) [.shr (.list a_0), .imm a_1, .own (.list l11), .no, .no, .no, .no] (hnoC rfl (hnoC rfl (hnoC rfl hnoN))) rfl (fun _ h => h) rfl (iv_lstI (ev_shr rfl ⟨_, _, (.shr _), rfl, fun ds13 => ⟨_, _, rfl, (.cons (.same _) (.cons (.same _) (.cons (.same _) (.cons (.drop _) (.cons (.drop _) (.cons (.drop _) (.cons (.drop _) .nil))))))), fun x14 hx => (gv_tup3 rfl fun p16 => (gv_cons (gv_name rfl rfl (gv_cons (gv_name rfl rfl (gv_cons (gv_name rfl rfl (gv_nil (ev_imm rfl ⟨_, rfl, (.imm _), (.cons (.same _) (.cons (.same _) (.cons (.same _) (.cons (.drop _) (.cons (.drop _) (.cons (.drop _) (.cons (.drop _) .nil)))))))⟩))))))))), fun l17 => (ea_nil (caK1 (unK (unS_arg1 (unS_dat1 (.own _))) rfl (fun z18 => (ea_nil ⟨[z12, z18], rfl, Nat.le_of_ble_eq_true rfl, ⟨_, rfl, rfl, (.shr (.imm .nil))⟩⟩)) (nx_tupV _))))⟩⟩))))))) (nx_tupV _))))))))))
abbrev sp_q_told (K : PySem.W.Frag) (cm : Str → Option Addr) : Sp := spV K cm (α := PyData × PyData × PyData) [.imm, .imm, .imm] (fun a => [a.1, a.2.1, a.2.2]) (fun a => f_q_told a.1 a.2.1 a.2.2) (fun z => .imm z) (fun _ => [])
theorem sc_q_told : FnScope N_q_told ["_law_deed_here", "_law_way_here", "_law_some"] (defScope s_q_told) := ⟨rfl, rfl, rfl, by decide +kernel, rfl, by decide +kernel, by decide +kernel⟩
theorem ok_q_told (T : Txt K mg) : FnG P w K mg base CX0 5 T.f_q_told T.fd_q_told ["_law_deed_here", "_law_way_here", "_law_some"] (sp_q_told K (cmX T)) := by
  refine okG0 T.F_q_told sc_q_told (fun vs H Q E h => spV_len h) (fun cdv A out s H vs Q E hgd hr h => ?_)
  have hu := hu_of hr
  have hu1 : (A.deeper (envOfC "_law_told" (defScope s_q_told) s.heap.objs.size T.f_q_told cdv)).units + 160 < cLine := by have := hr.un; omega
  have hu64 : (A.deeper (envOfC "_law_told" (defScope s_q_told) s.heap.objs.size T.f_q_told cdv)).units + 64 < cLine := by omega
  have hu65 : (A.deeper (envOfC "_law_told" (defScope s_q_told) s.heap.objs.size T.f_q_told cdv)).units + 65 < cLine := by omega
  refine ⟨_, (pss_cons (ps_set (i := 3) sc_q_told.nd rfl (Or.inl rfl) pe_non)
    (pss_cons (ps_tryAs (i := 4) rfl rfl sc_q_told.nd rfl rfl ⟨rfl, by decide, .inl T.mC_WaitError⟩ takes0 (fun W pn xe tk po => (pss_one (ps_if (pt_cmpR (show OpR _ _ (rDat2 K eqV) from (op_eqVd hu64)) (pv 0) pe_str (nomark _))
      (pss_one (ps_set (i := 3) sc_q_told.nd rfl (Or.inl rfl) (pe_tupG (pa_cons pe_str (pa_cons (pe_callGS (ok_p_with_comer T) hgd (hr.mono (by decide)) (by rfl) T.m_p_with_comer T.F_p_with_comer.kp T.b_p_with_comer (fun σ => passAt tk σ) (pa_cons (pv 1) (pa_cons (pe_ix (show IxR _ (rIxV K) from ix_V) (pv 2) pe_int (fun _ _ => rfl)) (pa_cons (pe_ix (show IxR _ (rIxV K) from ix_V) (pv 2) pe_int (fun _ _ => rfl)) (pa_cons (pe_ix (show IxR _ (rIxV K) from ix_V) (pv 2) pe_int (fun _ _ => rfl)) pa_nil))))) pa_nil)))))
      (pss_one (ps_if (pt_cmpR (show OpR _ _ (rDat2 K eqV) from (op_eqVd hu64)) (pv 0) pe_str (nomark _))
      (pss_one (ps_set (i := 3) sc_q_told.nd rfl (Or.inl rfl) (pe_tupG (pa_cons pe_str (pa_cons (pe_callGS (ok_p_without T) hgd (hr.mono (by decide)) (by rfl) T.m_p_without T.F_p_without.kp T.b_p_without (fun σ => passAt tk σ) (pa_cons (pv 1) (pa_cons (pe_ix (show IxR _ (rIxV K) from ix_V) (pv 2) pe_int (fun _ _ => rfl)) pa_nil))) pa_nil)))))
      (pss_one (ps_set (i := 3) sc_q_told.nd rfl (Or.inl rfl) (pe_tupG (pa_cons pe_str (pa_cons (pe_callGS (ok_p_longer T) hgd (hr.mono (by decide)) (by rfl) T.m_p_longer T.F_p_longer.kp T.b_p_longer (fun σ => passAt tk σ) (pa_cons (pv 1) (pa_cons (pe_ix (show IxR _ (rIxV K) from ix_V) (pv 2) pe_int (fun _ _ => rfl)) (pa_cons (pe_ix (show IxR _ (rIxV K) from ix_V) (pv 2) pe_int (fun _ _ => rfl)) pa_nil)))) pa_nil)))))))))) (fun a oe cls d pn hz hf => (pss_cons (ps_set (i := 5) sc_q_told.nd rfl (Or.inl rfl) (pe_or (pe_callB (show CallR _ _ (rIsXT K a cls d) from call_isXT hz hf) (by rfl) T.z_isinstance (by decide +kernel) (pa_cons (pv 4) (pa_cons (pe_tupG (pa_cons (pe_glob (v := .ref T.C_NoHouse) rfl T.mC_NoHouse rfl) (pa_cons (pe_glob (v := .ref T.C_NoPaper) rfl T.mC_NoPaper rfl) (pa_cons (pe_glob (v := .ref T.C_NoRest) rfl T.mC_NoRest rfl) (pa_cons (pe_glob (v := .ref T.C_NoRow) rfl T.mC_NoRow rfl) (pa_cons (pe_glob (v := .ref T.C_NoText) rfl T.mC_NoText rfl) (pa_cons (pe_glob (v := .ref T.C_TooMany) rfl T.mC_TooMany rfl) pa_nil))))))) pa_nil))) (pe_one (pe_not (pe_callB (show CallR _ _ (rIsX K a cls d) from call_isX hz hf) (by rfl) T.z_isinstance (by decide +kernel) (pa_cons (pv 4) (pa_cons (pe_bltn (v := .ty "ValueError") (u := .type "ValueError") (by rfl) T.z_ValueError (by decide +kernel) rfl) pa_nil)))))))
    (pss_cons (ps_set (i := 3) sc_q_told.nd rfl (Or.inl rfl) (pe_tupG (pa_cons pe_str (pa_cons pe_int pa_nil))))
    (pss_cons (ps_if (PW.pt (pw_and (pt_val (pe_callB (show CallR _ _ (rIsX K a cls d) from call_isX hz hf) (by rfl) T.z_isinstance (by decide +kernel) (pa_cons (pv 4) (pa_cons (pe_glob (v := .ref T.C_NoBeat) rfl T.mC_NoBeat rfl) pa_nil)))) (pw_and (pt_not (pt_val (pe_callB (show CallR _ _ (rIsX K a cls d) from call_isX hz hf) (by rfl) T.z_isinstance (by decide +kernel) (pa_cons (pv 4) (pa_cons (pe_glob (v := .ref T.C_NoComer) rfl T.mC_NoComer rfl) pa_nil))))) (pw_and1 (pt_not (pt_val (pv 5)))))))
      (pss_one (ps_set (i := 3) sc_q_told.nd rfl (Or.inl rfl) (pe_tupG (pa_cons pe_str (pa_cons pe_int pa_nil)))))
      pss_nil)
    (pss_one (ps_if (PW.pt (pw_and (pt_val (pe_callB (show CallR _ _ (rIsX K a cls d) from call_isX hz hf) (by rfl) T.z_isinstance (by decide +kernel) (pa_cons (pv 4) (pa_cons (pe_glob (v := .ref T.C_NoComer) rfl T.mC_NoComer rfl) pa_nil)))) (pw_and (pt_not (pt_val (pe_callB (show CallR _ _ (rIsX K a cls d) from call_isX hz hf) (by rfl) T.z_isinstance (by decide +kernel) (pa_cons (pv 4) (pa_cons (pe_glob (v := .ref T.C_NoBeat) rfl T.mC_NoBeat rfl) pa_nil))))) (pw_and1 (pt_not (pt_val (pv 5)))))))
      (pss_one (ps_set (i := 3) sc_q_told.nd rfl (Or.inl rfl) (pe_tupG (pa_cons pe_str (pa_cons (show PE _ _ (tXf a cls d _ _ _) from pe_xf T.xf_NoComer (T.nf_NoComer "number" (by decide +kernel)) hz hf (pv 4)) pa_nil)))))
      pss_nil)))))))
    (pss_one (ps_ret (pv 3))))), ?_⟩
  refine spV_body (n := 3) h rfl (fun a vs hl => ?_)
  match vs, hl with
  | [v0, v1, v2], _ =>
  obtain ⟨a_0, a_1, a_2⟩ := a
  show SV (ctxF K (cmX T) E) _ [.imm a_0, .imm a_1, .imm a_2, .no, .no, .no] (f_q_told a_0 a_1 a_2) _
  unfold f_q_told
  refine (sv_seq (sv_asg (ev_non (gv_name rfl rfl ?h29))))
  case h29 =>
   show SV _ _ [.imm a_0, .imm a_1, .imm a_2, .imm .none, .no, .no] _ _
   refine (sv_seq (sv_tryAs (fun s2 : PyData => [.imm a_0, .imm a_1, .imm a_2, .imm s2, .no, .no]) [.imm a_0, .imm a_1, .imm a_2, .imm .none, .no, .no] (cat := (fun s => isE s "WaitError")) rfl (fun s D h => xexm_WaitError T h) (fun W P stp ly go => (sv_ifk (tv_test (ev_op (ev_imm rfl (ev_str (szS (by decide +kernel)) (opK (opS_dat2 (.imm _) (.imm _)) rfl (fun b3 => ⟨_, rfl, ⟨(fun s4 : PyData => [.imm a_0, .imm a_1, .imm a_2, .imm s4, .no, .no]), _, _, _, rfl, (sv_asg (ev_asI (ev_tupI (ea_cons (ev_str (szS (by decide +kernel)) (ea_cons (ev_callPX (ex_val (ev_imm rfl (ex_val (ev_op (ev_imm rfl (ev_int (opK opS_ixT rfl (fun z5 => (ex_val (ev_op (ev_imm rfl (ev_int (opK opS_ixT rfl (fun z6 => (ex_val (ev_op (ev_imm rfl (ev_int (opK opS_ixT rfl (fun z7 => (ex_nil ⟨(a_1, z5, z6, z7), (.imm (.imm (.imm (.imm .nil)))), (.cons (.same _) (.cons (.same _) (.cons (.same _) (.cons (.same _) (.cons (.drop _) (.cons (.drop _) .nil)))))), _, rfl, fun z8 => ⟨.imm _, (ea_nil ⟨[(.str "told"), z8], rfl, Nat.le_of_ble_eq_true rfl, ⟨_, _, (.imm _), rfl, fun z9 => (gv_name rfl rfl ⟨z9, rfl, (.cons (.same _) (.cons (.same _) (.cons (.same _) (.cons (.same _) (.cons (.drop _) (.cons (.drop _) .nil))))))⟩)⟩⟩)⟩⟩)) (nx_ixV _ _))))))) (nx_ixV _ _))))))) (nx_ixV _ _))))))))))))))), (sv_ifk (tv_test (ev_op (ev_imm rfl (ev_str (szS (by decide +kernel)) (opK (opS_dat2 (.imm _) (.imm _)) rfl (fun b10 => ⟨_, rfl, ⟨(fun s11 : PyData => [.imm a_0, .imm a_1, .imm a_2, .imm s11, .no, .no]), _, _, _, rfl, (sv_asg (ev_asI (ev_tupI (ea_cons (ev_str (szS (by decide +kernel)) (ea_cons (ev_callPX (ex_val (ev_imm rfl (ex_val (ev_op (ev_imm rfl (ev_int (opK opS_ixT rfl (fun z12 => (ex_nil ⟨(a_1, z12), (.imm (.imm .nil)), (.cons (.same _) (.cons (.same _) (.cons (.same _) (.cons (.same _) (.cons (.drop _) (.cons (.drop _) .nil)))))), _, rfl, fun z13 => ⟨.imm _, (ea_nil ⟨[(.str "told"), z13], rfl, Nat.le_of_ble_eq_true rfl, ⟨_, _, (.imm _), rfl, fun z14 => (gv_name rfl rfl ⟨z14, rfl, (.cons (.same _) (.cons (.same _) (.cons (.same _) (.cons (.same _) (.cons (.drop _) (.cons (.drop _) .nil))))))⟩)⟩⟩)⟩⟩)) (nx_ixV _ _))))))))))))))), (sv_asg (ev_asI (ev_tupI (ea_cons (ev_str (szS (by decide +kernel)) (ea_cons (ev_callPX (ex_val (ev_imm rfl (ex_val (ev_op (ev_imm rfl (ev_int (opK opS_ixT rfl (fun z15 => (ex_val (ev_op (ev_imm rfl (ev_int (opK opS_ixT rfl (fun z16 => (ex_nil ⟨(a_1, z15, z16), (.imm (.imm (.imm .nil))), (.cons (.same _) (.cons (.same _) (.cons (.same _) (.cons (.same _) (.cons (.drop _) (.cons (.drop _) .nil)))))), _, rfl, fun z17 => ⟨.imm _, (ea_nil ⟨[(.str "told"), z17], rfl, Nat.le_of_ble_eq_true rfl, ⟨_, _, (.imm _), rfl, fun z18 => (gv_name rfl rfl ⟨z18, rfl, (.cons (.same _) (.cons (.same _) (.cons (.same _) (.cons (.same _) (.cons (.drop _) (.cons (.drop _) .nil))))))⟩)⟩⟩)⟩⟩)) (nx_ixV _ _))))))) (nx_ixV _ _))))))))))))))), fun s11 => ⟨s11, rfl, (.cons (.same _) (.cons (.same _) (.cons (.same _) (.cons (.same _) (.cons (.drop _) (.cons (.drop _) .nil))))))⟩⟩⟩) (nx_eqV _ _))))))), fun s4 => ⟨s4, rfl, (.cons (.same _) (.cons (.same _) (.cons (.same _) (.cons (.same _) (.cons (.drop _) (.cons (.drop _) .nil))))))⟩⟩⟩) (nx_eqV _ _)))))))) _ rfl (fun xa xC xd e1 hcm hct => (sv_seq (sv_asg (ev_orV (ev_isxT (cs := [V.ref T.C_NoHouse, V.ref T.C_NoPaper, V.ref T.C_NoRest, V.ref T.C_NoRow, V.ref T.C_NoText, V.ref T.C_TooMany]) (b := isEs e1.cls ["NoHouse", "NoPaper", "NoRest", "NoRow", "NoText", "TooMany"]) rfl (xcls T hcm) (fun _ _ _ q => q) (Nat.le_of_ble_eq_true rfl) (.cons (.own _) (.cons (.own _) (.cons (.own _) (.cons (.own _) (.cons (.own _) (.cons (.own _) .nil)))))) (kitAnyC (xkit_NoHouse T hcm) (kitAnyC (xkit_NoPaper T hcm) (kitAnyC (xkit_NoRest T hcm) (kitAnyC (xkit_NoRow T hcm) (kitAnyC (xkit_NoText T hcm) (kitAnyC (xkit_TooMany T hcm) kitAnyN)))))) ⟨_, rfl, _, _, rfl, (ev_notV (ev_isx rfl (xcls T hcm) (.ty _) (xkit_ValueError T hcm) ⟨_, rfl, ⟨_, rfl, rfl, rfl⟩⟩)), fun b19 => (gv_name rfl rfl ?h30)⟩))))) (fun s2 => (sv_ret (ev_imm rfl ⟨_, rfl, rfl, (.imm (.imm (.imm .nil)))⟩)))))
   case h30 =>
    show SV _ _ [.imm a_0, .imm a_1, .imm a_2, .imm .none, .exc xa xC xd e1, .imm (.bool b19)] _ _
    refine (sv_seq (sv_asg (ev_tupI (ea_cons (ev_str (szS (by decide +kernel)) (ea_cons (ev_int (ea_nil ⟨[(.str "odd"), (.int 0)], rfl, Nat.le_of_ble_eq_true rfl, (gv_name rfl rfl ?h31)⟩))))))))
    case h31 =>
     show SV _ _ [.imm a_0, .imm a_1, .imm a_2, .imm (.tuple [(.str "odd"), (.int 0)]), .exc xa xC xd e1, .imm (.bool b19)] _ _
     exact (sv_seq (sv_ifk (tv_and (tv_testB (ev_isx rfl (xcls T hcm) (.own _) (xkit_NoBeat T hcm) ⟨_, rfl, ⟨_, _, rfl, (tv_and (tv_not (tv_testB (ev_isx rfl (xcls T hcm) (.own _) (xkit_NoComer T hcm) ⟨_, rfl, ⟨_, _, rfl, (tv_not (tv_testB (ev_imm rfl ⟨_, rfl, ⟨rfl, rfl⟩⟩))), fun b21 => ⟨rfl, rfl⟩⟩⟩)))), fun b20 => ⟨(fun s22 : PyData => [.imm a_0, .imm a_1, .imm a_2, .imm s22, .exc xa xC xd e1, .imm (.bool b19)]), _, _, _, rfl, (sv_asg (ev_tupI (ea_cons (ev_str (szS (by decide +kernel)) (ea_cons (ev_int (ea_nil ⟨[(.str "beat"), (.int 0)], rfl, Nat.le_of_ble_eq_true rfl, (gv_name rfl rfl ⟨(.tuple [(.str "beat"), (.int 0)]), rfl, (.cons (.same _) (.cons (.same _) (.cons (.same _) (.cons (.same _) (.cons (.same _) (.cons (.same _) .nil))))))⟩)⟩))))))), (sv_next ⟨(.tuple [(.str "odd"), (.int 0)]), rfl, (.cons (.same _) (.cons (.same _) (.cons (.same _) (.cons (.same _) (.cons (.same _) (.cons (.same _) .nil))))))⟩), fun s22 => (sv_ifk (tv_and (tv_testB (ev_isx rfl (xcls T hcm) (.own _) (xkit_NoComer T hcm) ⟨_, rfl, ⟨_, _, rfl, (tv_and (tv_not (tv_testB (ev_isx rfl (xcls T hcm) (.own _) (xkit_NoBeat T hcm) ⟨_, rfl, ⟨_, _, rfl, (tv_not (tv_testB (ev_imm rfl ⟨_, rfl, ⟨rfl, rfl⟩⟩))), fun b24 => ⟨rfl, rfl⟩⟩⟩)))), fun b23 => ⟨(fun s25 : PyData => [.imm a_0, .imm a_1, .imm a_2, .imm s25, .exc xa xC xd e1, .imm (.bool b19)]), _, _, _, rfl, (sv_asg (ev_asI (ev_tupI (ea_cons (ev_str (szS (by decide +kernel)) (ea_cons (ev_xfld rfl (fun h => xinj_NoComer T hcm h) rfl fun z26 => (ea_nil ⟨[(.str "comer"), z26], rfl, Nat.le_of_ble_eq_true rfl, ⟨_, _, (.imm _), rfl, fun z27 => (gv_name rfl rfl ⟨z27, rfl, (.cons (.same _) (.cons (.same _) (.cons (.same _) (.cons (.same _) (.cons (.same _) (.cons (.same _) .nil))))))⟩)⟩⟩)))))))), (sv_next ⟨s22, rfl, (.cons (.same _) (.cons (.same _) (.cons (.same _) (.cons (.same _) (.cons (.same _) (.cons (.same _) .nil))))))⟩), fun s25 => ⟨s25, _, rfl, rfl, (.cons (.same _) (.cons (.same _) (.cons (.same _) (.cons (.same _) (.cons (.drop _) (.cons (.drop _) .nil))))))⟩⟩⟩⟩))))⟩⟩⟩)))))
abbrev sp_q_due (K : PySem.W.Frag) (cm : Str → Option Addr) : Sp := spV K cm (α := PyData × PyData × PyData) [.imm, .imm, .imm] (fun a => [a.1, a.2.1, a.2.2]) (fun a => f_q_due a.1 a.2.1 a.2.2) (fun z => .imm z) (fun _ => [])
theorem sc_q_due : FnScope N_q_due ["_law_deed_here", "_law_way_here", "_law_some"] (defScope s_q_due) := ⟨rfl, rfl, rfl, by decide +kernel, rfl, by decide +kernel, by decide +kernel⟩
theorem ok_q_due (T : Txt K mg) : FnG P w K mg base CX0 2 T.f_q_due T.fd_q_due ["_law_deed_here", "_law_way_here", "_law_some"] (sp_q_due K (cmX T)) := by
  refine okG0 T.F_q_due sc_q_due (fun vs H Q E h => spV_len h) (fun cdv A out s H vs Q E hgd hr h => ?_)
  have hu := hu_of hr
  have hu1 : (A.deeper (envOfC "_law_due" (defScope s_q_due) s.heap.objs.size T.f_q_due cdv)).units + 160 < cLine := by have := hr.un; omega
  have hu64 : (A.deeper (envOfC "_law_due" (defScope s_q_due) s.heap.objs.size T.f_q_due cdv)).units + 64 < cLine := by omega
  have hu65 : (A.deeper (envOfC "_law_due" (defScope s_q_due) s.heap.objs.size T.f_q_due cdv)).units + 65 < cLine := by omega
  refine ⟨_, (pss_cons (ps_set (i := 3) sc_q_due.nd rfl (Or.inl rfl) (pe_callG (ok_q_flat T) hgd (hr.mono (by decide)) (by rfl) T.m_q_flat T.F_q_flat.kp T.b_q_flat .nil (pass0E (E := E)) (pa_cons (pv 1) pa_nil)))
    (pss_cons (ps_if (pt_cmpR (show OpR _ _ (rDat2 K eqV) from (op_eqVd hu64)) (pv 0) pe_str (nomark _))
      (pss_cons (ps_asg (pv 2) (show PG _ _ (gTup K 3 _) from pg_tup rfl (pgs_cons (pg_name (i := 4) sc_q_due.nd rfl (Or.inr rfl)) (pgs_cons (pg_name (i := 5) sc_q_due.nd rfl (Or.inl rfl)) (pgs_cons (pg_name (i := 6) sc_q_due.nd rfl (Or.inl rfl)) pgs_nil)))))
    (pss_cons (ps_if (pt_cmpR (show OpR _ _ (rDat2 K geV) from (op_geVd hu1)) (pv 4) (pe_callB (show CallR _ _ (arg1 (rDat1 K lenV)) from call_lenV) (by rfl) T.z_len (by decide +kernel) (pa_cons (pv 1) pa_nil)) (nomark _))
      (pss_one (ps_ret (pe_tupG (pa_cons pe_str (pa_cons pe_int pa_nil)))))
      pss_nil)
    (pss_cons (ps_set (i := 7) sc_q_due.nd rfl (Or.inl rfl) (pe_op (show OpR _ _ (rImm2 K addV) from op_addV) (pe_callB (show CallR _ _ (arg1 (rDat1 K lenV)) from call_lenV) (by rfl) T.z_len (by decide +kernel) (pa_cons (pe_lc (own := [("_law_row", 8)]) (g := (gName 8)) rfl sc_q_due.nd (show PI _ _ _ (iList K _) from pi_list (pv 3)) (blkOk_by (N := N_q_due) (sc := defScope s_q_due) (by decide +kernel)) (fun _ _ _ _ _ => (pg_name (i := 8) sc_q_due.nd rfl (Or.inl rfl))) (fun _ _ _ _ _ => (pts_one (pt_cmpR (show OpR _ _ (rDat2 K ltV) from (op_ltVd hu1)) (pe_ix (show IxR _ (rIxV K) from ix_V) (pv 8) pe_int (fun _ _ => rfl)) (pv 4) (nomark _)))) (fun _ _ _ _ _ => (pv 8))) pa_nil)) (pe_callB (show CallR _ _ (arg2 (rImm2 K min2V)) from (call_min2V rfl)) (by rfl) T.z_min (by decide +kernel) (pa_cons (pv 5) (pa_cons (pe_callB (show CallR _ _ (arg1 (rDat1 K lenV)) from call_lenV) (by rfl) T.z_len (by decide +kernel) (pa_cons (pe_ix (show IxR _ (rIxV K) from ix_V) (pv 1) (pv 4) (fun _ _ => rfl)) pa_nil)) pa_nil)))))
    (pss_one (ps_ret (pe_tupG (pa_cons pe_str (pa_cons (pe_callG (ok_q_built T) hgd (hr.mono (by decide)) (by rfl) T.m_q_built T.F_q_built.kp T.b_q_built .nil (pass0E (E := E)) (pa_cons (pe_op (show OpR _ _ (rLst2 K catL) from op_catV) (pe_op (show OpR _ _ (rLst2 K catL) from op_catV) (pe_slice (show L2.SlR _ (rSlL2 K) from sl_L2) (pv 3) po_none (po_some (pv 7))) (pe_lstG (pa_cons (pe_tupG (pa_cons (pv 4) (pa_cons (pv 6) (pa_cons (pe_un (show UnR _ _ (rImm1 K negV) from un_negV) pe_int) pa_nil)))) pa_nil))) (pe_slice (show L2.SlR _ (rSlL2 K) from sl_L2) (pv 3) (po_some (pv 7)) po_none)) (pa_cons (pe_callB (show CallR _ _ (arg1 (rDat1 K lenV)) from call_lenV) (by rfl) T.z_len (by decide +kernel) (pa_cons (pv 1) pa_nil)) pa_nil))) pa_nil))))))))
      pss_nil)
    (pss_cons (ps_if (pt_cmpR (show OpR _ _ (rDat2 K geV) from (op_geVd hu1)) (pe_ix (show IxR _ (rIxV K) from ix_V) (pv 2) pe_int (fun _ _ => rfl)) (pe_callB (show CallR _ _ (arg1 (rDat1 K lenV)) from call_lenV) (by rfl) T.z_len (by decide +kernel) (pa_cons (pv 3) pa_nil)) (nomark _))
      (pss_one (ps_ret (pe_tupG (pa_cons pe_str (pa_cons (pe_ix (show IxR _ (rIxV K) from ix_V) (pv 2) pe_int (fun _ _ => rfl)) pa_nil)))))
      pss_nil)
    (pss_cons (ps_if (pt_cmpR (show OpR _ _ (rDat2 K eqV) from (op_eqVd hu64)) (pv 0) pe_str (nomark _))
      (pss_one (ps_ret (pe_tupG (pa_cons pe_str (pa_cons (pe_callG (ok_q_built T) hgd (hr.mono (by decide)) (by rfl) T.m_q_built T.F_q_built.kp T.b_q_built .nil (pass0E (E := E)) (pa_cons (pe_lc (own := [("_law_row", 8)]) (g := (gName 8)) rfl sc_q_due.nd (show PI _ _ _ (iList K _) from pi_list (pv 3)) (blkOk_by (N := N_q_due) (sc := defScope s_q_due) (by decide +kernel)) (fun _ _ _ _ _ => (pg_name (i := 8) sc_q_due.nd rfl (Or.inl rfl))) (fun _ _ _ _ _ => (pts_one (pt_cmpR (show OpR _ _ (rDat2 K neV) from (op_neVd hu64)) (pe_ix (show IxR _ (rIxV K) from ix_V) (pv 8) pe_int (fun _ _ => rfl)) (pe_ix (show IxR _ (rIxV K) from ix_V) (pv 2) pe_int (fun _ _ => rfl)) (nomark _)))) (fun _ _ _ _ _ => (pv 8))) (pa_cons (pe_callB (show CallR _ _ (arg1 (rDat1 K lenV)) from call_lenV) (by rfl) T.z_len (by decide +kernel) (pa_cons (pv 1) pa_nil)) pa_nil))) pa_nil)))))
      pss_nil)
    (pss_cons (ps_set (i := 9) sc_q_due.nd rfl (Or.inl rfl) (pe_lstG pa_nil))
    (pss_cons (ps_for PassesOwn.never rfl (show PI _ _ _ (iList K _) from pi_list (pv 3)) (show PG _ _ (gTup K 3 _) from pg_tup rfl (pgs_cons (pg_name (i := 10) sc_q_due.nd rfl (Or.inl rfl)) (pgs_cons (pg_name (i := 6) sc_q_due.nd rfl (Or.inl rfl)) (pgs_cons (pg_name (i := 11) sc_q_due.nd rfl (Or.inl rfl)) pgs_nil))))
      (pss_one (ps_expr (show PE _ _ (tBM K "list" rAppG _ _) from pe_bm PySem.F.plainAttrs_list PySem.F.slot_list_append PySem.F.type_list_append mt_appendG (pv 9) (pa_cons (pe_tupG (pa_cons (pv 10) (pa_cons (pe_tupG (pa_cons (pe_ix (show IxR _ (rIxV K) from ix_V) (pv 6) pe_int (fun _ _ => rfl)) (pa_cons (pe_op (show OpR _ _ (rImm2 K addV) from op_addV) (pe_ix (show IxR _ (rIxV K) from ix_V) (pv 6) pe_int (fun _ _ => rfl)) (pe_op (show OpR _ _ (rImm2 K mulV) from op_mulV) (pe_ix (show IxR _ (rIxV K) from ix_V) (pv 2) pe_int (fun _ _ => rfl)) (pe_callTy (show CallR _ _ (arg1 (rImm1 K intV)) from call_intV) (by rfl) T.z_int (by decide +kernel) (pa_cons (pe_cmpR (show OpR _ _ (rDat2 K eqV) from (op_eqVd hu64)) (pv 11) (pe_ix (show IxR _ (rIxV K) from ix_V) (pv 2) pe_int (fun _ _ => rfl)) (nomark _)) pa_nil)))) pa_nil))) (pa_cons (pv 11) pa_nil)))) pa_nil)))))
    (pss_one (ps_ret (pe_tupG (pa_cons pe_str (pa_cons (pe_callG (ok_q_built T) hgd (hr.mono (by decide)) (by rfl) T.m_q_built T.F_q_built.kp T.b_q_built .nil (pass0E (E := E)) (pa_cons (pv 9) (pa_cons (pe_callB (show CallR _ _ (arg1 (rDat1 K lenV)) from call_lenV) (by rfl) T.z_len (by decide +kernel) (pa_cons (pv 1) pa_nil)) pa_nil))) pa_nil))))))))))), ?_⟩
  refine spV_body (n := 9) h rfl (fun a vs hl => ?_)
  match vs, hl with
  | [v0, v1, v2], _ =>
  obtain ⟨a_0, a_1, a_2⟩ := a
  show SV (ctxF K (cmX T) E) _ [.imm a_0, .imm a_1, .imm a_2, .no, .no, .no, .no, .no, .no, .no, .no, .no] (f_q_due a_0 a_1 a_2) _
  unfold f_q_due
  refine (sv_seq (sv_asg (ev_callP (ex_val (ev_imm rfl (ex_nil ⟨a_1, (.imm .nil), _, rfl, fun z1 => ⟨.own _, (gv_nameF rfl rfl (sv_seq (sv_if (tv_test (ev_op (ev_imm rfl (ev_str (szS (by decide +kernel)) (opK (opS_dat2 (.imm _) (.imm _)) rfl (fun b2 => ⟨_, rfl, ⟨_, _, rfl, (sv_seq (sv_asg (ev_imm rfl (gv_tup3 rfl fun p3 => (gv_cons (gv_name rfl rfl (gv_cons (gv_name rfl rfl (gv_cons (gv_name rfl rfl (gv_nil (sv_seq (sv_if (tv_test (ev_op (ev_imm rfl (ev_cb (ea_cons (ev_imm rfl (ea_nil (caK1 (unK (unS_arg1 (unS_dat1 (.imm _))) rfl (fun z4 => (opK (opS_dat2 (.imm _) (.imm _)) rfl (fun b5 => ⟨_, rfl, ⟨_, _, rfl, (sv_ret (ev_tupI (ea_cons (ev_str (szS (by decide +kernel)) (ea_cons (ev_int (ea_nil ⟨[(.str "beat"), (.int 0)], rfl, Nat.le_of_ble_eq_true rfl, ⟨_, rfl, rfl, (.imm (.imm (.imm .nil)))⟩⟩))))))), (sv_next (sv_seq (sv_asg (ev_op (ev_cb (ea_cons (ev_fmap (vs := [8]) [.imm a_0, .imm a_1, .imm a_2, .shr (.list z1), .imm p3.1, .imm p3.2.1, .imm p3.2.2, .no, .no, .no, .no, .no] (hnoC rfl hnoN) rfl (fun _ h => h) rfl (iv_lstI (ev_shr rfl ⟨_, _, (.shr _), rfl, fun ds6 => ⟨_, _, rfl, (.cons (.same _) (.cons (.same _) (.cons (.same _) (.cons (.same _) (.cons (.same _) (.cons (.same _) (.cons (.same _) (.cons (.drop _) (.cons (.drop _) (.cons (.drop _) (.cons (.drop _) (.cons (.drop _) .nil)))))))))))), fun x7 hx => (gv_name rfl rfl ?h32), fun l11 => (ea_nil (caK1 (unK (unS_arg1 (unS_dat1 (.own _))) rfl (fun z12 => (ev_cb (ea_cons (ev_imm rfl (ea_cons (ev_cb (ea_cons (ev_op (ev_imm rfl (ev_imm rfl (opK opS_ixT rfl (fun z13 => (ea_nil (caK1 (unK (unS_arg1 (unS_dat1 (.imm _))) rfl (fun z14 => (ea_nil (caK2 (opK (opS_arg2 opS_imm2) rfl (fun z15 => (opK opS_imm2 rfl (fun z16 => (gv_name rfl rfl ?h33)) (nx_addV _ _))) (nx_min2V _ _))))) (nx_lenV _))))) (nx_ixV _ _)))))))))))) (nx_lenV _))))⟩⟩)))))))))⟩⟩) (nx_geV _ _))) (nx_lenV _))))))))))))))))))))))), (sv_next (sv_seq (sv_if (tv_test (ev_op (ev_op (ev_imm rfl (ev_int (opK opS_ixT rfl (fun z26 => (ev_cb (ea_cons (ev_shr rfl (ea_nil (caK1 (unK (unS_arg1 (unS_dat1 (.shr _))) rfl (fun z27 => (opK (opS_dat2 (.imm _) (.imm _)) rfl (fun b28 => ⟨_, rfl, ⟨_, _, rfl, (sv_ret (ev_tupI (ea_cons (ev_str (szS (by decide +kernel)) (ea_cons (ev_op (ev_imm rfl (ev_int (opK opS_ixT rfl (fun z29 => (ea_nil ⟨[(.str "comer"), z29], rfl, Nat.le_of_ble_eq_true rfl, ⟨_, rfl, rfl, (.imm (.imm (.imm .nil)))⟩⟩)) (nx_ixV _ _)))))))))), (sv_next (sv_seq (sv_if (tv_test (ev_op (ev_imm rfl (ev_str (szS (by decide +kernel)) (opK (opS_dat2 (.imm _) (.imm _)) rfl (fun b30 => ⟨_, rfl, ⟨_, _, rfl, (sv_ret (ev_tupI (ea_cons (ev_str (szS (by decide +kernel)) (ea_cons (ev_callP (ex_val (ev_fmap (vs := [8]) [.imm a_0, .imm a_1, .imm a_2, .shr (.list z1), .no, .no, .no, .no, .no, .no, .no, .no] (hnoC rfl hnoN) rfl (fun _ h => h) rfl (iv_lstI (ev_shr rfl ⟨_, _, (.shr _), rfl, fun ds31 => ⟨_, _, rfl, (.cons (.same _) (.cons (.same _) (.cons (.same _) (.cons (.same _) (.cons (.drop _) (.cons (.drop _) (.cons (.drop _) (.cons (.drop _) (.cons (.drop _) (.cons (.drop _) (.cons (.drop _) (.cons (.drop _) .nil)))))))))))), fun x32 hx => (gv_name rfl rfl ?h34), fun l37 => (ex_val (ev_cb (ea_cons (ev_imm rfl (ea_nil (caK1 (unK (unS_arg1 (unS_dat1 (.imm _))) rfl (fun z38 => (ex_nil ⟨(l37, z38), (.shr (.own _) (.imm .nil)), _, rfl, fun z39 => ⟨.imm _, (ea_nil ⟨[(.str "told"), z39], rfl, Nat.le_of_ble_eq_true rfl, ⟨_, rfl, rfl, (.imm (.imm (.imm .nil)))⟩⟩)⟩⟩)) (nx_lenV _))))))))⟩⟩)))))))))), (sv_next (sv_seq (sv_asg (ev_lstO (ea_nil ⟨[], .nil, Nat.le_of_ble_eq_true rfl, (gv_name rfl rfl ?h35)⟩)))))⟩⟩) (nx_eqV _ _)))))))))⟩⟩) (nx_geV _ _))) (nx_lenV _)))))))) (nx_ixV _ _))))))))))⟩⟩) (nx_eqV _ _)))))))))⟩⟩))))))
  case h32 =>
   exact (tv_test (ev_op (ev_op (ev_imm rfl (ev_int (opK opS_ixT rfl (fun z9 => (ev_imm rfl (opK (opS_dat2 (.imm _) (.imm _)) rfl (fun b10 => ⟨_, rfl, ⟨_, _, rfl, (ev_imm rfl ⟨_, rfl, (.imm _), (.cons (.same _) (.cons (.same _) (.cons (.same _) (.cons (.same _) (.cons (.same _) (.cons (.same _) (.cons (.same _) (.cons (.drop _) (.cons (.drop _) (.cons (.drop _) (.cons (.drop _) (.cons (.drop _) .nil))))))))))))⟩), rfl, (.cons (.same _) (.cons (.same _) (.cons (.same _) (.cons (.same _) (.cons (.same _) (.cons (.same _) (.cons (.same _) (.cons (.drop _) (.cons (.drop _) (.cons (.drop _) (.cons (.drop _) (.cons (.drop _) .nil))))))))))))⟩⟩) (nx_ltV _ _)))) (nx_ixV _ _)))))))
  case h33 =>
   show SV _ _ [.imm a_0, .imm a_1, .imm a_2, .shr (.list z1), .imm p3.1, .imm p3.2.1, .imm p3.2.2, .imm z16, .no, .no, .no, .no] _ _
   exact (sv_ret (ev_tupI (ea_cons (ev_str (szS (by decide +kernel)) (ea_cons (ev_callP (ex_val (ev_op (ev_op (ev_slL (ev_shr rfl (eo_none (eo_some (ev_imm rfl ⟨_, _, rfl, rfl, fun o17 => ⟨_, _, (.shr _), rfl, fun z18 => (ev_lstO (ea_cons (ev_tupI (ea_cons (ev_imm rfl (ea_cons (ev_imm rfl (ea_cons (ev_un (ev_int (unK unS_imm1 rfl (fun z19 => (ea_nil ⟨[p3.1, p3.2.2, z19], rfl, Nat.le_of_ble_eq_true rfl, (ea_nil ⟨[(.tuple [p3.1, p3.2.2, z19])], (.cons (.imm _) .nil), Nat.le_of_ble_eq_true rfl, (opK (opS_lst2 (.own _) (.own _)) rfl (fun z20 => (ev_slL (ev_shr rfl (eo_some (ev_imm rfl ⟨_, _, rfl, rfl, fun o21 => (eo_none ⟨_, _, (.shr _), rfl, fun z22 => (opK (opS_lst2 (.own _) (.own _)) rfl (fun z23 => (ex_val (ev_cb (ea_cons (ev_imm rfl (ea_nil (caK1 (unK (unS_arg1 (unS_dat1 (.imm _))) rfl (fun z24 => (ex_nil ⟨(z23, z24), (.shr (.own _) (.imm .nil)), _, rfl, fun z25 => ⟨.imm _, (ea_nil ⟨[(.str "told"), z25], rfl, Nat.le_of_ble_eq_true rfl, ⟨_, rfl, rfl, (.imm (.imm (.imm .nil)))⟩⟩)⟩⟩)) (nx_lenV _))))))))) (nx_catL _ _))⟩)⟩))))) (nx_catL _ _))⟩)⟩)) (nx_negV _))))))))))))⟩⟩))))))))))))))
  case h34 =>
   exact (tv_test (ev_op (ev_op (ev_imm rfl (ev_int (opK opS_ixT rfl (fun z34 => (ev_op (ev_imm rfl (ev_int (opK opS_ixT rfl (fun z35 => (opK (opS_dat2 (.imm _) (.imm _)) rfl (fun b36 => ⟨_, rfl, ⟨_, _, rfl, (ev_imm rfl ⟨_, rfl, (.imm _), (.cons (.same _) (.cons (.same _) (.cons (.same _) (.cons (.same _) (.cons (.drop _) (.cons (.drop _) (.cons (.drop _) (.cons (.drop _) (.cons (.drop _) (.cons (.drop _) (.cons (.drop _) (.cons (.drop _) .nil))))))))))))⟩), rfl, (.cons (.same _) (.cons (.same _) (.cons (.same _) (.cons (.same _) (.cons (.drop _) (.cons (.drop _) (.cons (.drop _) (.cons (.drop _) (.cons (.drop _) (.cons (.drop _) (.cons (.drop _) (.cons (.drop _) .nil))))))))))))⟩⟩) (nx_neV _ _))) (nx_ixV _ _)))))) (nx_ixV _ _)))))))
  case h35 =>
   show SV _ _ [.imm a_0, .imm a_1, .imm a_2, .shr (.list z1), .no, .no, .no, .no, .no, .own (.list []), .no, .no] _ _
   exact (sv_seq (sv_for (fun s42 : List PyData => [.imm a_0, .imm a_1, .imm a_2, .shr (.list z1), .no, .no, .no, .no, .no, .own (.list s42), .no, .no]) (iv_lstI (ev_shr rfl ⟨_, _, (.shr _), rfl, fun ds40 => ⟨[], _, _, rfl, (.cons (.same _) (.cons (.same _) (.cons (.same _) (.cons (.same _) (.cons (.drop _) (.cons (.drop _) (.cons (.drop _) (.cons (.drop _) (.cons (.drop _) (.cons (.same _) (.cons (.drop _) (.cons (.drop _) .nil)))))))))))), fun x41 s42 hx => (gv_tup3 rfl fun p43 => (gv_cons (gv_name rfl rfl (gv_cons (gv_name rfl rfl (gv_cons (gv_name rfl rfl (gv_nil (sv_app rfl (.own _) (ev_tupI (ea_cons (ev_imm rfl (ea_cons (ev_tupI (ea_cons (ev_op (ev_imm rfl (ev_int (opK opS_ixT rfl (fun z44 => (ea_cons (ev_op (ev_op (ev_imm rfl (ev_int (opK opS_ixT rfl (fun z45 => (ev_op (ev_op (ev_imm rfl (ev_int (opK opS_ixT rfl (fun z46 => (ev_cb (ea_cons (ev_op (ev_imm rfl (ev_op (ev_imm rfl (ev_int (opK opS_ixT rfl (fun z47 => (opK (opS_dat2 (.imm _) (.imm _)) rfl (fun b48 => (ea_nil (caK1 (unK (unS_arg1 unS_imm1) rfl (fun z49 => (opK opS_imm2 rfl (fun z50 => (opK opS_imm2 rfl (fun z51 => (ea_nil ⟨[z44, z51], rfl, Nat.le_of_ble_eq_true rfl, (ea_cons (ev_imm rfl (ea_nil ⟨[p43.1, (.tuple [z44, z51]), p43.2.2], rfl, Nat.le_of_ble_eq_true rfl, ⟨_, _, _, _, _, (.imm _), rfl, (.own _), rfl, fun z52 => ⟨z52, rfl, (.cons (.same _) (.cons (.same _) (.cons (.same _) (.cons (.same _) (.cons (.drop _) (.cons (.drop _) (.cons (.drop _) (.cons (.drop _) (.cons (.drop _) (.cons (.same _) (.cons (.drop _) (.cons (.drop _) .nil))))))))))))⟩⟩⟩)))⟩)) (nx_addV _ _))) (nx_mulV _ _))) (nx_intV _))))) (nx_eqV _ _))) (nx_ixV _ _)))))))))) (nx_ixV _ _))))))) (nx_ixV _ _)))))))) (nx_ixV _ _)))))))))))))))))))), fun s42 => (sv_ret (ev_tupI (ea_cons (ev_str (szS (by decide +kernel)) (ea_cons (ev_callP (ex_al rfl (fun z => nomatch z) (ex_val (ev_cb (ea_cons (ev_imm rfl (ea_nil (caK1 (unK (unS_arg1 (unS_dat1 (.imm _))) rfl (fun z53 => (ex_nil ⟨(s42, z53), (.al rfl (.own _) (.imm .nil)), _, rfl, fun z54 => ⟨.imm _, (ea_nil ⟨[(.str "told"), z54], rfl, Nat.le_of_ble_eq_true rfl, ⟨_, rfl, rfl, (.imm (.imm (.imm .nil)))⟩⟩)⟩⟩)) (nx_lenV _)))))))))))))))⟩⟩))))
abbrev sp_q_deed (K : PySem.W.Frag) (cm : Str → Option Addr) : Sp := spV K cm (α := List PyData × PyData) [.io, .imm] (fun a => [.list a.1, a.2]) (fun a => f_q_deed a.1 a.2) (fun z => .imm z.1) (fun z => [.list z.2])
theorem sc_q_deed : FnScope N_q_deed ["_law_feed_here", "_law_way_here"] (defScope s_q_deed) := ⟨rfl, rfl, rfl, by decide +kernel, rfl, by decide +kernel, by decide +kernel⟩
theorem ok_q_deed (T : Txt K mg) : FnG P w K mg base CX0 2 T.f_q_deed T.fd_q_deed ["_law_feed_here", "_law_way_here"] (sp_q_deed K (cmX T)) := by
  refine okG0 T.F_q_deed sc_q_deed (fun vs H Q E h => spV_len h) (fun cdv A out s H vs Q E hgd hr h => ?_)
  have hu := hu_of hr
  have hu1 : (A.deeper (envOfC "_law_deed" (defScope s_q_deed) s.heap.objs.size T.f_q_deed cdv)).units + 160 < cLine := by have := hr.un; omega
  have hu64 : (A.deeper (envOfC "_law_deed" (defScope s_q_deed) s.heap.objs.size T.f_q_deed cdv)).units + 64 < cLine := by omega
  have hu65 : (A.deeper (envOfC "_law_deed" (defScope s_q_deed) s.heap.objs.size T.f_q_deed cdv)).units + 65 < cLine := by omega
  refine ⟨_, (pss_cons (ps_set (i := 2) sc_q_deed.nd rfl (Or.inl rfl) (pe_ix (show IxR _ (rIxV K) from ix_V) (pe_lstG (pa_cons pe_str (pa_cons pe_str (pa_cons pe_str (pa_cons pe_str pa_nil))))) (pe_callG (ok_q_next T) hgd (hr.mono (by decide)) (by rfl) T.m_q_next T.F_q_next.kp T.b_q_next .nil (pass0E (E := E)) (pa_cons (pv 0) (pa_cons pe_int pa_nil))) (fun _ _ => rfl)))
    (pss_cons (ps_set (i := 3) sc_q_deed.nd rfl (Or.inl rfl) (pe_cmpR (show OpR _ _ (rDat2 K eqV) from (op_eqVd hu64)) (pe_callG (ok_q_next T) hgd (hr.mono (by decide)) (by rfl) T.m_q_next T.F_q_next.kp T.b_q_next .nil (pass0E (E := E)) (pa_cons (pv 0) (pa_cons pe_int pa_nil))) pe_int (nomark _)))
    (pss_cons (ps_if (pt_cmpR (show OpR _ _ (rDat2 K eqV) from (op_eqVd hu64)) (pv 2) pe_str (nomark _))
      (pss_cons (ps_set (i := 4) sc_q_deed.nd rfl (Or.inl rfl) (pe_ifExp (pt_val (pv 3)) (pe_op (show OpR _ _ (rImm2 K powV) from op_powV) pe_int pe_int) (pe_callG (ok_q_next T) hgd (hr.mono (by decide)) (by rfl) T.m_q_next T.F_q_next.kp T.b_q_next .nil (pass0E (E := E)) (pa_cons (pv 0) (pa_cons (pe_op (show OpR _ _ (rImm2 K addV) from op_addV) (pe_callB (show CallR _ _ (arg1 (rDat1 K lenV)) from call_lenV) (by rfl) T.z_len (by decide +kernel) (pa_cons (pv 1) pa_nil)) pe_int) pa_nil)))))
    (pss_cons (ps_set (i := 5) sc_q_deed.nd rfl (Or.inl rfl) (pe_ix (show IxR _ (rIxV K) from ix_V) (pe_lstG (pa_cons (pe_callG (ok_q_next T) hgd (hr.mono (by decide)) (by rfl) T.m_q_next T.F_q_next.kp T.b_q_next .nil (pass0E (E := E)) (pa_cons (pv 0) (pa_cons pe_int pa_nil))) (pa_cons (pe_callG (ok_q_next T) hgd (hr.mono (by decide)) (by rfl) T.m_q_next T.F_q_next.kp T.b_q_next .nil (pass0E (E := E)) (pa_cons (pv 0) (pa_cons pe_int pa_nil))) (pa_cons (pe_op (show OpR _ _ (rImm2 K powV) from op_powV) pe_int pe_int) pa_nil)))) (pe_callG (ok_q_next T) hgd (hr.mono (by decide)) (by rfl) T.m_q_next T.F_q_next.kp T.b_q_next .nil (pass0E (E := E)) (pa_cons (pv 0) (pa_cons pe_int pa_nil))) (fun _ _ => rfl)))
    (pss_one (ps_ret (pe_tupG (pa_cons (pv 2) (pa_cons (pe_tupG (pa_cons (pv 4) (pa_cons (pv 5) (pa_cons (pe_tupG (pa_cons (pe_callG (ok_q_next T) hgd (hr.mono (by decide)) (by rfl) T.m_q_next T.F_q_next.kp T.b_q_next .nil (pass0E (E := E)) (pa_cons (pv 0) (pa_cons pe_int pa_nil))) (pa_cons (pe_op (show OpR _ _ (rImm2 K addV) from op_addV) pe_int (pe_callG (ok_q_next T) hgd (hr.mono (by decide)) (by rfl) T.m_q_next T.F_q_next.kp T.b_q_next .nil (pass0E (E := E)) (pa_cons (pv 0) (pa_cons pe_int pa_nil)))) pa_nil))) pa_nil)))) pa_nil)))))))
      pss_nil)
    (pss_cons (ps_set (i := 6) sc_q_deed.nd rfl (Or.inl rfl) (pe_ifExp (pt_val (pv 3)) (pe_op (show OpR _ _ (rImm2 K powV) from op_powV) pe_int pe_int) (pe_callG (ok_q_next T) hgd (hr.mono (by decide)) (by rfl) T.m_q_next T.F_q_next.kp T.b_q_next .nil (pass0E (E := E)) (pa_cons (pv 0) (pa_cons (pe_op (show OpR _ _ (rImm2 K addV) from op_addV) (pe_callB (show CallR _ _ (arg1 (rDat1 K lenV)) from call_lenV) (by rfl) T.z_len (by decide +kernel) (pa_cons (pe_callG (ok_q_flat T) hgd (hr.mono (by decide)) (by rfl) T.m_q_flat T.F_q_flat.kp T.b_q_flat .nil (pass0E (E := E)) (pa_cons (pv 1) pa_nil)) pa_nil)) pe_int) pa_nil)))))
    (pss_one (ps_ret (pe_tupG (pa_cons (pv 2) (pa_cons (pe_tupG (pa_cons (pv 6) (pa_cons (pe_callG (ok_q_next T) hgd (hr.mono (by decide)) (by rfl) T.m_q_next T.F_q_next.kp T.b_q_next .nil (pass0E (E := E)) (pa_cons (pv 0) (pa_cons pe_int pa_nil))) pa_nil))) pa_nil))))))))), ?_⟩
  refine spV_body (n := 5) h rfl (fun a vs hl => ?_)
  match vs, hl with
  | [v0, v1], _ =>
  obtain ⟨a_0, a_1⟩ := a
  show SV (ctxF K (cmX T) E) _ [.iow v0 (.list a_0), .imm a_1, .no, .no, .no, .no, .no] (f_q_deed a_0 a_1) _
  unfold f_q_deed
  refine (sv_seq (sv_asg (ev_op (ev_lstO (ea_cons (ev_str (szS (by decide +kernel)) (ea_cons (ev_str (szS (by decide +kernel)) (ea_cons (ev_str (szS (by decide +kernel)) (ea_cons (ev_str (szS (by decide +kernel)) (ea_nil ⟨[(.str "with"), (.str "with"), (.str "without"), (.str "longer")], (.cons (.imm _) (.cons (.imm _) (.cons (.imm _) (.cons (.imm _) .nil)))), Nat.le_of_ble_eq_true rfl, (ev_callI rfl (ex_al rfl (fun z => nomatch z) (ex_val (ev_int (ex_nil ⟨(a_0, (.int 4)), 0, _, _, _, (.io rfl (.iow _ _) (.imm .nil)), _, rfl, fun z1 => ⟨_, rfl, .imm _, (opK (opS_ixL (.own _)) rfl (fun z2 => (gv_name rfl rfl ?h36)) (nx_ixV _ _))⟩⟩)))))⟩)))))))))))))
  case h36 =>
   show SV _ _ [.iow v0 (.list z1.2), .imm a_1, .imm z2, .no, .no, .no, .no] _ _
   refine (sv_seq (sv_asg (ev_op (ev_callI rfl (ex_al rfl (fun z => nomatch z) (ex_val (ev_int (ex_nil ⟨(z1.2, (.int 12)), 0, _, _, _, (.io rfl (.iow _ _) (.imm .nil)), _, rfl, fun z3 => ⟨_, rfl, .imm _, (ev_int (opK (opS_dat2 (.imm _) (.imm _)) rfl (fun b4 => (gv_name rfl rfl ?h37)) (nx_eqV _ _)))⟩⟩))))))))
   case h37 =>
    show SV _ _ [.iow v0 (.list z3.2), .imm a_1, .imm z2, .imm (.bool b4), .no, .no, .no] _ _
    refine (sv_seq (sv_if (tv_test (ev_op (ev_imm rfl (ev_str (szS (by decide +kernel)) (opK (opS_dat2 (.imm _) (.imm _)) rfl (fun b5 => ⟨_, rfl, ⟨_, _, rfl, (sv_seq (sv_asg (ev_ifS (fun s11 : List PyData => [.iow v0 (.list s11), .imm a_1, .imm z2, .imm (.bool b4), .no, .no, .no]) .imm (tv_testB (ev_imm rfl ⟨_, rfl, ⟨_, _, _, rfl, (ev_op (ev_int (ev_int (opK opS_imm2 rfl (fun z6 => ⟨_, _, rfl, rfl, rfl⟩) (nx_powV _ _))))), (ev_callI rfl (ex_al rfl (fun z => nomatch z) (ex_val (ev_op (ev_cb (ea_cons (ev_imm rfl (ea_nil (caK1 (unK (unS_arg1 (unS_dat1 (.imm _))) rfl (fun z7 => (ev_int (opK opS_imm2 rfl (fun z8 => (ex_nil ⟨(z3.2, z8), 0, _, _, _, (.io rfl (.iow _ _) (.imm .nil)), _, rfl, fun z9 => ⟨_, rfl, .imm _, ⟨_, _, rfl, rfl, rfl⟩⟩⟩)) (nx_addV _ _)))) (nx_lenV _))))))))))), fun z10 => (gv_name rfl rfl ?h38)⟩⟩))))), (sv_next (sv_seq (sv_asg (ev_ifS (fun s26 : List PyData => [.iow v0 (.list s26), .imm a_1, .imm z2, .imm (.bool b4), .no, .no, .no]) .imm (tv_testB (ev_imm rfl ⟨_, rfl, ⟨_, _, _, rfl, (ev_op (ev_int (ev_int (opK opS_imm2 rfl (fun z20 => ⟨_, _, rfl, rfl, rfl⟩) (nx_powV _ _))))), (ev_callI rfl (ex_al rfl (fun z => nomatch z) (ex_val (ev_op (ev_cb (ea_cons (ev_callP (ex_val (ev_imm rfl (ex_nil ⟨a_1, (.imm .nil), _, rfl, fun z21 => ⟨.own _, (ea_nil (caK1 (unK (unS_arg1 (unS_dat1 (.own _))) rfl (fun z22 => (ev_int (opK opS_imm2 rfl (fun z23 => (ex_nil ⟨(z3.2, z23), 0, _, _, _, (.io rfl (.iow _ _) (.imm .nil)), _, rfl, fun z24 => ⟨_, rfl, .imm _, ⟨_, _, rfl, rfl, rfl⟩⟩⟩)) (nx_addV _ _)))) (nx_lenV _))))⟩⟩)))))))))), fun z25 => (gv_name rfl rfl ?h39)⟩⟩))))))⟩⟩) (nx_eqV _ _))))))))
    case h38 =>
     show SV _ _ [.iow v0 (.list z10.2), .imm a_1, .imm z2, .imm (.bool b4), .imm z10.1, .no, .no] _ _
     refine (sv_seq (sv_asg (ev_op (ev_lstO (ea_cons (ev_callI rfl (ex_al rfl (fun z => nomatch z) (ex_val (ev_int (ex_nil ⟨(z10.2, (.int 4)), 0, _, _, _, (.io rfl (.iow _ _) (.imm .nil)), _, rfl, fun z12 => ⟨_, rfl, .imm _, (ea_cons (ev_callI rfl (ex_al rfl (fun z => nomatch z) (ex_val (ev_int (ex_nil ⟨(z12.2, (.int 6)), 0, _, _, _, (.io rfl (.iow _ _) (.imm .nil)), _, rfl, fun z13 => ⟨_, rfl, .imm _, (ea_cons (ev_op (ev_int (ev_int (opK opS_imm2 rfl (fun z14 => (ea_nil ⟨[z12.1, z13.1, z14], (.cons (.imm _) (.cons (.imm _) (.cons (.imm _) .nil))), Nat.le_of_ble_eq_true rfl, (ev_callI rfl (ex_al rfl (fun z => nomatch z) (ex_val (ev_int (ex_nil ⟨(z13.2, (.int 3)), 0, _, _, _, (.io rfl (.iow _ _) (.imm .nil)), _, rfl, fun z15 => ⟨_, rfl, .imm _, (opK (opS_ixL (.own _)) rfl (fun z16 => (gv_name rfl rfl ?h40)) (nx_ixV _ _))⟩⟩)))))⟩)) (nx_powV _ _))))))⟩⟩))))))⟩⟩))))))))))
     case h40 =>
      show SV _ _ [.iow v0 (.list z15.2), .imm a_1, .imm z2, .imm (.bool b4), .imm z10.1, .imm z16, .no] _ _
      exact (sv_ret (ev_tupI (ea_cons (ev_imm rfl (ea_cons (ev_tupI (ea_cons (ev_imm rfl (ea_cons (ev_imm rfl (ea_cons (ev_tupI (ea_cons (ev_callI rfl (ex_al rfl (fun z => nomatch z) (ex_val (ev_int (ex_nil ⟨(z15.2, (.int 2)), 0, _, _, _, (.io rfl (.iow _ _) (.imm .nil)), _, rfl, fun z17 => ⟨_, rfl, .imm _, (ea_cons (ev_op (ev_int (ev_callI rfl (ex_al rfl (fun z => nomatch z) (ex_val (ev_int (ex_nil ⟨(z17.2, (.int 6)), 0, _, _, _, (.io rfl (.iow _ _) (.imm .nil)), _, rfl, fun z18 => ⟨_, rfl, .imm _, (opK opS_imm2 rfl (fun z19 => (ea_nil ⟨[z17.1, z19], rfl, Nat.le_of_ble_eq_true rfl, (ea_nil ⟨[z10.1, z16, (.tuple [z17.1, z19])], rfl, Nat.le_of_ble_eq_true rfl, (ea_nil ⟨[z2, (.tuple [z10.1, z16, (.tuple [z17.1, z19])])], rfl, Nat.le_of_ble_eq_true rfl, ⟨_, rfl, rfl, (.io (.imm .nil))⟩⟩)⟩)⟩)) (nx_addV _ _))⟩⟩))))))))⟩⟩))))))))))))))))))
    case h39 =>
     show SV _ _ [.iow v0 (.list z25.2), .imm a_1, .imm z2, .imm (.bool b4), .no, .no, .imm z25.1] _ _
     exact (sv_ret (ev_tupI (ea_cons (ev_imm rfl (ea_cons (ev_tupI (ea_cons (ev_imm rfl (ea_cons (ev_callI rfl (ex_al rfl (fun z => nomatch z) (ex_val (ev_int (ex_nil ⟨(z25.2, (.int 7)), 0, _, _, _, (.io rfl (.iow _ _) (.imm .nil)), _, rfl, fun z27 => ⟨_, rfl, .imm _, (ea_nil ⟨[z25.1, z27.1], rfl, Nat.le_of_ble_eq_true rfl, (ea_nil ⟨[z2, (.tuple [z25.1, z27.1])], rfl, Nat.le_of_ble_eq_true rfl, ⟨_, rfl, rfl, (.io (.imm .nil))⟩⟩)⟩)⟩⟩))))))))))))))
abbrev sp_q_front_right (K : PySem.W.Frag) (cm : Str → Option Addr) : Sp := spV K cm (α := PyData) [.imm] (fun a => [a]) (fun a => f_q_front_right a) (fun z => .imm z) (fun _ => [])
theorem sc_q_front_right : FnScope N_q_front_right ["_law_way_here"] (defScope s_q_front_right) := ⟨rfl, rfl, rfl, by decide +kernel, rfl, by decide +kernel, by decide +kernel⟩
theorem ok_q_front_right (T : Txt K mg) : FnG P w K mg base CX0 3 T.f_q_front_right T.fd_q_front_right ["_law_way_here"] (sp_q_front_right K (cmX T)) := by
  refine okG0 T.F_q_front_right sc_q_front_right (fun vs H Q E h => spV_len h) (fun cdv A out s H vs Q E hgd hr h => ?_)
  have hu := hu_of hr
  have hu1 : (A.deeper (envOfC "_law_front_right" (defScope s_q_front_right) s.heap.objs.size T.f_q_front_right cdv)).units + 160 < cLine := by have := hr.un; omega
  have hu64 : (A.deeper (envOfC "_law_front_right" (defScope s_q_front_right) s.heap.objs.size T.f_q_front_right cdv)).units + 64 < cLine := by omega
  have hu65 : (A.deeper (envOfC "_law_front_right" (defScope s_q_front_right) s.heap.objs.size T.f_q_front_right cdv)).units + 65 < cLine := by omega
  refine ⟨_, (pss_cons (ps_set (i := 1) sc_q_front_right.nd rfl (Or.inl rfl) (pe_callB (show CallR _ _ (arg1 (rDat1 K reprV)) from (call_reprV hgd hu1)) (by rfl) T.z_repr (by decide +kernel) (pa_cons (pv 0) pa_nil)))
    (pss_cons (ps_set (i := 2) sc_q_front_right.nd rfl (Or.inl rfl) (pe_callB (show CallR _ _ (arg1 (rDat1 K reprV)) from (call_reprV hgd hu1)) (by rfl) T.z_repr (by decide +kernel) (pa_cons (pe_callG (ok_q_built T) hgd (hr.mono (by decide)) (by rfl) T.m_q_built T.F_q_built.kp T.b_q_built .nil (pass0E (E := E)) (pa_cons (pe_lc (own := [("_law_row", 3)]) (g := (gName 3)) rfl sc_q_front_right.nd (show PI _ _ _ (iList K _) from pi_list (pe_callG (ok_q_flat T) hgd (hr.mono (by decide)) (by rfl) T.m_q_flat T.F_q_flat.kp T.b_q_flat .nil (pass0E (E := E)) (pa_cons (pv 0) pa_nil))) (blkOk_by (N := N_q_front_right) (sc := defScope s_q_front_right) (by decide +kernel)) (fun _ _ _ _ _ => (pg_name (i := 3) sc_q_front_right.nd rfl (Or.inl rfl))) (fun _ _ _ _ _ => (pts_one (pt_cmpR (show OpR _ _ (rDat2 K eqV) from (op_eqVd hu64)) (pe_ix (show IxR _ (rIxV K) from ix_V) (pe_ix (show IxR _ (rIxV K) from ix_V) (pv 3) pe_int (fun _ _ => rfl)) pe_int (fun _ _ => rfl)) pe_int (nomark _)))) (fun _ _ _ _ _ => (pv 3))) (pa_cons (pe_callB (show CallR _ _ (arg1 (rDat1 K lenV)) from call_lenV) (by rfl) T.z_len (by decide +kernel) (pa_cons (pv 0) pa_nil)) pa_nil))) pa_nil)))
    (pss_one (ps_ret (pe_and (pe_cmpR (show OpR _ _ (rDat2 K eqV) from (op_eqVd hu64)) (pe_lc (own := [("_law_once", 4)]) (g := (gName 4)) (tt := tYes) rfl sc_q_front_right.nd (pi_range1 rfl T.z_range (pa_cons pe_int pa_nil)) (blkOk_by (N := N_q_front_right) (sc := defScope s_q_front_right) (by decide +kernel)) (fun _ _ _ _ _ => (pg_name (i := 4) sc_q_front_right.nd rfl (Or.inl rfl))) (fun _ _ _ _ _ => pts_nil) (fun _ _ _ _ _ => (pe_callB (show CallR _ _ (arg1 (rDat1 K reprV)) from (call_reprV hgd hu1)) (by rfl) T.z_repr (by decide +kernel) (pa_cons (pe_callG (ok_p_front_alone T) hgd (hr.mono (by decide)) (by rfl) T.m_p_front_alone T.F_p_front_alone.kp T.b_p_front_alone .nil (pass0E (E := E)) (pa_cons (pv 0) pa_nil)) pa_nil)))) (pe_lstG (pa_cons (pv 2) (pa_cons (pv 2) pa_nil))) (nomark _)) (pe_one (pe_cmpR (show OpR _ _ (rDat2 K eqV) from (op_eqVd hu64)) (pe_callB (show CallR _ _ (arg1 (rDat1 K reprV)) from (call_reprV hgd hu1)) (by rfl) T.z_repr (by decide +kernel) (pa_cons (pv 0) pa_nil)) (pv 1) (nomark _)))))))), ?_⟩
  refine spV_body (n := 4) h rfl (fun a vs hl => ?_)
  match vs, hl with
  | [v0], _ =>
  let a_0 := a
  show SV (ctxF K (cmX T) E) _ [.imm a_0, .no, .no, .no, .no] (f_q_front_right a_0) _
  unfold f_q_front_right
  refine (sv_seq (sv_asg (ev_cb (ea_cons (ev_imm rfl (ea_nil (caK1 (unK (unS_arg1 (unS_dat1 (.imm _))) rfl (fun z1 => (gv_name rfl rfl ?h41)) (nx_reprV _)))))))))
  case h41 =>
   show SV _ _ [.imm a_0, .imm z1, .no, .no, .no] _ _
   refine (sv_seq (sv_asg (ev_cb (ea_cons (ev_callP (ex_val (ev_fmap (vs := [3]) [.imm a_0, .imm z1, .no, .no, .no] (hnoC rfl hnoN) rfl (fun _ h => h) rfl (iv_lstI (ev_callP (ex_val (ev_imm rfl (ex_nil ⟨a_0, (.imm .nil), _, rfl, fun z2 => ⟨.own _, ⟨_, _, (.own _), rfl, fun ds3 => ⟨_, _, rfl, (.cons (.same _) (.cons (.same _) (.cons (.drop _) (.cons (.drop _) (.cons (.drop _) .nil))))), fun x4 hx => (gv_name rfl rfl ?h42), fun l9 => (ex_val (ev_cb (ea_cons (ev_imm rfl (ea_nil (caK1 (unK (unS_arg1 (unS_dat1 (.imm _))) rfl (fun z10 => (ex_nil ⟨(l9, z10), (.shr (.own _) (.imm .nil)), _, rfl, fun z11 => ⟨.imm _, (ea_nil (caK1 (unK (unS_arg1 (unS_dat1 (.imm _))) rfl (fun z12 => (gv_name rfl rfl ?h43)) (nx_reprV _))))⟩⟩)) (nx_lenV _))))))))⟩⟩⟩⟩))))))))))))
   case h42 =>
    exact (tv_test (ev_op (ev_op (ev_op (ev_imm rfl (ev_int (opK opS_ixT rfl (fun z6 => (ev_int (opK opS_ixT rfl (fun z7 => (ev_int (opK (opS_dat2 (.imm _) (.imm _)) rfl (fun b8 => ⟨_, rfl, ⟨_, _, rfl, (ev_imm rfl ⟨_, rfl, (.imm _), (.cons (.same _) (.cons (.same _) (.cons (.drop _) (.cons (.drop _) (.cons (.drop _) .nil)))))⟩), rfl, (.cons (.same _) (.cons (.same _) (.cons (.drop _) (.cons (.drop _) (.cons (.drop _) .nil)))))⟩⟩) (nx_eqV _ _)))) (nx_ixV _ _)))) (nx_ixV _ _))))))))
   case h43 =>
    show SV _ _ [.imm a_0, .imm z1, .imm z12, .no, .no] _ _
    refine (sv_ret (ev_andV (ev_op (ev_map (vs := [4]) [.imm a_0, .imm z1, .imm z12, .no, .no] (hnoC rfl hnoN) rfl (fun _ h => h) rfl (iv_range1 (ea_cons (ev_int (ea_nil ⟨_, _, rfl, rfl, fun ds13 => ⟨_, _, rfl, (.cons (.same _) (.cons (.same _) (.cons (.same _) (.cons (.drop _) (.cons (.drop _) .nil))))), fun x14 hx => (gv_name rfl rfl ?h44), fun l18 => (ev_lstO (ea_cons (ev_imm rfl (ea_cons (ev_imm rfl (ea_nil ⟨[z12, z12], (.cons (.imm _) (.cons (.imm _) .nil)), Nat.le_of_ble_eq_true rfl, (opK (opS_dat2 (.own _) (.own _)) rfl (fun b19 => ⟨_, rfl, _, _, rfl, (ev_op (ev_cb (ea_cons (ev_imm rfl (ea_nil (caK1 (unK (unS_arg1 (unS_dat1 (.imm _))) rfl (fun z21 => (ev_imm rfl (opK (opS_dat2 (.imm _) (.imm _)) rfl (fun b22 => ⟨_, rfl, rfl, rfl⟩) (nx_eqV _ _)))) (nx_reprV _)))))))), fun b20 => ⟨_, rfl, rfl, (.imm .nil)⟩⟩) (nx_eqV _ _))⟩))))))⟩⟩))))))))
    case h44 =>
     exact (ev_cb (ea_cons (ev_callP (ex_val (ev_imm rfl (ex_nil ⟨a_0, (.imm .nil), _, rfl, fun z16 => ⟨.imm _, (ea_nil (caK1 (unK (unS_arg1 (unS_dat1 (.imm _))) rfl (fun z17 => ⟨_, rfl, (.imm _), (.cons (.same _) (.cons (.same _) (.cons (.same _) (.cons (.drop _) (.cons (.drop _) .nil)))))⟩) (nx_reprV _))))⟩⟩))))))
abbrev spV_law (K : PySem.W.Frag) (cm : Str → Option Addr) : Sp := spV K cm (α := List PyData) [.shr] (fun a => [.list a]) (fun a => f_law a) (fun z => .imm z) (fun _ => [])
theorem sc_law : FnScope N_law ["_law_script"] (defScope s_law) := ⟨rfl, rfl, rfl, by decide +kernel, rfl, by decide +kernel, by decide +kernel⟩
theorem okV_law (T : Txt K mg) : FnG P w K mg base CX0 6 T.f_law T.fd_law ["_law_script"] (spV_law K (cmX T)) := by
  refine okG0 T.F_law sc_law (fun vs H Q E h => spV_len h) (fun cdv A out s H vs Q E hgd hr h => ?_)
  have hu := hu_of hr
  have hu1 : (A.deeper (envOfC "law" (defScope s_law) s.heap.objs.size T.f_law cdv)).units + 160 < cLine := by have := hr.un; omega
  have hu64 : (A.deeper (envOfC "law" (defScope s_law) s.heap.objs.size T.f_law cdv)).units + 64 < cLine := by omega
  have hu65 : (A.deeper (envOfC "law" (defScope s_law) s.heap.objs.size T.f_law cdv)).units + 65 < cLine := by omega
  refine ⟨_, (pss_cons (ps_set (i := 1) sc_law.nd rfl (Or.inl rfl) (pe_callG (ok_q_feed T) hgd (hr.mono (by decide)) (by rfl) T.m_q_feed T.F_q_feed.kp T.b_q_feed .nil (pass0E (E := E)) (pa_cons (pv 0) pa_nil)))
    (pss_cons (ps_for PassesOwn.never rfl (pi_range1 rfl T.z_range (pa_cons pe_int pa_nil)) (pg_name (i := 2) sc_law.nd rfl (Or.inl rfl))
      (pss_cons (ps_set (i := 3) sc_law.nd rfl (Or.inl rfl) (pe_callG (ok_q_way T) hgd (hr.mono (by decide)) (by rfl) T.m_q_way T.F_q_way.kp T.b_q_way .nil (pass0E (E := E)) (pa_cons (pv 1) (pa_cons (pe_ix (show IxR _ (rIxV K) from ix_V) (pe_lstG (pa_cons pe_int (pa_cons pe_int (pa_cons pe_int pa_nil)))) (pe_callG (ok_q_next T) hgd (hr.mono (by decide)) (by rfl) T.m_q_next T.F_q_next.kp T.b_q_next .nil (pass0E (E := E)) (pa_cons (pv 1) (pa_cons pe_int pa_nil))) (fun _ _ => rfl)) (pa_cons pe_int pa_nil)))))
    (pss_cons (ps_for PassesOwn.never rfl (pi_range1 rfl T.z_range (pa_cons pe_int pa_nil)) (pg_name (i := 4) sc_law.nd rfl (Or.inl rfl))
      (pss_cons (ps_asg (pe_callG (ok_q_deed T) hgd (hr.mono (by decide)) (by rfl) T.m_q_deed T.F_q_deed.kp T.b_q_deed .nil (pass0E (E := E)) (pa_cons (pv 1) (pa_cons (pv 3) pa_nil))) (show PG _ _ (gTup K 2 _) from pg_tup rfl (pgs_cons (pg_name (i := 5) sc_law.nd rfl (Or.inl rfl)) (pgs_cons (pg_name (i := 6) sc_law.nd rfl (Or.inl rfl)) pgs_nil))))
    (pss_cons (ps_set (i := 7) sc_law.nd rfl (Or.inl rfl) (pe_callB (show CallR _ _ (arg1 (rDat1 K reprV)) from (call_reprV hgd hu1)) (by rfl) T.z_repr (by decide +kernel) (pa_cons (pe_tupG (pa_cons (pv 3) (pa_cons (pv 6) pa_nil))) pa_nil)))
    (pss_cons (ps_set (i := 8) sc_law.nd rfl (Or.inl rfl) (pe_callG (ok_q_due T) hgd (hr.mono (by decide)) (by rfl) T.m_q_due T.F_q_due.kp T.b_q_due .nil (pass0E (E := E)) (pa_cons (pv 5) (pa_cons (pv 3) (pa_cons (pv 6) pa_nil)))))
    (pss_cons (ps_for PassesOwn.never rfl (pi_range1 rfl T.z_range (pa_cons pe_int pa_nil)) (pg_name (i := 9) sc_law.nd rfl (Or.inl rfl))
      (pss_one (ps_if (PW.pt (pw_or (pt_cmpR (show OpR _ _ (rDat2 K neV) from (op_neVd hu64)) (pe_callB (show CallR _ _ (arg1 (rDat1 K reprV)) from (call_reprV hgd hu1)) (by rfl) T.z_repr (by decide +kernel) (pa_cons (pe_callG (ok_q_told T) hgd (hr.mono (by decide)) (by rfl) T.m_q_told T.F_q_told.kp T.b_q_told .nil (pass0E (E := E)) (pa_cons (pv 5) (pa_cons (pv 3) (pa_cons (pv 6) pa_nil)))) pa_nil)) (pe_callB (show CallR _ _ (arg1 (rDat1 K reprV)) from (call_reprV hgd hu1)) (by rfl) T.z_repr (by decide +kernel) (pa_cons (pv 8) pa_nil)) (nomark _)) (pw_or1 (pt_cmpR (show OpR _ _ (rDat2 K neV) from (op_neVd hu64)) (pe_callB (show CallR _ _ (arg1 (rDat1 K reprV)) from (call_reprV hgd hu1)) (by rfl) T.z_repr (by decide +kernel) (pa_cons (pe_tupG (pa_cons (pv 3) (pa_cons (pv 6) pa_nil))) pa_nil)) (pv 7) (nomark _)))))
      (pss_one (ps_ret pe_bl))
      pss_nil)))
    (pss_cons (ps_if (pt_not (pt_val (pe_callG (ok_q_front_right T) hgd (hr.mono (by decide)) (by rfl) T.m_q_front_right T.F_q_front_right.kp T.b_q_front_right .nil (pass0E (E := E)) (pa_cons (pv 3) pa_nil))))
      (pss_one (ps_ret pe_bl))
      pss_nil)
    (pss_one (ps_if (pt_cmpR (show OpR _ _ (rDat2 K eqV) from (op_eqVd hu64)) (pe_ix (show IxR _ (rIxV K) from ix_V) (pv 8) pe_int (fun _ _ => rfl)) pe_str (nomark _))
      (pss_one (ps_set (i := 3) sc_law.nd rfl (Or.inl rfl) (pe_ix (show IxR _ (rIxV K) from ix_V) (pe_ix (show IxR _ (rIxV K) from ix_V) (pv 8) pe_int (fun _ _ => rfl)) pe_int (fun _ _ => rfl))))
      pss_nil))))))))
    (pss_one (ps_if (pt_not (pt_val (pe_callG (ok_q_front_right T) hgd (hr.mono (by decide)) (by rfl) T.m_q_front_right T.F_q_front_right.kp T.b_q_front_right .nil (pass0E (E := E)) (pa_cons (pv 3) pa_nil))))
      (pss_one (ps_ret pe_bl))
      pss_nil)))))
    (pss_one (ps_ret pe_bl)))), ?_⟩
  refine spV_body (n := 9) h rfl (fun a vs hl => ?_)
  match vs, hl with
  | [v0], _ =>
  let a_0 := a
  show SV (ctxF K (cmX T) E) _ [.shr (.list a_0), .no, .no, .no, .no, .no, .no, .no, .no, .no] (f_law a_0) _
  unfold f_law
  refine (sv_seq (sv_asg (ev_callP (ex_val (ev_shr rfl (ex_nil ⟨a_0, (.shr (.shr _) .nil), _, rfl, fun z1 => ⟨.own _, (gv_name rfl rfl ?h45)⟩⟩))))))
  case h45 =>
   show SV _ _ [.shr (.list a_0), .own (.list z1), .no, .no, .no, .no, .no, .no, .no, .no] _ _
   refine (sv_seq (sv_forC (ρ := (PyData)) (fun s4 : List PyData => [.shr (.list a_0), .own (.list s4), .no, .no, .no, .no, .no, .no, .no, .no]) (iv_range1 (ea_cons (ev_int (ea_nil ⟨_, _, rfl, rfl, fun ds2 => ⟨z1, _, _, rfl, (.cons (.same _) (.cons (.same _) (.cons (.drop _) (.cons (.drop _) (.cons (.drop _) (.cons (.drop _) (.cons (.drop _) (.cons (.drop _) (.cons (.drop _) (.cons (.drop _) .nil)))))))))), fun x3 s4 hx => (gv_name rfl rfl ?h46), fun s4 => (sv_ret (ev_bl ⟨_, rfl, rfl, (.shr .nil)⟩))⟩⟩))))))
   case h46 =>
    refine (sv_seq (sv_asg (ev_callI rfl (ex_al rfl (fun z => nomatch z) (ex_val (ev_op (ev_lstO (ea_cons (ev_int (ea_cons (ev_int (ea_cons (ev_int (ea_nil ⟨[(.int 3), (.int 8), (.int 14)], (.cons (.imm _) (.cons (.imm _) (.cons (.imm _) .nil))), Nat.le_of_ble_eq_true rfl, (ev_callI rfl (ex_al rfl (fun z => nomatch z) (ex_val (ev_int (ex_nil ⟨(s4, (.int 3)), 1, _, _, _, (.io rfl (.own _) (.imm .nil)), _, rfl, fun z5 => ⟨_, rfl, .imm _, (opK (opS_ixL (.own _)) rfl (fun z6 => (ex_val (ev_int (ex_nil ⟨(z5.2, z6, (.int 6)), 1, _, _, _, (.io rfl (.own _) (.imm (.imm .nil))), _, rfl, fun z7 => ⟨_, rfl, .imm _, (gv_name rfl rfl ?h47)⟩⟩)))) (nx_ixV _ _))⟩⟩)))))⟩))))))))))))))
    case h47 =>
     show SV _ _ [.shr (.list a_0), .own (.list z7.2), .imm x3, .imm z7.1, .no, .no, .no, .no, .no, .no] _ _
     refine (sv_seq (sv_forC (ρ := (PyData)) (fun s10 : List PyData × PyData => [.shr (.list a_0), .own (.list s10.1), .imm x3, .imm s10.2, .no, .no, .no, .no, .no, .no]) (iv_range1 (ea_cons (ev_int (ea_nil ⟨_, _, rfl, rfl, fun ds8 => ⟨(z7.2, z7.1), _, _, rfl, (.cons (.same _) (.cons (.same _) (.cons (.same _) (.cons (.same _) (.cons (.drop _) (.cons (.drop _) (.cons (.drop _) (.cons (.drop _) (.cons (.drop _) (.cons (.drop _) .nil)))))))))), fun x9 s10 hx => (gv_name rfl rfl ?h48), fun s10 => (sv_if (tv_not (tv_testB (ev_bool (ev_callP (ex_val (ev_imm rfl (ex_nil ⟨s10.2, (.imm .nil), _, rfl, fun z34 => ⟨.imm _, ⟨_, _, rfl, rfl, fun b35 => ⟨_, rfl, ⟨_, _, rfl, (sv_ret (ev_bl ⟨_, rfl, ⟨_, rfl, rfl, (.shr .nil)⟩⟩)), (sv_next ⟨s10.1, rfl, (.cons (.same _) (.cons (.same _) (.cons (.drop _) (.cons (.drop _) (.cons (.drop _) (.cons (.drop _) (.cons (.drop _) (.cons (.drop _) (.cons (.drop _) (.cons (.drop _) .nil))))))))))⟩)⟩⟩⟩⟩⟩))))))))⟩⟩))))))
     case h48 =>
      refine (sv_seq (sv_asg (ev_callI rfl (ex_al rfl (fun z => nomatch z) (ex_val (ev_imm rfl (ex_nil ⟨(s10.1, s10.2), 1, _, _, _, (.io rfl (.own _) (.imm .nil)), _, rfl, fun z11 => ⟨_, rfl, .imm _, (gv_tup2 rfl fun p12 => (gv_cons (gv_name rfl rfl (gv_cons (gv_name rfl rfl (gv_nil (sv_seq (sv_asg (ev_cb (ea_cons (ev_tupI (ea_cons (ev_imm rfl (ea_cons (ev_imm rfl (ea_nil ⟨[s10.2, p12.2], rfl, Nat.le_of_ble_eq_true rfl, (ea_nil (caK1 (unK (unS_arg1 (unS_dat1 (.imm _))) rfl (fun z13 => (gv_name rfl rfl ?h49)) (nx_reprV _))))⟩))))))))))))))))⟩⟩)))))))
      case h49 =>
       show SV _ _ [.shr (.list a_0), .own (.list z11.2), .imm x3, .imm s10.2, .imm x9, .imm p12.1, .imm p12.2, .imm z13, .no, .no] _ _
       refine (sv_seq (sv_asg (ev_callP (ex_val (ev_imm rfl (ex_val (ev_imm rfl (ex_val (ev_imm rfl (ex_nil ⟨(p12.1, s10.2, p12.2), (.imm (.imm (.imm .nil))), _, rfl, fun z14 => ⟨.imm _, (gv_name rfl rfl ?h50)⟩⟩))))))))))
       case h50 =>
        show SV _ _ [.shr (.list a_0), .own (.list z11.2), .imm x3, .imm s10.2, .imm x9, .imm p12.1, .imm p12.2, .imm z13, .imm z14, .no] _ _
        refine (sv_seq (sv_forC (ρ := (PyData)) (fun s17 : Unit => [.shr (.list a_0), .own (.list z11.2), .imm x3, .imm s10.2, .imm x9, .imm p12.1, .imm p12.2, .imm z13, .imm z14, .no]) (iv_range1 (ea_cons (ev_int (ea_nil ⟨_, _, rfl, rfl, fun ds15 => ⟨(), _, _, rfl, (.cons (.same _) (.cons (.same _) (.cons (.same _) (.cons (.same _) (.cons (.same _) (.cons (.same _) (.cons (.same _) (.cons (.same _) (.cons (.same _) (.cons (.drop _) .nil)))))))))), fun x16 s17 hx => (gv_name rfl rfl ?h51), fun s17 => (sv_seq (sv_if (tv_not (tv_testB (ev_bool (ev_callP (ex_val (ev_imm rfl (ex_nil ⟨s10.2, (.imm .nil), _, rfl, fun z25 => ⟨.imm _, ⟨_, _, rfl, rfl, fun b26 => ⟨_, rfl, ⟨_, _, rfl, (sv_ret (ev_bl ⟨_, rfl, ⟨_, rfl, ⟨_, rfl, rfl, (.shr .nil)⟩⟩⟩)), (sv_next (sv_ifk (tv_test (ev_op (ev_op (ev_imm rfl (ev_int (opK opS_ixT rfl (fun z27 => (ev_str (szS (by decide +kernel)) (opK (opS_dat2 (.imm _) (.imm _)) rfl (fun b28 => ⟨_, rfl, ⟨(fun s29 : PyData => [.shr (.list a_0), .own (.list z11.2), .imm x3, .imm s29, .imm x9, .imm p12.1, .imm p12.2, .imm z13, .imm z14, .no]), _, _, _, rfl, (sv_asg (ev_op (ev_op (ev_imm rfl (ev_int (opK opS_ixT rfl (fun z30 => (ev_int (opK opS_ixT rfl (fun z31 => (gv_name rfl rfl ⟨z31, rfl, (.cons (.same _) (.cons (.same _) (.cons (.same _) (.cons (.same _) (.cons (.same _) (.cons (.same _) (.cons (.same _) (.cons (.same _) (.cons (.same _) (.cons (.drop _) .nil))))))))))⟩)) (nx_ixV _ _)))) (nx_ixV _ _))))))), (sv_next ⟨s10.2, rfl, (.cons (.same _) (.cons (.same _) (.cons (.same _) (.cons (.same _) (.cons (.same _) (.cons (.same _) (.cons (.same _) (.cons (.same _) (.cons (.same _) (.cons (.drop _) .nil))))))))))⟩), fun s29 => ⟨(z11.2, s29), rfl, (.cons (.same _) (.cons (.same _) (.cons (.same _) (.cons (.same _) (.cons (.drop _) (.cons (.drop _) (.cons (.drop _) (.cons (.drop _) (.cons (.drop _) (.cons (.drop _) .nil))))))))))⟩⟩⟩) (nx_eqV _ _)))) (nx_ixV _ _)))))))))⟩⟩⟩⟩⟩)))))))))⟩⟩))))))
        case h51 =>
         exact (sv_if (tv_or (tv_test (ev_op (ev_cb (ea_cons (ev_callP (ex_val (ev_imm rfl (ex_val (ev_imm rfl (ex_val (ev_imm rfl (ex_nil ⟨(p12.1, s10.2, p12.2), (.imm (.imm (.imm .nil))), _, rfl, fun z18 => ⟨.imm _, (ea_nil (caK1 (unK (unS_arg1 (unS_dat1 (.imm _))) rfl (fun z19 => (ev_cb (ea_cons (ev_imm rfl (ea_nil (caK1 (unK (unS_arg1 (unS_dat1 (.imm _))) rfl (fun z20 => (opK (opS_dat2 (.imm _) (.imm _)) rfl (fun b21 => ⟨_, rfl, ⟨_, _, rfl, (tv_test (ev_op (ev_cb (ea_cons (ev_tupI (ea_cons (ev_imm rfl (ea_cons (ev_imm rfl (ea_nil ⟨[s10.2, p12.2], rfl, Nat.le_of_ble_eq_true rfl, (ea_nil (caK1 (unK (unS_arg1 (unS_dat1 (.imm _))) rfl (fun z23 => (ev_imm rfl (opK (opS_dat2 (.imm _) (.imm _)) rfl (fun b24 => ⟨_, rfl, ⟨rfl, rfl⟩⟩) (nx_neV _ _)))) (nx_reprV _))))⟩)))))))))), fun b22 => ⟨_, _, rfl, (sv_ret (ev_bl ⟨_, rfl, ⟨_, rfl, ⟨_, rfl, ⟨_, rfl, rfl, (.shr .nil)⟩⟩⟩⟩)), (sv_next ⟨(), rfl, (.cons (.same _) (.cons (.same _) (.cons (.same _) (.cons (.same _) (.cons (.same _) (.cons (.same _) (.cons (.same _) (.cons (.same _) (.cons (.same _) (.cons (.drop _) .nil))))))))))⟩)⟩⟩⟩) (nx_neV _ _))) (nx_reprV _)))))))) (nx_reprV _))))⟩⟩))))))))))))))
theorem ok_law (T : Txt K mg) : FnG P w K mg base CX0 6 T.f_law T.fd_law ["_law_script"] (sp_law K) := FnG.imp (okV_law T) fun _ _ _ _ h => lawOf h law_true
end
theorem all_mk {l : PySem.W.OpenLaw} {w : World} {K : PySem.W.Frag} {h : Heap} {mg : Str → Option Value} {fa f0 f1 f2 f3 f4 f5 f6 f7 f8 f9 f10 f11 f12 f13 f14 f15 f16 : Addr} (X : K.In h) (G : h.Ns mainGlobals mg) (hfa : mg "law" = some (.ref fa))
    {od0 an0 : Option Addr} {sl0 : Array (Option Value)} {oc0 kV0 dc0 pm0 cd0 ct0 : Value}
    (a0 : PySem.W.nsIn K mainGlobals "numbered" = some (some (.ref f0)))
    (l0 : K.lookup f0 = some ⟨oc0, od0, .func (PySem.W.fnOf "numbered" "numbered" (defArgs s_p_numbered) (defBody s_p_numbered) (defScope s_p_numbered) .none kV0 dc0 pm0 an0 cd0 ct0), sl0⟩)
    (c0 : PySem.W.codeIn K cd0 "numbered" = true) (k0 : PySem.W.keepIn K (.ref f0) = true)
    {od1 an1 : Option Addr} {sl1 : Array (Option Value)} {oc1 kV1 dc1 pm1 cd1 ct1 : Value}
    (a1 : PySem.W.nsIn K mainGlobals "way_of" = some (some (.ref f1)))
    (l1 : K.lookup f1 = some ⟨oc1, od1, .func (PySem.W.fnOf "way_of" "way_of" (defArgs s_p_way_of) (defBody s_p_way_of) (defScope s_p_way_of) .none kV1 dc1 pm1 an1 cd1 ct1), sl1⟩)
    (c1 : PySem.W.codeIn K cd1 "way_of" = true) (k1 : PySem.W.keepIn K (.ref f1) = true)
    {od2 an2 : Option Addr} {sl2 : Array (Option Value)} {oc2 kV2 dc2 pm2 cd2 ct2 : Value}
    (a2 : PySem.W.nsIn K mainGlobals "ask_number" = some (some (.ref f2)))
    (l2 : K.lookup f2 = some ⟨oc2, od2, .func (PySem.W.fnOf "ask_number" "ask_number" (defArgs s_p_ask_number) (defBody s_p_ask_number) (defScope s_p_ask_number) .none kV2 dc2 pm2 an2 cd2 ct2), sl2⟩)
    (c2 : PySem.W.codeIn K cd2 "ask_number" = true) (k2 : PySem.W.keepIn K (.ref f2) = true)
    {od3 an3 : Option Addr} {sl3 : Array (Option Value)} {oc3 kV3 dc3 pm3 cd3 ct3 : Value}
    (a3 : PySem.W.nsIn K mainGlobals "with_comer" = some (some (.ref f3)))
    (l3 : K.lookup f3 = some ⟨oc3, od3, .func (PySem.W.fnOf "with_comer" "with_comer" (defArgs s_p_with_comer) (defBody s_p_with_comer) (defScope s_p_with_comer) .none kV3 dc3 pm3 an3 cd3 ct3), sl3⟩)
    (c3 : PySem.W.codeIn K cd3 "with_comer" = true) (k3 : PySem.W.keepIn K (.ref f3) = true)
    {od4 an4 : Option Addr} {sl4 : Array (Option Value)} {oc4 kV4 dc4 pm4 cd4 ct4 : Value}
    (a4 : PySem.W.nsIn K mainGlobals "without" = some (some (.ref f4)))
    (l4 : K.lookup f4 = some ⟨oc4, od4, .func (PySem.W.fnOf "without" "without" (defArgs s_p_without) (defBody s_p_without) (defScope s_p_without) .none kV4 dc4 pm4 an4 cd4 ct4), sl4⟩)
    (c4 : PySem.W.codeIn K cd4 "without" = true) (k4 : PySem.W.keepIn K (.ref f4) = true)
    {od5 an5 : Option Addr} {sl5 : Array (Option Value)} {oc5 kV5 dc5 pm5 cd5 ct5 : Value}
    (a5 : PySem.W.nsIn K mainGlobals "longer" = some (some (.ref f5)))
    (l5 : K.lookup f5 = some ⟨oc5, od5, .func (PySem.W.fnOf "longer" "longer" (defArgs s_p_longer) (defBody s_p_longer) (defScope s_p_longer) .none kV5 dc5 pm5 an5 cd5 ct5), sl5⟩)
    (c5 : PySem.W.codeIn K cd5 "longer" = true) (k5 : PySem.W.keepIn K (.ref f5) = true)
    {od6 an6 : Option Addr} {sl6 : Array (Option Value)} {oc6 kV6 dc6 pm6 cd6 ct6 : Value}
    (a6 : PySem.W.nsIn K mainGlobals "front_alone" = some (some (.ref f6)))
    (l6 : K.lookup f6 = some ⟨oc6, od6, .func (PySem.W.fnOf "front_alone" "front_alone" (defArgs s_p_front_alone) (defBody s_p_front_alone) (defScope s_p_front_alone) .none kV6 dc6 pm6 an6 cd6 ct6), sl6⟩)
    (c6 : PySem.W.codeIn K cd6 "front_alone" = true) (k6 : PySem.W.keepIn K (.ref f6) = true)
    {od7 an7 : Option Addr} {sl7 : Array (Option Value)} {oc7 kV7 dc7 pm7 cd7 ct7 : Value}
    (a7 : PySem.W.nsIn K mainGlobals "_law_feed" = some (some (.ref f7)))
    (l7 : K.lookup f7 = some ⟨oc7, od7, .func (PySem.W.fnOf "_law_feed" "_law_feed" (defArgs s_q_feed) (defBody s_q_feed) (defScope s_q_feed) .none kV7 dc7 pm7 an7 cd7 ct7), sl7⟩)
    (c7 : PySem.W.codeIn K cd7 "_law_feed" = true) (k7 : PySem.W.keepIn K (.ref f7) = true)
    {od8 an8 : Option Addr} {sl8 : Array (Option Value)} {oc8 kV8 dc8 pm8 cd8 ct8 : Value}
    (a8 : PySem.W.nsIn K mainGlobals "_law_next" = some (some (.ref f8)))
    (l8 : K.lookup f8 = some ⟨oc8, od8, .func (PySem.W.fnOf "_law_next" "_law_next" (defArgs s_q_next) (defBody s_q_next) (defScope s_q_next) .none kV8 dc8 pm8 an8 cd8 ct8), sl8⟩)
    (c8 : PySem.W.codeIn K cd8 "_law_next" = true) (k8 : PySem.W.keepIn K (.ref f8) = true)
    {od9 an9 : Option Addr} {sl9 : Array (Option Value)} {oc9 kV9 dc9 pm9 cd9 ct9 : Value}
    (a9 : PySem.W.nsIn K mainGlobals "_law_way" = some (some (.ref f9)))
    (l9 : K.lookup f9 = some ⟨oc9, od9, .func (PySem.W.fnOf "_law_way" "_law_way" (defArgs s_q_way) (defBody s_q_way) (defScope s_q_way) .none kV9 dc9 pm9 an9 cd9 ct9), sl9⟩)
    (c9 : PySem.W.codeIn K cd9 "_law_way" = true) (k9 : PySem.W.keepIn K (.ref f9) = true)
    {od10 an10 : Option Addr} {sl10 : Array (Option Value)} {oc10 kV10 dc10 pm10 cd10 ct10 : Value}
    (a10 : PySem.W.nsIn K mainGlobals "_law_flat" = some (some (.ref f10)))
    (l10 : K.lookup f10 = some ⟨oc10, od10, .func (PySem.W.fnOf "_law_flat" "_law_flat" (defArgs s_q_flat) (defBody s_q_flat) (defScope s_q_flat) .none kV10 dc10 pm10 an10 cd10 ct10), sl10⟩)
    (c10 : PySem.W.codeIn K cd10 "_law_flat" = true) (k10 : PySem.W.keepIn K (.ref f10) = true)
    {od11 an11 : Option Addr} {sl11 : Array (Option Value)} {oc11 kV11 dc11 pm11 cd11 ct11 : Value}
    (a11 : PySem.W.nsIn K mainGlobals "_law_built" = some (some (.ref f11)))
    (l11 : K.lookup f11 = some ⟨oc11, od11, .func (PySem.W.fnOf "_law_built" "_law_built" (defArgs s_q_built) (defBody s_q_built) (defScope s_q_built) .none kV11 dc11 pm11 an11 cd11 ct11), sl11⟩)
    (c11 : PySem.W.codeIn K cd11 "_law_built" = true) (k11 : PySem.W.keepIn K (.ref f11) = true)
    {od12 an12 : Option Addr} {sl12 : Array (Option Value)} {oc12 kV12 dc12 pm12 cd12 ct12 : Value}
    (a12 : PySem.W.nsIn K mainGlobals "_law_told" = some (some (.ref f12)))
    (l12 : K.lookup f12 = some ⟨oc12, od12, .func (PySem.W.fnOf "_law_told" "_law_told" (defArgs s_q_told) (defBody s_q_told) (defScope s_q_told) .none kV12 dc12 pm12 an12 cd12 ct12), sl12⟩)
    (c12 : PySem.W.codeIn K cd12 "_law_told" = true) (k12 : PySem.W.keepIn K (.ref f12) = true)
    {od13 an13 : Option Addr} {sl13 : Array (Option Value)} {oc13 kV13 dc13 pm13 cd13 ct13 : Value}
    (a13 : PySem.W.nsIn K mainGlobals "_law_due" = some (some (.ref f13)))
    (l13 : K.lookup f13 = some ⟨oc13, od13, .func (PySem.W.fnOf "_law_due" "_law_due" (defArgs s_q_due) (defBody s_q_due) (defScope s_q_due) .none kV13 dc13 pm13 an13 cd13 ct13), sl13⟩)
    (c13 : PySem.W.codeIn K cd13 "_law_due" = true) (k13 : PySem.W.keepIn K (.ref f13) = true)
    {od14 an14 : Option Addr} {sl14 : Array (Option Value)} {oc14 kV14 dc14 pm14 cd14 ct14 : Value}
    (a14 : PySem.W.nsIn K mainGlobals "_law_deed" = some (some (.ref f14)))
    (l14 : K.lookup f14 = some ⟨oc14, od14, .func (PySem.W.fnOf "_law_deed" "_law_deed" (defArgs s_q_deed) (defBody s_q_deed) (defScope s_q_deed) .none kV14 dc14 pm14 an14 cd14 ct14), sl14⟩)
    (c14 : PySem.W.codeIn K cd14 "_law_deed" = true) (k14 : PySem.W.keepIn K (.ref f14) = true)
    {od15 an15 : Option Addr} {sl15 : Array (Option Value)} {oc15 kV15 dc15 pm15 cd15 ct15 : Value}
    (a15 : PySem.W.nsIn K mainGlobals "_law_front_right" = some (some (.ref f15)))
    (l15 : K.lookup f15 = some ⟨oc15, od15, .func (PySem.W.fnOf "_law_front_right" "_law_front_right" (defArgs s_q_front_right) (defBody s_q_front_right) (defScope s_q_front_right) .none kV15 dc15 pm15 an15 cd15 ct15), sl15⟩)
    (c15 : PySem.W.codeIn K cd15 "_law_front_right" = true) (k15 : PySem.W.keepIn K (.ref f15) = true)
    {od16 an16 : Option Addr} {sl16 : Array (Option Value)} {oc16 kV16 dc16 pm16 cd16 ct16 : Value}
    (a16 : PySem.W.nsIn K mainGlobals "law" = some (some (.ref f16)))
    (l16 : K.lookup f16 = some ⟨oc16, od16, .func (PySem.W.fnOf "law" "law" (defArgs s_law) (defBody s_law) (defScope s_law) .none kV16 dc16 pm16 an16 cd16 ct16), sl16⟩)
    (c16 : PySem.W.codeIn K cd16 "law" = true) (k16 : PySem.W.keepIn K (.ref f16) = true)
    (z_enumerate : PySem.W.nsIn K mainGlobals "enumerate" = some none)
    (z_len : PySem.W.nsIn K mainGlobals "len" = some none)
    (z_tuple : PySem.W.nsIn K mainGlobals "tuple" = some none)
    (z_sum : PySem.W.nsIn K mainGlobals "sum" = some none)
    (z_list : PySem.W.nsIn K mainGlobals "list" = some none)
    (z_range : PySem.W.nsIn K mainGlobals "range" = some none)
    (z_isinstance : PySem.W.nsIn K mainGlobals "isinstance" = some none)
    (z_ValueError : PySem.W.nsIn K mainGlobals "ValueError" = some none)
    (z_min : PySem.W.nsIn K mainGlobals "min" = some none)
    (z_int : PySem.W.nsIn K mainGlobals "int" = some none)
    (z_repr : PySem.W.nsIn K mainGlobals "repr" = some none)
    {C_NoComer : Addr} (aC_NoComer : PySem.W.nsIn K mainGlobals "NoComer" = some (some (.ref C_NoComer)))
    {C_NoBeat : Addr} (aC_NoBeat : PySem.W.nsIn K mainGlobals "NoBeat" = some (some (.ref C_NoBeat)))
    {C_WaitError : Addr} (aC_WaitError : PySem.W.nsIn K mainGlobals "WaitError" = some (some (.ref C_WaitError)))
    {C_NoHouse : Addr} (aC_NoHouse : PySem.W.nsIn K mainGlobals "NoHouse" = some (some (.ref C_NoHouse)))
    {C_NoPaper : Addr} (aC_NoPaper : PySem.W.nsIn K mainGlobals "NoPaper" = some (some (.ref C_NoPaper)))
    {C_NoRest : Addr} (aC_NoRest : PySem.W.nsIn K mainGlobals "NoRest" = some (some (.ref C_NoRest)))
    {C_NoRow : Addr} (aC_NoRow : PySem.W.nsIn K mainGlobals "NoRow" = some (some (.ref C_NoRow)))
    {C_NoText : Addr} (aC_NoText : PySem.W.nsIn K mainGlobals "NoText" = some (some (.ref C_NoText)))
    {C_TooMany : Addr} (aC_TooMany : PySem.W.nsIn K mainGlobals "TooMany" = some (some (.ref C_TooMany)))
    (ic_NoHouse : PySem.W.isClsIn K C_NoHouse = true) (tc_NoHouse : PySem.W.typeIn K (.ref C_NoHouse) = some (.type "type")) (bc_NoHouse : PySem.W.subIn K (.ref C_NoHouse) (.type "BaseException") = some true)
    (ic_NoPaper : PySem.W.isClsIn K C_NoPaper = true) (tc_NoPaper : PySem.W.typeIn K (.ref C_NoPaper) = some (.type "type")) (bc_NoPaper : PySem.W.subIn K (.ref C_NoPaper) (.type "BaseException") = some true)
    (ic_NoRest : PySem.W.isClsIn K C_NoRest = true) (tc_NoRest : PySem.W.typeIn K (.ref C_NoRest) = some (.type "type")) (bc_NoRest : PySem.W.subIn K (.ref C_NoRest) (.type "BaseException") = some true)
    (ic_NoRow : PySem.W.isClsIn K C_NoRow = true) (tc_NoRow : PySem.W.typeIn K (.ref C_NoRow) = some (.type "type")) (bc_NoRow : PySem.W.subIn K (.ref C_NoRow) (.type "BaseException") = some true)
    (ic_NoText : PySem.W.isClsIn K C_NoText = true) (tc_NoText : PySem.W.typeIn K (.ref C_NoText) = some (.type "type")) (bc_NoText : PySem.W.subIn K (.ref C_NoText) (.type "BaseException") = some true)
    (ic_TooMany : PySem.W.isClsIn K C_TooMany = true) (tc_TooMany : PySem.W.typeIn K (.ref C_TooMany) = some (.type "type")) (bc_TooMany : PySem.W.subIn K (.ref C_TooMany) (.type "BaseException") = some true)
    (ic_NoBeat : PySem.W.isClsIn K C_NoBeat = true) (tc_NoBeat : PySem.W.typeIn K (.ref C_NoBeat) = some (.type "type")) (bc_NoBeat : PySem.W.subIn K (.ref C_NoBeat) (.type "BaseException") = some true)
    (ic_NoComer : PySem.W.isClsIn K C_NoComer = true) (tc_NoComer : PySem.W.typeIn K (.ref C_NoComer) = some (.type "type")) (bc_NoComer : PySem.W.subIn K (.ref C_NoComer) (.type "BaseException") = some true)
    (ic_WaitError : PySem.W.isClsIn K C_WaitError = true) (tc_WaitError : PySem.W.typeIn K (.ref C_WaitError) = some (.type "type")) (bc_WaitError : PySem.W.subIn K (.ref C_WaitError) (.type "BaseException") = some true)
    (rr_WaitError : PySem.W.readsIn K C_WaitError (.type "type") = true) (rg_WaitError : PySem.W.specialIn K (.ref C_WaitError) "__getattribute__" = some (some (.builtin "type.__getattribute__"))) (ra_WaitError : PySem.W.findCls K (.ref C_WaitError) (.type "type") "__init__" = some (.val (.builtin "ValueError.__init__")))
    {fx_NoComer : Addr} {odx_NoComer anx_NoComer : Option Addr} {slx_NoComer : Array (Option Value)} {ocx_NoComer kVx_NoComer dcx_NoComer pmx_NoComer cdx_NoComer ctx_NoComer : Value} {nm_NoComer qn_NoComer : Str} {ns_NoComer : Addr} {bs_NoComer bm_NoComer : List Value} {sn_NoComer : List Str} {sb_NoComer : List Value} {ab_NoComer : Bool} {co_NoComer : Option Bool} {dd_NoComer : Option Addr} {p0_NoComer p1_NoComer p2_NoComer p3_NoComer p5_NoComer : Option Value}
    (ix_NoComer : PySem.W.findIn K (.ref C_NoComer) "__init__" = some (some (.ref fx_NoComer))) (tx_NoComer : PySem.W.typeIn K (.ref fx_NoComer) = some (.type "function"))
    (lx_NoComer : K.lookup fx_NoComer = some ⟨ocx_NoComer, odx_NoComer, .func (PySem.W.fnOf "__init__" "NoComer.__init__" (defArgs s_p_NoComer___init__) (defBody s_p_NoComer___init__) (defScope s_p_NoComer___init__) .none kVx_NoComer dcx_NoComer pmx_NoComer anx_NoComer cdx_NoComer ctx_NoComer), slx_NoComer⟩)
    (cx_NoComer : PySem.W.codeIn K cdx_NoComer "NoComer.__init__" = true) (kx_NoComer : PySem.W.keepIn K (.ref fx_NoComer) = true)
    (ox_NoComer : K.lookup C_NoComer = some (excClassObj nm_NoComer qn_NoComer C_NoComer ns_NoComer bs_NoComer bm_NoComer true sn_NoComer sb_NoComer ab_NoComer co_NoComer dd_NoComer p0_NoComer p1_NoComer p2_NoComer p3_NoComer p5_NoComer "ValueError.__new__")) (or_NoComer : PySem.HandSPX.refsVE bm_NoComer = true)
    (sa_NoComer : PySem.W.findIn K (.ref C_NoComer) "__setattr__" = some (some (.builtin "object.__setattr__")))
    (ex_NoComer : PySem.W.subIn K (.ref C_NoComer) (.type "BaseException") = some true)
    (ty_NoComer : PySem.W.typeIn K (.ref C_NoComer) = some (.type "type"))
    (kc_NoComer : PySem.W.keepIn K (.ref C_NoComer) = true)
    (hd_NoComer : PySem.W.hasDictIn K C_NoComer = true)
    (hg_NoComer : PySem.W.findIn K (.ref C_NoComer) "__getattribute__" = some (some (.builtin "BaseException.__getattribute__")))
    (hk_NoComer : PySem.W.findIn K (.ref C_NoComer) "__getattr__" = some none)
    (ha_NoComer : PySem.W.findIn K (.ref C_NoComer) "__class__" = some (some (.builtin "object.__class__")))
    (hn_NoComer : PySem.W.specialIn K (.builtin "object.__class__") "__get__" = some (some (.builtin "getset_descriptor.__get__")))
    (ht_NoComer : PySem.W.takesIn K (.builtin "object.__class__") = some true)
    (hm_NoComer : PySem.W.mroIn K C_NoComer (.type "object") = some true)
    (nnumber_NoComer : PySem.W.findIn K (.ref C_NoComer) "number" = some none)
    (su_NoComer_NoComer : PySem.W.subIn K (.ref C_NoComer) (.ref C_NoComer) = some true)
    (su_NoComer_NoHouse : PySem.W.subIn K (.ref C_NoComer) (.ref C_NoHouse) = some false)
    (su_NoComer_NoPaper : PySem.W.subIn K (.ref C_NoComer) (.ref C_NoPaper) = some false)
    (su_NoComer_NoRest : PySem.W.subIn K (.ref C_NoComer) (.ref C_NoRest) = some false)
    (su_NoComer_NoRow : PySem.W.subIn K (.ref C_NoComer) (.ref C_NoRow) = some false)
    (su_NoComer_NoText : PySem.W.subIn K (.ref C_NoComer) (.ref C_NoText) = some false)
    (su_NoComer_TooMany : PySem.W.subIn K (.ref C_NoComer) (.ref C_TooMany) = some false)
    (su_NoComer_NoBeat : PySem.W.subIn K (.ref C_NoComer) (.ref C_NoBeat) = some false)
    (su_NoComer_WaitError : PySem.W.subIn K (.ref C_NoComer) (.ref C_WaitError) = some true)
    (sv_NoComer : PySem.W.subIn K (.ref C_NoComer) (.type "ValueError") = some true)
    {fx_NoBeat : Addr} {odx_NoBeat anx_NoBeat : Option Addr} {slx_NoBeat : Array (Option Value)} {ocx_NoBeat kVx_NoBeat dcx_NoBeat pmx_NoBeat cdx_NoBeat ctx_NoBeat : Value} {nm_NoBeat qn_NoBeat : Str} {ns_NoBeat : Addr} {bs_NoBeat bm_NoBeat : List Value} {sn_NoBeat : List Str} {sb_NoBeat : List Value} {ab_NoBeat : Bool} {co_NoBeat : Option Bool} {dd_NoBeat : Option Addr} {p0_NoBeat p1_NoBeat p2_NoBeat p3_NoBeat p5_NoBeat : Option Value}
    (ix_NoBeat : PySem.W.findIn K (.ref C_NoBeat) "__init__" = some (some (.ref fx_NoBeat))) (tx_NoBeat : PySem.W.typeIn K (.ref fx_NoBeat) = some (.type "function"))
    (lx_NoBeat : K.lookup fx_NoBeat = some ⟨ocx_NoBeat, odx_NoBeat, .func (PySem.W.fnOf "__init__" "NoBeat.__init__" (defArgs s_p_NoBeat___init__) (defBody s_p_NoBeat___init__) (defScope s_p_NoBeat___init__) .none kVx_NoBeat dcx_NoBeat pmx_NoBeat anx_NoBeat cdx_NoBeat ctx_NoBeat), slx_NoBeat⟩)
    (cx_NoBeat : PySem.W.codeIn K cdx_NoBeat "NoBeat.__init__" = true) (kx_NoBeat : PySem.W.keepIn K (.ref fx_NoBeat) = true)
    (ox_NoBeat : K.lookup C_NoBeat = some (excClassObj nm_NoBeat qn_NoBeat C_NoBeat ns_NoBeat bs_NoBeat bm_NoBeat true sn_NoBeat sb_NoBeat ab_NoBeat co_NoBeat dd_NoBeat p0_NoBeat p1_NoBeat p2_NoBeat p3_NoBeat p5_NoBeat "ValueError.__new__")) (or_NoBeat : PySem.HandSPX.refsVE bm_NoBeat = true)
    (sa_NoBeat : PySem.W.findIn K (.ref C_NoBeat) "__setattr__" = some (some (.builtin "object.__setattr__")))
    (ex_NoBeat : PySem.W.subIn K (.ref C_NoBeat) (.type "BaseException") = some true)
    (ty_NoBeat : PySem.W.typeIn K (.ref C_NoBeat) = some (.type "type"))
    (kc_NoBeat : PySem.W.keepIn K (.ref C_NoBeat) = true)
    (hd_NoBeat : PySem.W.hasDictIn K C_NoBeat = true)
    (hg_NoBeat : PySem.W.findIn K (.ref C_NoBeat) "__getattribute__" = some (some (.builtin "BaseException.__getattribute__")))
    (hk_NoBeat : PySem.W.findIn K (.ref C_NoBeat) "__getattr__" = some none)
    (ha_NoBeat : PySem.W.findIn K (.ref C_NoBeat) "__class__" = some (some (.builtin "object.__class__")))
    (hn_NoBeat : PySem.W.specialIn K (.builtin "object.__class__") "__get__" = some (some (.builtin "getset_descriptor.__get__")))
    (ht_NoBeat : PySem.W.takesIn K (.builtin "object.__class__") = some true)
    (hm_NoBeat : PySem.W.mroIn K C_NoBeat (.type "object") = some true)
    (su_NoBeat_NoBeat : PySem.W.subIn K (.ref C_NoBeat) (.ref C_NoBeat) = some true)
    (su_NoBeat_NoHouse : PySem.W.subIn K (.ref C_NoBeat) (.ref C_NoHouse) = some false)
    (su_NoBeat_NoPaper : PySem.W.subIn K (.ref C_NoBeat) (.ref C_NoPaper) = some false)
    (su_NoBeat_NoRest : PySem.W.subIn K (.ref C_NoBeat) (.ref C_NoRest) = some false)
    (su_NoBeat_NoRow : PySem.W.subIn K (.ref C_NoBeat) (.ref C_NoRow) = some false)
    (su_NoBeat_NoText : PySem.W.subIn K (.ref C_NoBeat) (.ref C_NoText) = some false)
    (su_NoBeat_TooMany : PySem.W.subIn K (.ref C_NoBeat) (.ref C_TooMany) = some false)
    (su_NoBeat_NoComer : PySem.W.subIn K (.ref C_NoBeat) (.ref C_NoComer) = some false)
    (su_NoBeat_WaitError : PySem.W.subIn K (.ref C_NoBeat) (.ref C_WaitError) = some true)
    (sv_NoBeat : PySem.W.subIn K (.ref C_NoBeat) (.type "ValueError") = some true)
    : ∃ fd : FuncData, (∀ (s : Shared) (v : Value), BindsTo s fd ⟨[v], []⟩ [("_law_script", v)]) ∧ ∀ base : Heap, K.In base → base.Ns mainGlobals mg → FnG l.prog w K mg base CX0 6 fa fd ["_law_script"] (sp_law K) := by
  have e := hfa.symm.trans (PySem.W.mg_of X G a16)
  cases e
  have F0 := fun_mk (st := s_p_numbered) l0 c0 k0
  have b0 := F0.binds (ps := ["way"]) fun _ _ _ _ _ _ us hl => match us, hl with | [_], _ => rfl
  have F1 := fun_mk (st := s_p_way_of) l1 c1 k1
  have b1 := F1.binds (ps := ["rows"]) fun _ _ _ _ _ _ us hl => match us, hl with | [_], _ => rfl
  have F2 := fun_mk (st := s_p_ask_number) l2 c2 k2
  have b2 := F2.binds (ps := ["way", "number"]) fun _ _ _ _ _ _ us hl => match us, hl with | [_, _], _ => rfl
  have F3 := fun_mk (st := s_p_with_comer) l3 c3 k3
  have b3 := F3.binds (ps := ["way", "beat", "place", "comer"]) fun _ _ _ _ _ _ us hl => match us, hl with | [_, _, _, _], _ => rfl
  have F4 := fun_mk (st := s_p_without) l4 c4 k4
  have b4 := F4.binds (ps := ["way", "number"]) fun _ _ _ _ _ _ us hl => match us, hl with | [_, _], _ => rfl
  have F5 := fun_mk (st := s_p_longer) l5 c5 k5
  have b5 := F5.binds (ps := ["way", "number", "more"]) fun _ _ _ _ _ _ us hl => match us, hl with | [_, _, _], _ => rfl
  have F6 := fun_mk (st := s_p_front_alone) l6 c6 k6
  have b6 := F6.binds (ps := ["way"]) fun _ _ _ _ _ _ us hl => match us, hl with | [_], _ => rfl
  have F7 := fun_mk (st := s_q_feed) l7 c7 k7
  have b7 := F7.binds (ps := ["_law_script"]) fun _ _ _ _ _ _ us hl => match us, hl with | [_], _ => rfl
  have F8 := fun_mk (st := s_q_next) l8 c8 k8
  have b8 := F8.binds (ps := ["_law_feed_here", "_law_many"]) fun _ _ _ _ _ _ us hl => match us, hl with | [_, _], _ => rfl
  have F9 := fun_mk (st := s_q_way) l9 c9 k9
  have b9 := F9.binds (ps := ["_law_feed_here", "_law_beats", "_law_works"]) fun _ _ _ _ _ _ us hl => match us, hl with | [_, _, _], _ => rfl
  have F10 := fun_mk (st := s_q_flat) l10 c10 k10
  have b10 := F10.binds (ps := ["_law_way_here"]) fun _ _ _ _ _ _ us hl => match us, hl with | [_], _ => rfl
  have F11 := fun_mk (st := s_q_built) l11 c11 k11
  have b11 := F11.binds (ps := ["_law_rows", "_law_many"]) fun _ _ _ _ _ _ us hl => match us, hl with | [_, _], _ => rfl
  have F12 := fun_mk (st := s_q_told) l12 c12 k12
  have b12 := F12.binds (ps := ["_law_deed_here", "_law_way_here", "_law_some"]) fun _ _ _ _ _ _ us hl => match us, hl with | [_, _, _], _ => rfl
  have F13 := fun_mk (st := s_q_due) l13 c13 k13
  have b13 := F13.binds (ps := ["_law_deed_here", "_law_way_here", "_law_some"]) fun _ _ _ _ _ _ us hl => match us, hl with | [_, _, _], _ => rfl
  have F14 := fun_mk (st := s_q_deed) l14 c14 k14
  have b14 := F14.binds (ps := ["_law_feed_here", "_law_way_here"]) fun _ _ _ _ _ _ us hl => match us, hl with | [_, _], _ => rfl
  have F15 := fun_mk (st := s_q_front_right) l15 c15 k15
  have b15 := F15.binds (ps := ["_law_way_here"]) fun _ _ _ _ _ _ us hl => match us, hl with | [_], _ => rfl
  have F16 := fun_mk (st := s_law) l16 c16 k16
  have b16 := F16.binds (ps := ["_law_script"]) fun _ _ _ _ _ _ us hl => match us, hl with | [_], _ => rfl
  have Fx_NoComer := fun_mk (st := s_p_NoComer___init__) lx_NoComer cx_NoComer kx_NoComer
  have bx_NoComer := Fx_NoComer.binds (ps := ["self", "number"]) fun _ _ _ _ _ _ us hl => match us, hl with | [_, _], _ => rfl
  have nfx_NoComer : ∀ f ∈ (["number"] : List Str), PySem.W.findIn K (.ref C_NoComer) f = some none := fun f hf => by
      simp only [List.mem_cons, List.not_mem_nil, or_false] at hf
      subst hf
      exact nnumber_NoComer
  have Fx_NoBeat := fun_mk (st := s_p_NoBeat___init__) lx_NoBeat cx_NoBeat kx_NoBeat
  have bx_NoBeat := Fx_NoBeat.binds (ps := ["self"]) fun _ _ _ _ _ _ us hl => match us, hl with | [_], _ => rfl
  have nfx_NoBeat : ∀ f ∈ ([] : List Str), PySem.W.findIn K (.ref C_NoBeat) f = some none := fun f hf => (List.not_mem_nil hf).elim
  let T : Txt K mg := ⟨f0, _, F0, PySem.W.mg_of X G a0, b0, f1, _, F1, PySem.W.mg_of X G a1, b1, f2, _, F2, PySem.W.mg_of X G a2, b2, f3, _, F3, PySem.W.mg_of X G a3, b3, f4, _, F4, PySem.W.mg_of X G a4, b4, f5, _, F5, PySem.W.mg_of X G a5, b5, f6, _, F6, PySem.W.mg_of X G a6, b6, f7, _, F7, PySem.W.mg_of X G a7, b7, f8, _, F8, PySem.W.mg_of X G a8, b8, f9, _, F9, PySem.W.mg_of X G a9, b9, f10, _, F10, PySem.W.mg_of X G a10, b10, f11, _, F11, PySem.W.mg_of X G a11, b11, f12, _, F12, PySem.W.mg_of X G a12, b12, f13, _, F13, PySem.W.mg_of X G a13, b13, f14, _, F14, PySem.W.mg_of X G a14, b14, f15, _, F15, PySem.W.mg_of X G a15, b15, fa, _, F16, PySem.W.mg_of X G a16, b16, PySem.W.mg_none_of X G z_enumerate, PySem.W.mg_none_of X G z_len, PySem.W.mg_none_of X G z_tuple, PySem.W.mg_none_of X G z_sum, PySem.W.mg_none_of X G z_list, PySem.W.mg_none_of X G z_range, PySem.W.mg_none_of X G z_isinstance, PySem.W.mg_none_of X G z_ValueError, PySem.W.mg_none_of X G z_min, PySem.W.mg_none_of X G z_int, PySem.W.mg_none_of X G z_repr, C_NoComer, PySem.W.mg_of X G aC_NoComer, C_NoBeat, PySem.W.mg_of X G aC_NoBeat, C_WaitError, PySem.W.mg_of X G aC_WaitError, C_NoHouse, PySem.W.mg_of X G aC_NoHouse, C_NoPaper, PySem.W.mg_of X G aC_NoPaper, C_NoRest, PySem.W.mg_of X G aC_NoRest, C_NoRow, PySem.W.mg_of X G aC_NoRow, C_NoText, PySem.W.mg_of X G aC_NoText, C_TooMany, PySem.W.mg_of X G aC_TooMany, ic_NoHouse, tc_NoHouse, bc_NoHouse, ic_NoPaper, tc_NoPaper, bc_NoPaper, ic_NoRest, tc_NoRest, bc_NoRest, ic_NoRow, tc_NoRow, bc_NoRow, ic_NoText, tc_NoText, bc_NoText, ic_TooMany, tc_TooMany, bc_TooMany, ic_NoBeat, tc_NoBeat, bc_NoBeat, ic_NoComer, tc_NoComer, bc_NoComer, ic_WaitError, tc_WaitError, bc_WaitError, ⟨rr_WaitError, rg_WaitError⟩, ra_WaitError, fx_NoComer, _, Fx_NoComer, bx_NoComer, ⟨⟨_, _, _, _, _, _, _, _, _, _, _, _, _, _, _, ox_NoComer, or_NoComer⟩, sa_NoComer, ex_NoComer, ty_NoComer, kc_NoComer⟩, ix_NoComer, tx_NoComer, nfx_NoComer, ⟨hd_NoComer, hg_NoComer, hk_NoComer, ex_NoComer, ha_NoComer, hn_NoComer, ht_NoComer, hm_NoComer⟩, ⟨hg_NoComer, hk_NoComer, ex_NoComer, hd_NoComer⟩, su_NoComer_NoComer, su_NoComer_NoHouse, su_NoComer_NoPaper, su_NoComer_NoRest, su_NoComer_NoRow, su_NoComer_NoText, su_NoComer_TooMany, su_NoComer_NoBeat, su_NoComer_WaitError, kitOf ic_NoHouse tc_NoHouse su_NoComer_NoHouse su_NoComer_NoComer, kitOf ic_NoPaper tc_NoPaper su_NoComer_NoPaper su_NoComer_NoComer, kitOf ic_NoRest tc_NoRest su_NoComer_NoRest su_NoComer_NoComer, kitOf ic_NoRow tc_NoRow su_NoComer_NoRow su_NoComer_NoComer, kitOf ic_NoText tc_NoText su_NoComer_NoText su_NoComer_NoComer, kitOf ic_TooMany tc_TooMany su_NoComer_TooMany su_NoComer_NoComer, kitOf ic_NoBeat tc_NoBeat su_NoComer_NoBeat su_NoComer_NoComer, kitOf ic_NoComer tc_NoComer su_NoComer_NoComer su_NoComer_NoComer, exmOf ic_WaitError tc_WaitError bc_WaitError su_NoComer_WaitError, kitOfT (by decide +kernel) sv_NoComer, fx_NoBeat, _, Fx_NoBeat, bx_NoBeat, ⟨⟨_, _, _, _, _, _, _, _, _, _, _, _, _, _, _, ox_NoBeat, or_NoBeat⟩, sa_NoBeat, ex_NoBeat, ty_NoBeat, kc_NoBeat⟩, ix_NoBeat, tx_NoBeat, nfx_NoBeat, ⟨hd_NoBeat, hg_NoBeat, hk_NoBeat, ex_NoBeat, ha_NoBeat, hn_NoBeat, ht_NoBeat, hm_NoBeat⟩, ⟨hg_NoBeat, hk_NoBeat, ex_NoBeat, hd_NoBeat⟩, su_NoBeat_NoBeat, su_NoBeat_NoHouse, su_NoBeat_NoPaper, su_NoBeat_NoRest, su_NoBeat_NoRow, su_NoBeat_NoText, su_NoBeat_TooMany, su_NoBeat_NoComer, su_NoBeat_WaitError, kitOf ic_NoHouse tc_NoHouse su_NoBeat_NoHouse su_NoBeat_NoBeat, kitOf ic_NoPaper tc_NoPaper su_NoBeat_NoPaper su_NoBeat_NoBeat, kitOf ic_NoRest tc_NoRest su_NoBeat_NoRest su_NoBeat_NoBeat, kitOf ic_NoRow tc_NoRow su_NoBeat_NoRow su_NoBeat_NoBeat, kitOf ic_NoText tc_NoText su_NoBeat_NoText su_NoBeat_NoBeat, kitOf ic_TooMany tc_TooMany su_NoBeat_TooMany su_NoBeat_NoBeat, kitOf ic_NoBeat tc_NoBeat su_NoBeat_NoBeat su_NoBeat_NoBeat, kitOf ic_NoComer tc_NoComer su_NoBeat_NoComer su_NoBeat_NoBeat, exmOf ic_WaitError tc_WaitError bc_WaitError su_NoBeat_WaitError, kitOfT (by decide +kernel) sv_NoBeat⟩
  exact ⟨T.fd_law, fun s v => .of_eq rfl, fun base _ _ => ok_law T⟩
theorem walk {l : PySem.W.OpenLaw} {q : Program} {loose : List Str} {XP : (Str → Option Value) → Heap → Prop} {YP : World → Heap → Prop} {d : DefRec} {K : Params → PySem.W.Frag} (hn : l.most = some 63) (hdf : d.params.defaults = [])
    (hY : ∀ (w : World) (h : Heap), YP w h → (K w.params).In h)
    (F : ∀ (w : World) (mg : Str → Option Value) (fa : Addr) (h : Heap), (K w.params).In h → h.Ns mainGlobals mg → mg d.name = some (.ref fa) →
      ∃ fd : FuncData, (∀ (s : Shared) (u : Value), BindsTo s fd ⟨[u], []⟩ [("_law_script", u)]) ∧ ∀ base : Heap, (K w.params).In base → base.Ns mainGlobals mg → FnG l.prog w (K w.params) mg base CX0 6 fa fd ["_law_script"] (sp_law (K w.params))) :
    PySem.W.WalkO q loose XP YP l.row.toRowW d [] (fun f vs => PySem.call f vs) :=
  walkG (n := 63) (k := 6) (x := "_law_script") (sp := fun w => sp_law (K w.params)) hn (by decide) hdf ⟨rfl, by decide, by decide⟩ hY F (fun _ _ a ns hl _ hS => ⟨a, ns, rfl, hS, hl, fun _ => rfl⟩)
end Hw
open PySem PySem.W PyProof.Rows
set_option maxRecDepth 100000 in
set_option maxHeartbeats 0 in
theorem PySem.Challenge.cw_hatchwaits_k26_ways_changed_holds : PySem.Challenge.rw_hatchwaits_k26_ways_changed.Holds := by
  w_on; o_law; k_head; (case hw => w_witness2)
  k_fill
  refine Hw.walk (l := PySem.Challenge.rw_hatchwaits_k26_ways_changed) rfl rfl (fun w h Y => PySem.W.kIn_of Y) ?F
  case F =>
    intro w mg fa h KX G hmg
    refine' Hw.all_mk KX G hmg ?a0 ?l0 ?c0 ?k0 ?a1 ?l1 ?c1 ?k1 ?a2 ?l2 ?c2 ?k2 ?a3 ?l3 ?c3 ?k3 ?a4 ?l4 ?c4 ?k4 ?a5 ?l5 ?c5 ?k5 ?a6 ?l6 ?c6 ?k6 ?a7 ?l7 ?c7 ?k7 ?a8 ?l8 ?c8 ?k8 ?a9 ?l9 ?c9 ?k9 ?a10 ?l10 ?c10 ?k10 ?a11 ?l11 ?c11 ?k11 ?a12 ?l12 ?c12 ?k12 ?a13 ?l13 ?c13 ?k13 ?a14 ?l14 ?c14 ?k14 ?a15 ?l15 ?c15 ?k15 ?a16 ?l16 ?c16 ?k16 ?z_enumerate ?z_len ?z_tuple ?z_sum ?z_list ?z_range ?z_isinstance ?z_ValueError ?z_min ?z_int ?z_repr ?aC_NoComer ?aC_NoBeat ?aC_WaitError ?aC_NoHouse ?aC_NoPaper ?aC_NoRest ?aC_NoRow ?aC_NoText ?aC_TooMany ?ic_NoHouse ?tc_NoHouse ?bc_NoHouse ?ic_NoPaper ?tc_NoPaper ?bc_NoPaper ?ic_NoRest ?tc_NoRest ?bc_NoRest ?ic_NoRow ?tc_NoRow ?bc_NoRow ?ic_NoText ?tc_NoText ?bc_NoText ?ic_TooMany ?tc_TooMany ?bc_TooMany ?ic_NoBeat ?tc_NoBeat ?bc_NoBeat ?ic_NoComer ?tc_NoComer ?bc_NoComer ?ic_WaitError ?tc_WaitError ?bc_WaitError ?rr_WaitError ?rg_WaitError ?ra_WaitError ?ix_NoComer ?tx_NoComer ?lx_NoComer ?cx_NoComer ?kx_NoComer ?ox_NoComer ?or_NoComer ?sa_NoComer ?ex_NoComer ?ty_NoComer ?kc_NoComer ?hd_NoComer ?hg_NoComer ?hk_NoComer ?ha_NoComer ?hn_NoComer ?ht_NoComer ?hm_NoComer ?nnumber_NoComer ?su_NoComer_NoComer ?su_NoComer_NoHouse ?su_NoComer_NoPaper ?su_NoComer_NoRest ?su_NoComer_NoRow ?su_NoComer_NoText ?su_NoComer_TooMany ?su_NoComer_NoBeat ?su_NoComer_WaitError          ?sv_NoComer ?ix_NoBeat ?tx_NoBeat ?lx_NoBeat ?cx_NoBeat ?kx_NoBeat ?ox_NoBeat ?or_NoBeat ?sa_NoBeat ?ex_NoBeat ?ty_NoBeat ?kc_NoBeat ?hd_NoBeat ?hg_NoBeat ?hk_NoBeat ?ha_NoBeat ?hn_NoBeat ?ht_NoBeat ?hm_NoBeat ?su_NoBeat_NoBeat ?su_NoBeat_NoHouse ?su_NoBeat_NoPaper ?su_NoBeat_NoRest ?su_NoBeat_NoRow ?su_NoBeat_NoText ?su_NoBeat_TooMany ?su_NoBeat_NoComer ?su_NoBeat_WaitError          ?sv_NoBeat
    (case a0 => k_is); (case l0 => k_is); (case c0 => k_is); (case k0 => k_is)
    (case a1 => k_is); (case l1 => k_is); (case c1 => k_is); (case k1 => k_is)
    (case a2 => k_is); (case l2 => k_is); (case c2 => k_is); (case k2 => k_is)
    (case a3 => k_is); (case l3 => k_is); (case c3 => k_is); (case k3 => k_is)
    (case a4 => k_is); (case l4 => k_is); (case c4 => k_is); (case k4 => k_is)
    (case a5 => k_is); (case l5 => k_is); (case c5 => k_is); (case k5 => k_is)
    (case a6 => k_is); (case l6 => k_is); (case c6 => k_is); (case k6 => k_is)
    (case a7 => k_is); (case l7 => k_is); (case c7 => k_is); (case k7 => k_is)
    (case a8 => k_is); (case l8 => k_is); (case c8 => k_is); (case k8 => k_is)
    (case a9 => k_is); (case l9 => k_is); (case c9 => k_is); (case k9 => k_is)
    (case a10 => k_is); (case l10 => k_is); (case c10 => k_is); (case k10 => k_is)
    (case a11 => k_is); (case l11 => k_is); (case c11 => k_is); (case k11 => k_is)
    (case a12 => k_is); (case l12 => k_is); (case c12 => k_is); (case k12 => k_is)
    (case a13 => k_is); (case l13 => k_is); (case c13 => k_is); (case k13 => k_is)
    (case a14 => k_is); (case l14 => k_is); (case c14 => k_is); (case k14 => k_is)
    (case a15 => k_is); (case l15 => k_is); (case c15 => k_is); (case k15 => k_is)
    (case a16 => k_is); (case l16 => k_is); (case c16 => k_is); (case k16 => k_is)
    (case z_enumerate => k_is)
    (case z_len => k_is)
    (case z_tuple => k_is)
    (case z_sum => k_is)
    (case z_list => k_is)
    (case z_range => k_is)
    (case z_isinstance => k_is)
    (case z_ValueError => k_is)
    (case z_min => k_is)
    (case z_int => k_is)
    (case z_repr => k_is)
    (case aC_NoComer => k_is)
    (case aC_NoBeat => k_is)
    (case aC_WaitError => k_is)
    (case aC_NoHouse => k_is)
    (case aC_NoPaper => k_is)
    (case aC_NoRest => k_is)
    (case aC_NoRow => k_is)
    (case aC_NoText => k_is)
    (case aC_TooMany => k_is)
    (case ic_NoHouse => k_is); (case tc_NoHouse => k_is); (case bc_NoHouse => k_is)
    (case ic_NoPaper => k_is); (case tc_NoPaper => k_is); (case bc_NoPaper => k_is)
    (case ic_NoRest => k_is); (case tc_NoRest => k_is); (case bc_NoRest => k_is)
    (case ic_NoRow => k_is); (case tc_NoRow => k_is); (case bc_NoRow => k_is)
    (case ic_NoText => k_is); (case tc_NoText => k_is); (case bc_NoText => k_is)
    (case ic_TooMany => k_is); (case tc_TooMany => k_is); (case bc_TooMany => k_is)
    (case ic_NoBeat => k_is); (case tc_NoBeat => k_is); (case bc_NoBeat => k_is)
    (case ic_NoComer => k_is); (case tc_NoComer => k_is); (case bc_NoComer => k_is)
    (case ic_WaitError => k_is); (case tc_WaitError => k_is); (case bc_WaitError => k_is)
    (case rr_WaitError => k_is); (case rg_WaitError => k_is); (case ra_WaitError => k_is)
    (case ix_NoComer => k_is); (case tx_NoComer => k_is); (case lx_NoComer => k_is); (case cx_NoComer => k_is); (case kx_NoComer => k_is); (case ox_NoComer => k_is); (case or_NoComer => first | k_is | decide +kernel); (case sa_NoComer => k_is); (case ex_NoComer => k_is); (case ty_NoComer => k_is); (case kc_NoComer => k_is); (case hd_NoComer => k_is); (case hg_NoComer => k_is); (case hk_NoComer => k_is); (case ha_NoComer => k_is); (case hn_NoComer => k_is); (case ht_NoComer => k_is); (case hm_NoComer => k_is); (case nnumber_NoComer => k_is)
    (case su_NoComer_NoComer => k_is)
    (case su_NoComer_NoHouse => k_is)
    (case su_NoComer_NoPaper => k_is)
    (case su_NoComer_NoRest => k_is)
    (case su_NoComer_NoRow => k_is)
    (case su_NoComer_NoText => k_is)
    (case su_NoComer_TooMany => k_is)
    (case su_NoComer_NoBeat => k_is)
    (case su_NoComer_WaitError => k_is)
    (case sv_NoComer => k_is)
    (case ix_NoBeat => k_is); (case tx_NoBeat => k_is); (case lx_NoBeat => k_is); (case cx_NoBeat => k_is); (case kx_NoBeat => k_is); (case ox_NoBeat => k_is); (case or_NoBeat => first | k_is | decide +kernel); (case sa_NoBeat => k_is); (case ex_NoBeat => k_is); (case ty_NoBeat => k_is); (case kc_NoBeat => k_is); (case hd_NoBeat => k_is); (case hg_NoBeat => k_is); (case hk_NoBeat => k_is); (case ha_NoBeat => k_is); (case hn_NoBeat => k_is); (case ht_NoBeat => k_is); (case hm_NoBeat => k_is)
    (case su_NoBeat_NoBeat => k_is)
    (case su_NoBeat_NoHouse => k_is)
    (case su_NoBeat_NoPaper => k_is)
    (case su_NoBeat_NoRest => k_is)
    (case su_NoBeat_NoRow => k_is)
    (case su_NoBeat_NoText => k_is)
    (case su_NoBeat_TooMany => k_is)
    (case su_NoBeat_NoComer => k_is)
    (case su_NoBeat_WaitError => k_is)
    (case sv_NoBeat => k_is)
#print axioms PySem.Challenge.cw_hatchwaits_k26_ways_changed_holds
