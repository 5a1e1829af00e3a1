import PyProof.Rows.All
import Wide.All
import OpenK.AllK
import Wide.FinOn
import HandS.ForMost
import HandS.TupAny
import HandS.Flow
import HandS.Style
import KE.SortData
import PySem.Challenge.RW_hatchwaits_k11_who_is_picked
set_option Elab.async false
set_option linter.all false
set_option maxRecDepth 100000
set_option maxHeartbeats 8000000
/-! Calls made where nothing is being shown (no repr under way): the promise of a def that may show what it holds. -/
namespace Hw
open PySem PySem.Spec PyProof.Rows L2

/-- a def's promise where no repr is under way -/
structure FnG (P : Program) (w : World) (K : PySem.W.Frag) (mg : Str → Option Value) (base : Heap) (CX : CXT) (k : Nat) (f : Addr) (fd : FuncData) (ps : List Str) (sp : Sp) : Prop where
  sized : ∀ vs H Q E, sp vs H Q E → vs.length = ps.length
  goes : ∀ (A : Around) (out : List Env) (s : Shared) (H : Hp) (ar : Args) (us : List Value) (vs : List V) (Q : VK) (E : XK),
    A.guards = some [] → Room k A → Env0 P w K mg base A out s H → BindsTo s fd ar (ps.zip us) → Vals vs us → sp vs H Q E →
    codeAny (model P w) A (.call (.ref f) ar) (CR CX out P w H s Q E) s

section
variable {P : Program} {w : World} {K : PySem.W.Frag} {mg : Str → Option Value} {base : Heap} {CX : CXT} {k j : Nat}
  {f : Addr} {fd : FuncData} {ps : List Str} {sp : Sp}
theorem FnG.of (F : FnOk P w K mg base CX k f fd ps sp) : FnG P w K mg base CX k f fd ps sp :=
  ⟨F.len, fun A out s H ar us vs Q E _ hr e b r q => F.run A out s H ar us vs Q E hr e b r q⟩
theorem FnG.mono (F : FnG P w K mg base CX j f fd ps sp) (h : j ≤ k) : FnG P w K mg base CX k f fd ps sp :=
  ⟨F.sized, fun A out s H ar us vs Q E hg hr => F.goes A out s H ar us vs Q E hg (hr.mono h)⟩

/-- a def of the text by its body, where no repr is under way -/
theorem okG {x qual : Str} {st : Stmt} {N : List Str} (F : Fun K x qual st f fd) (S : FnScope N ps (defScope st))
    (sized : ∀ vs H Q E, sp vs H Q E → vs.length = ps.length)
    (body : ∀ (cdv : Value) (A : Around) (out : List Env) (s : Shared) (H : Hp) (vs : List V) (Q : VK) (E : XK),
      A.guards = some [] → Room k (A.deeper (envOfC qual (defScope st) s.heap.objs.size f cdv)) → sp vs H Q E →
      ∃ t, PSs (cxOf CX P w K mg base N qual (defScope st) f cdv A out s H E) (defBody st) t ∧
        t { nx := fun _ H' => Q .non H', rt := Q } (start N vs) H) : FnG P w K mg base CX (k + 1) f fd ps sp := by
  obtain ⟨oc, od, kV, doc, pm, an, cdv, ct, osl, rfl, lk, hcd⟩ := F.ex
  refine ⟨sized, ?_⟩
  intro A out s H ar us vs Q E hgd hr e0 hb hv hs
  have sz := sized _ _ _ _ hs
  have inK : K.In s.heap := e0.mod.kin.keeps (fun b o e => (e0.bs b o e).1)
  have nol : s.heap.NoLimit := e0.mod.nolimit.keeps (fun b o e => (e0.bs b o e).1)
  apply codeAny_call_function hr.depth (inK _ _ lk) rfl S.co S.gen rfl (PySem.W.codeRec_of inK hcd)
  apply hb
  apply wpAny_newFunctionEnv_cells S.kind
  · rintro ⟨n, v⟩ hy
    cases S.par n (List.of_mem_zip hy).1 with
    | inl q => exact Or.inl q
    | inr q => exact Or.inr ⟨q, PySem.W.cellsFrom_some _ _ _ (Or.inl q)⟩
  · intro env he s1 ic
    subst he
    refine And.intro (nol.keeps ic.toInCall.keep) (codeAny_func ?_)
    obtain ⟨t, ht, hq⟩ := body cdv A out s H vs Q E hgd (hr.deeper _) hs
    have I := inv_start (CX := CX) (E := E) S hr.hd e0 sz hv ic
    have done : ∀ {σ' : L2.St} {H' : Hp} {v : V} {u : Value}, Inv (cxOf CX P w K mg base N qual (defScope st) f cdv A out s H E) [] σ' H' s1 → True := fun _ => trivial
    refine wpAny_mono (ht.run [] s1 (start N vs) H _ I hq) ?_ (fun e s' z => z)
    intro fl s' z
    cases fl with
    | ret u =>
      obtain ⟨v, σ', H', J, rv, q⟩ := z
      exact ⟨v, H', J.os, J.bare, J.base, J.hok, rv, q⟩
    | next =>
      obtain ⟨σ', H', J, q⟩ := z
      exact ⟨V.non, H', J.os, J.bare, J.base, J.hok, rfl, q⟩
    | brk =>
      obtain ⟨_, _, _, q⟩ := z
      exact q.elim
    | cont =>
      obtain ⟨_, _, _, q⟩ := z
      exact q.elim

/-- the same for a def that no error leaves -/
theorem okG0 {x qual : Str} {st : Stmt} {N : List Str} (F : Fun K x qual st f fd) (S : FnScope N ps (defScope st))
    (sized : ∀ vs H Q E, sp vs H Q E → vs.length = ps.length)
    (body : ∀ (cdv : Value) (A : Around) (out : List Env) (s : Shared) (H : Hp) (vs : List V) (Q : VK) (E : XK),
      A.guards = some [] → Room k (A.deeper (envOfC qual (defScope st) s.heap.objs.size f cdv)) → sp vs H Q E →
      ∃ t, PSs (cxOf CX0 P w K mg base N qual (defScope st) f cdv A out s H E).nox (defBody st) t ∧
        t { nx := fun _ H' => Q .non H', rt := Q } (start N vs) H) : FnG P w K mg base CX0 (k + 1) f fd ps sp :=
  okG F S sized fun cdv A out s H vs Q E hgd hr hs => by
    obtain ⟨t, h, q⟩ := body cdv A out s H vs Q E hgd hr hs
    exact ⟨t, h.nox, q⟩

variable {X : Cx} {dvs : List V} {ds : List Value} {E : XK} {x : Str} {p pos : Pos} {e : Expr} {es : List Expr} {t : TA}
theorem runG {pins : List (Addr × Obj)} {σ : L2.St} {H : Hp} {s : Shared} {Q : VK} {us : List Value} {vs : List V}
    (F : FnG X.prog X.w X.K X.mg X.base CX k f fd ps sp) (hgd : X.A.guards = some []) (hr : Room k X.A) (hb : Binds X.K fd ps ds) (hd : Vals dvs ds)
    (hx : Passes CX X E) (I : Inv X pins σ H s) (r : Vals vs us) (h : sp (vs ++ dvs) H Q E) :
    wpAny (model X.prog X.w) X.A (call (.ref f) us) (EP X pins σ Q) X.xe s := by
  have rr := r.append hd
  have sz : (us ++ ds).length = ps.length := rr.length.symm.trans (F.sized _ _ _ _ h)
  have go := F.goes X.A X.stack s H ⟨us, []⟩ (us ++ ds) (vs ++ dvs) Q E hgd hr I.env0 (hb s us I.kIn sz) rr h
  refine wpAny_call (codeAny_mono go ?_)
  intro z s' hz
  match z, hz with
  | .error e, hz => exact hx pins σ H s e s' I hz
  | .ok (.ret u), hz => exact I.after hz
/-- f(e, ..) -/
theorem pe_callG (F : FnG X.prog X.w X.K X.mg X.base CX k f fd ps sp) (hgd : X.A.guards = some []) (hr : Room k X.A) (hg : Gl X x) (hm : X.mg x = some (.ref f))
    (hk : PySem.W.keepIn X.K (.ref f) = true) (hb : Binds X.K fd ps ds) (hd : Vals dvs ds) (hx : Passes CX X E)
    (ha : PA X (e :: es) t) (hdb : (x == ("__debug__" : Str)) = false := by decide)
    (he : starEach (e :: es) X.env = (false, eval e X.env) :: starEach es X.env := by rfl) (hpl : (backTo pos (starEach es X.env)).any (·.1) = false := by rfl) :
    PE X (.Call (.Name x p) (e :: es) [] pos) (tCall sp dvs E t) := by
  constructor
  intro pins s σ H Q I h
  apply wpAny_Call_Name_kw
  refine ld_glob I hg hm ?_ hdb
  apply PySem.W.callWith_K (h₀ := X.base) I.ok.mod.kin hk _ he hpl
  refine thn (ha.run pos pins s σ H _ I h) ?_
  rintro us s1 ⟨vs, H1, I1, r, q⟩
  exact ⟨I1.kIn, runG F hgd hr hb hd hx I1 r q⟩
theorem pe_call0G (F : FnG X.prog X.w X.K X.mg X.base CX k f fd ps sp) (hgd : X.A.guards = some []) (hr : Room k X.A) (hg : Gl X x) (hm : X.mg x = some (.ref f))
    (hk : PySem.W.keepIn X.K (.ref f) = true) (hb : Binds X.K fd ps ds) (hd : Vals dvs ds) (hx : Passes CX X E)
    (hdb : (x == ("__debug__" : Str)) = false := by decide) : PE X (.Call (.Name x p) [] [] pos) (tCall sp dvs E tNil) := by
  constructor
  intro pins s σ H Q I h
  apply wpAny_Call_Name_kw
  refine ld_glob I hg hm ?_ hdb
  exact PySem.W.callWith_K0 I.kIn hk (runG (us := []) F hgd hr hb hd hx I .nil h)

/-- repr(x) of data: what it shows -/
def rRepr (K : PySem.W.Frag) : List V → Hp → VK → Prop := fun xs H Q =>
  ∃ v d, xs = [v] ∧ Dp K H v d ∧ d.showable = true ∧ d.hasDict = false ∧ d.depth ≤ 100 ∧ d.shown.length ≤ sizeLine ∧ Q (.str d.shown) H

theorem call_repr (hgd : X.A.guards = some []) (hu : X.A.units + 160 < cLine) : CallR X (.builtin "repr") (rRepr X.K) := by
  intro pins s σ H xs us Q I r h
  obtain ⟨v, d, rfl, hd, hs, hn, hdp, hz, q⟩ := h
  cases r with
  | cons r1 r2 =>
    cases r2
    have fin : ∀ {h' : Heap} {tk : Tok} (u : Tok), (∀ b o, s.heap.get? b = some o → h'.get? b = some o) →
        EP X pins σ Q (.str d.shown u) { s with heap := h', toks := tk } := fun u hk => ⟨.str d.shown, H, I.kept hk, ⟨u, rfl⟩, q⟩
    cases hd with
    | non =>
      cases r1
      exact PySem.P.repr_of_none (fin _ fun _ _ z => z)
    | bl b =>
      cases r1
      exact PySem.P.repr_of_bool (fin _ fun _ _ z => z)
    | int i =>
      obtain ⟨u, rfl⟩ := r1
      exact PySem.P.repr_of_int (of_decide_eq_true hs) (fin _ fun _ _ z => z)
    | str x =>
      obtain ⟨u, rfl⟩ := r1
      exact PySem.P.repr_of_str (fin _ fun _ _ z => z) hz
    | lst h1 h2 =>
      cases r1
      obtain ⟨as, rd⟩ := Dp.reads I _ _ _ (Dp.lst h1 h2) rfl
      exact repr_of_reads' rd hs (fun z => by rw [hn] at z; cases z) hgd (by omega) (fun _ _ z => z) (fun h' u tk hk => fin u hk) hz
    | tup h1 h2 =>
      cases r1
      obtain ⟨as, rd⟩ := Dp.reads I _ _ _ (Dp.tup h1 h2) rfl
      exact repr_of_reads' rd hs (fun z => by rw [hn] at z; cases z) hgd (by omega) (fun _ _ z => z) (fun h' u tk hk => fin u hk) hz
end

/-! ### the law's call -/
section
variable {P : Program} {w : World} {K : PySem.W.Frag} {mg mb : Str → Option Value} {k : Nat} {fa a : Addr} {fd : FuncData} {x : Str} {sp : Sp}
  {s₁ : Shared} {vs : List Value} {ns : List Int}
/-- what the law's call ends in -/
def LawEnd (s₁ : Shared) : Result → Shared → Prop := fun r s' => r = .ok (.ret (.bool true)) ∧ OldK s₁.heap s'.heap ∧ s'.os = s₁.os ∧ AllBare s'.gens
theorem lawGoes {H : Hp} (inK : K.In s₁.heap) (gl : s₁.heap.Ns mainGlobals mg) (bl : s₁.heap.Ns builtinsNs mb)
    (bb : ∀ y : Str, y ≠ "__name__" → mb y = bootBuiltins y) (nol : s₁.heap.NoLimit) (gn : s₁.gens = #[])
    (ha : s₁.heap.get? a = some { cls := .type "list", data := .seq vs.toArray })
    (ok : HOk P w H s₁.heap)
    (what : ∀ b u, H b = some u → b = a ∧ K.lookup a = none ∧ u = .frz { cls := .type "list", data := .seq vs.toArray } (.lst (ns.map V.int)))
    (hr : Room k callerA) (F : ∀ base : Heap, K.In base → base.Ns mainGlobals mg → FnG P w K mg base CX0 k fa fd [x] sp)
    (hb : ∀ (s : Shared) (u : Value), BindsTo s fd ⟨[u], []⟩ [(x, u)])
    (hsp : sp [.ref a] H (fun v _ => v = .bl true) fun _ _ _ => False) :
    codeAny (model P w) callerA (.call (.ref fa) ⟨[.ref a], []⟩) (LawEnd s₁) s₁ := by
  have off : ∀ {b : Addr} {o : Obj}, s₁.heap.get? b = some o → (b = a → K.lookup a = none → o = { cls := .type "list", data := .seq vs.toArray } → False) → H b = none := by
    intro b o e no
    cases q : H b with
    | none => rfl
    | some u =>
      obtain ⟨e1, e2, e3⟩ := what b u q
      rw [e1, ha] at e
      exact (no e1 e2 (Option.some.inj e).symm).elim
  have nsB : ∀ {b : Addr} {m : Str → Option Value}, s₁.heap.Ns b m → (hidT s₁.heap H).Ns b m := by
    rintro b m ⟨o, es, ep, e, d, r⟩
    exact ⟨o, es, ep, hidT_get e (off e fun _ _ z => by rw [z] at d; cases d), d, r⟩
  have inB : K.In (hidT s₁.heap H) := by
    intro b o e
    exact hidT_get (inK b o e) (off (inK b o e) fun z n _ => by rw [← z, e] at n; cases n)
  have lim : (hidT s₁.heap H).NoLimit := by
    obtain ⟨mc, h1, h2⟩ := nol
    exact ⟨mc, nsB h1, h2⟩
  have M : Mod K mg (hidT s₁.heap H) := ⟨inB, nsB gl, ⟨mb, nsB bl, bb⟩, lim⟩
  have e0 : Env0 P w K mg (hidT s₁.heap H) callerA [] s₁ H :=
    ⟨rfl, M, fun b o e => of_hidT e, Nat.le_of_eq (hidT_size s₁.heap H), trivial, fun b z => (by cases z), ok, .of_eq gn⟩
  have go := (F _ inB (nsB gl)).goes callerA [] s₁ H ⟨[.ref a], []⟩ [.ref a] [.ref a] _ _ rfl hr e0 (hb s₁ (.ref a)) (.cons rfl .nil) hsp
  refine codeAny_mono go ?_
  intro r s' z
  match r, z with
  | .error e, z => exact z.elim
  | .ok (.ret u), z =>
    obtain ⟨v, H', os, bare, un, ok', rv, q⟩ := z
    have q : v = .bl true := q
    subst q
    have ru : u = Value.bool true := rv
    subst ru
    refine And.intro rfl (And.intro (OldK.of_keep ?_) (And.intro os bare))
    intro b o e
    cases q : H b with
    | none => exact un.keep b o e q (fun z => by cases z) (fun z => by cases z)
    | some u =>
      obtain ⟨e1, e2, e3⟩ := what b u q
      subst e3
      have g1 := (ok b _ q).1
      have g2 := (ok' b _ (un.frzs b _ _ q)).1
      rw [e] at g1
      rw [g2, g1]
theorem law_callG (inK : K.In s₁.heap) (gl : s₁.heap.Ns mainGlobals mg) (bl : s₁.heap.Ns builtinsNs mb)
    (bb : ∀ y : Str, y ≠ "__name__" → mb y = bootBuiltins y) (nol : s₁.heap.NoLimit) (gn : s₁.gens = #[])
    (ha : s₁.heap.get? a = some { cls := .type "list", data := .seq vs.toArray }) (hi : IntsAre vs ns) (hl : ns.length ≤ sizeLine)
    (hr : Room k callerA) (F : ∀ base : Heap, K.In base → base.Ns mainGlobals mg → FnG P w K mg base CX0 k fa fd [x] sp)
    (hb : ∀ (s : Shared) (u : Value), BindsTo s fd ⟨[u], []⟩ [(x, u)])
    (hsp : ∀ H : Hp, SqL K H a (ns.map V.int) → (∀ b o, H b = some o → b = a) → sp [.ref a] H (fun v _ => v = .bl true) fun _ _ _ => False) :
    codeAny (model P w) callerA (.call (.ref fa) ⟨[.ref a], []⟩) (LawEnd s₁) s₁ := by
  have rv := vals_ints hi
  have len : (ns.map V.int).length ≤ sizeLine := by rw [List.length_map]; exact hl
  cases hk : K.lookup a with
  | some o =>
    have e := inK a o hk
    rw [ha] at e
    obtain rfl := Option.some.inj e
    refine lawGoes (H := fun _ => none) (ns := ns) inK gl bl bb nol gn ha (fun b u z => by cases z) (fun b u z => by cases z) hr F hb (hsp _ ?_ (fun b o z => by cases z))
    exact Or.inr ⟨_, vs.toArray, _, hk, rfl, rfl, rfl, by rw [List.size_toArray, hi.length]; exact hl, by simpa using rv⟩
  | none =>
    have fz : ∀ b u, upd (fun _ => none) a (.frz { cls := .type "list", data := .seq vs.toArray } (.lst (ns.map V.int))) b = some u →
        b = a ∧ u = .frz { cls := .type "list", data := .seq vs.toArray } (.lst (ns.map V.int)) := by
      intro b u z
      by_cases e : b = a
      · subst e
        rw [upd_same] at z
        exact ⟨rfl, (Option.some.inj z).symm⟩
      · rw [upd_ne e] at z
        cases z
    refine lawGoes (H := upd (fun _ => none) a (.frz _ (.lst (ns.map V.int)))) inK gl bl bb nol gn ha ?_ (fun b u z => ⟨(fz b u z).1, hk, (fz b u z).2⟩) hr F hb
      (hsp _ (Or.inl (Or.inr ⟨_, upd_same⟩)) fun b o z => (fz b o z).1)
    intro b u z
    obtain ⟨e1, e2⟩ := fz b u z
    subst e1 e2
    exact ⟨ha, len, vs, _, rv, ha⟩
theorem walkG {l : PySem.W.OpenLaw} {n k : Nat} {q : Program} {loose : List Str} {XP : (Str → Option Value) → Heap → Prop} {YP : World → Heap → Prop} {d : DefRec}
    {K : Params → PySem.W.Frag} {sp : World → Sp} {x : Str} (hn : l.most = some n) (hn2 : n ≤ sizeLine) (hdf : d.params.defaults = []) (hr : Room k callerA)
    (hY : ∀ (w : World) (h : Heap), YP w h → (K w.params).In h)
    (F : ∀ (w : World) (mg : Str → Option Value) (fa : Addr) (h : Heap), (K w.params).In h → h.Ns mainGlobals mg → mg d.name = some (.ref fa) →
      ∃ fd : FuncData, (∀ (s : Shared) (u : Value), BindsTo s fd ⟨[u], []⟩ [(x, u)]) ∧
        ∀ base : Heap, (K w.params).In base → base.Ns mainGlobals mg → FnG l.prog w (K w.params) mg base CX0 k fa fd [x] (sp w))
    (hsp : ∀ (w : World) (H : Hp) (a : Addr) (ns : List Int), ns.length ≤ n → (∀ b o, H b = some o → b = a) → SqL (K w.params) H a (ns.map V.int) →
      sp w [.ref a] H (fun v _ => v = .bl true) fun _ _ _ => False) :
    PySem.W.WalkO q loose XP YP l.row.toRowW d [] (fun f vs => PySem.call f vs) := by
  apply Att.attach_call hn hdf
  intro w s₀ s₁ mg mb fa o pm cd doc a vs ns G Y ho hd hcd hmg hobj hints hlen hg
  obtain ⟨fd, hb, hF⟩ := F w mg fa _ (hY w _ Y) G.T.g hmg
  exact law_callG (hY w _ Y) G.T.g G.T.b G.T.builtins G.T.nolimit hg hobj hints (Nat.le_trans hlen hn2) hr hF hb (fun H hS hO => hsp w H a ns hlen hO hS)
end
end Hw
/-! Data of tuples; what stays; the feed of the laws. -/
namespace Hw
open PySem PySem.Spec PyProof.Rows L2

/-- all but the objects of S stay as they were; tuples and locked things stay in any case -/
structure Kp (S : Addr → Prop) (H H' : Hp) : Prop where
  same : ∀ a o, ¬ S a → H a = some o → H' a = some o
  tups : ∀ a xs, H a = some (.tup xs) → H' a = some (.tup xs)
  frzs : ∀ a o u, H a = some (.frz o u) → H' a = some (.frz o u)
  live : ∀ a, H' a = none → H a = none
abbrev Non : Addr → Prop := fun _ => False
abbrev At (d : Addr) : Addr → Prop := fun b => b = d
section
variable {S T : Addr → Prop} {H H1 H2 : Hp} {p d a : Addr} {o u : HO} {K : PySem.W.Frag} {xs : List V}
theorem Kp.refl : Kp S H H := ⟨fun _ _ _ h => h, fun _ _ h => h, fun _ _ _ h => h, fun _ h => h⟩
theorem Kp.trans (a : Kp S H H1) (b : Kp S H1 H2) : Kp S H H2 :=
  ⟨fun c o n h => b.same c o n (a.same c o n h), fun c xs h => b.tups c xs (a.tups c xs h), fun c o u h => b.frzs c o u (a.frzs c o u h), fun c h => a.live c (b.live c h)⟩
theorem Kp.wide (a : Kp S H H1) (h : ∀ b, S b → T b) : Kp T H H1 := ⟨fun c o n e => a.same c o (fun z => n (h c z)) e, a.tups, a.frzs, a.live⟩
theorem Kp.of (h : Same H H1) : Kp S H H1 := ⟨fun a o _ e => h a o e, fun a xs e => h a _ e, fun a o u e => h a _ e, fun a e => h.free e⟩
theorem Kp.non (h : Kp Non H H1) : Kp S H H1 := h.wide fun _ z => z.elim
theorem Kp.toSame (h : Kp Non H H1) : Same H H1 := fun a o e => h.same a o (fun z => z) e
theorem Kp.new (h : H p = none) : Kp S H (upd H p o) := Kp.of fun b x e => by
  rw [upd_ne (ne_of_none e h)]
  exact e
/-- a changed object that is neither a tuple nor locked -/
theorem Kp.put (h : H p = some u) (n1 : ∀ xs, u ≠ .tup xs) (n2 : ∀ o v, u ≠ .frz o v) : Kp (At p) H (upd H p o) := by
  refine ⟨fun a x n e => ?_, fun a xs e => ?_, fun a x y e => ?_, fun a e => ?_⟩
  · rw [upd_ne n]; exact e
  · rw [upd_ne (ne_of e h (n1 xs).symm)]; exact e
  · rw [upd_ne (ne_of e h (n2 x y).symm)]; exact e
  · by_cases z : a = p
    · rw [z, upd_same] at e; cases e
    · rw [upd_ne z] at e; exact e
theorem Kp.putL (h : H p = some (.lst xs)) : Kp (At p) H (upd H p o) := Kp.put h (fun _ z => by cases z) (fun _ _ z => by cases z)
/-- what is new to H may be forgotten -/
theorem Kp.drop (h : Kp (fun b => b = p ∨ S b) H H1) (n : H p = none) : Kp S H H1 :=
  ⟨fun a o z e => h.same a o (fun q => q.elim (fun q => by rw [q, n] at e; cases e) z) e, h.tups, h.frzs, h.live⟩
theorem Kp.rdT (h : Kp S H H1) (e : Rd H a (.tup xs)) : Rd H1 a (.tup xs) := by
  rcases e with e | ⟨o, e⟩
  · exact .inl (h.tups _ _ e)
  · exact .inr ⟨o, h.frzs _ _ _ e⟩
theorem Kp.sqT (h : Kp S H H1) (e : SqT K H a xs) : SqT K H1 a xs := by
  rcases e with e | e
  · exact .inl (h.rdT e)
  · exact .inr e
theorem Kp.lst (h : Kp S H H1) (n : ¬ S a) (e : H a = some (.lst xs)) : H1 a = some (.lst xs) := h.same _ _ n e
theorem Kp.sqL (h : Kp S H H1) (n : ¬ S a) (e : SqL K H a xs) : SqL K H1 a xs := by
  rcases e with (e | ⟨o, e⟩) | e
  · exact .inl (.inl (h.same _ _ n e))
  · exact .inl (.inr ⟨o, h.frzs _ _ _ e⟩)
  · exact .inr e
end

/-! ### data of tuples: whatever is done, it stays -/
mutual
/-- v reads as d, all tuples -/
inductive TD (K : PySem.W.Frag) (H : Hp) : V → PyData → Prop
  | non : TD K H .non .none
  | bl (b : Bool) : TD K H (.bl b) (.bool b)
  | int (i : Int) : TD K H (.int i) (.int i)
  | str (x : Str) : TD K H (.str x) (.str x)
  | tup {a : Addr} {xs : List V} {ds : List PyData} : SqT K H a xs → TDs K H xs ds → TD K H (.ref a) (.tuple ds)
inductive TDs (K : PySem.W.Frag) (H : Hp) : List V → List PyData → Prop
  | nil : TDs K H [] []
  | cons {v : V} {vs : List V} {d : PyData} {ds : List PyData} : TD K H v d → TDs K H vs ds → TDs K H (v :: vs) (d :: ds)
end
section
variable {K : PySem.W.Frag} {H H' : Hp} {S : Addr → Prop}
mutual
theorem TD.kp (k : Kp S H H') : ∀ {v : V} {d : PyData}, TD K H v d → TD K H' v d
  | _, _, .non => .non
  | _, _, .bl b => .bl b
  | _, _, .int i => .int i
  | _, _, .str x => .str x
  | _, _, .tup h r => .tup (k.sqT h) (TDs.kp k r)
theorem TDs.kp (k : Kp S H H') : ∀ {vs : List V} {ds : List PyData}, TDs K H vs ds → TDs K H' vs ds
  | _, _, .nil => .nil
  | _, _, .cons h r => .cons (TD.kp k h) (TDs.kp k r)
end
mutual
theorem TD.dp : ∀ {v : V} {d : PyData}, TD K H v d → Dp K H v d
  | _, _, .non => .non
  | _, _, .bl b => .bl b
  | _, _, .int i => .int i
  | _, _, .str x => .str x
  | _, _, .tup h r => .tup h (TDs.dp r)
theorem TDs.dp : ∀ {vs : List V} {ds : List PyData}, TDs K H vs ds → DpAll K H vs ds
  | _, _, .nil => .nil
  | _, _, .cons h r => .cons (TD.dp h) (TDs.dp r)
end
theorem TDs.length : ∀ {vs : List V} {ds : List PyData}, TDs K H vs ds → vs.length = ds.length
  | _, _, .nil => rfl
  | _, _, .cons _ r => congrArg (· + 1) (TDs.length r)
theorem TDs.get : ∀ {vs : List V} {ds : List PyData} {i : Nat} {v : V}, TDs K H vs ds → vs[i]? = some v → ∃ d, ds[i]? = some d ∧ TD K H v d
  | _, _, _, _, .nil, e => by simp at e
  | _, _, 0, _, .cons h _, e => by simp at e; subst e; exact ⟨_, rfl, h⟩
  | _, _, i + 1, v, .cons _ r, e => by
    obtain ⟨d, h1, h2⟩ := TDs.get (i := i) r (by simpa using e)
    exact ⟨d, by simpa using h1, h2⟩
theorem TDs.at : ∀ {vs : List V} {ds : List PyData} {i : Nat} {d : PyData}, TDs K H vs ds → ds[i]? = some d → ∃ v, vs[i]? = some v ∧ TD K H v d
  | _, _, _, _, .nil, e => by simp at e
  | _, _, 0, _, .cons h _, e => by simp at e; subst e; exact ⟨_, rfl, h⟩
  | _, _, i + 1, d, .cons _ r, e => by
    obtain ⟨v, h1, h2⟩ := TDs.at (i := i) r (by simpa using e)
    exact ⟨v, by simpa using h1, h2⟩
theorem TDs.append : ∀ {vs ws : List V} {ds es : List PyData}, TDs K H vs ds → TDs K H ws es → TDs K H (vs ++ ws) (ds ++ es)
  | _, _, _, _, .nil, r => r
  | _, _, _, _, .cons h q, r => .cons h (TDs.append q r)
theorem TDs.drop : ∀ {vs : List V} {ds : List PyData} (n : Nat), TDs K H vs ds → TDs K H (vs.drop n) (ds.drop n)
  | _, _, 0, r => r
  | _, _, _ + 1, .nil => .nil
  | _, _, n + 1, .cons _ r => TDs.drop n r
theorem TDs.take : ∀ {vs : List V} {ds : List PyData} (n : Nat), TDs K H vs ds → TDs K H (vs.take n) (ds.take n)
  | _, _, 0, _ => .nil
  | _, _, _ + 1, .nil => .nil
  | _, _, n + 1, .cons h r => .cons h (TDs.take n r)
theorem TDs.reverse : ∀ {vs : List V} {ds : List PyData}, TDs K H vs ds → TDs K H vs.reverse ds.reverse
  | _, _, .nil => .nil
  | _, _, .cons h r => by
    rw [List.reverse_cons, List.reverse_cons]
    exact TDs.append (TDs.reverse r) (.cons h .nil)
theorem TD.ref {v : V} {ds : List PyData} (h : TD K H v (.tuple ds)) : ∃ a xs, v = .ref a ∧ SqT K H a xs ∧ TDs K H xs ds := by
  cases h with
  | tup h r => exact ⟨_, _, rfl, h, r⟩
theorem TD.toInt {v : V} {i : Int} (h : TD K H v (.int i)) : v = .int i := by cases h; rfl
theorem TD.toStr {v : V} {i : Str} (h : TD K H v (.str i)) : v = .str i := by cases h; rfl
theorem TD.toBl {v : V} {i : Bool} (h : TD K H v (.bool i)) : v = .bl i := by cases h; rfl
theorem TD.toNon {v : V} (h : TD K H v .none) : v = .non := by cases h; rfl
end

/-! ### the feed -/
def kCells : Key := Sum.inr "cells"
def kAt : Key := Sum.inr "at"
def kLeft : Key := Sum.inr "left"
def kTurn : Key := Sum.inr "turn"
def feedKvs (c : Addr) (p l t : Int) : List (Key × V) := [(kCells, .ref c), (kAt, .int p), (kLeft, .int l), (kTurn, .int t)]
theorem valV_ne {κ : Type} [DecidableEq κ] {p : κ × V} {r : List (κ × V)} {k : κ} (e : p.1 ≠ k) : valV (p :: r) k = valV r k := by simp [valV, List.find?_cons, e]
theorem k1 : kCells ≠ kAt := by decide +kernel
theorem k2 : kCells ≠ kLeft := by decide +kernel
theorem k3 : kCells ≠ kTurn := by decide +kernel
theorem k4 : kAt ≠ kLeft := by decide +kernel
theorem k5 : kAt ≠ kTurn := by decide +kernel
theorem k6 : kLeft ≠ kTurn := by decide +kernel
section
variable {c : Addr} {p l t z : Int}
theorem fk_cells : valV (feedKvs c p l t) kCells = some (.ref c) := valV_pos rfl
theorem fk_at : valV (feedKvs c p l t) kAt = some (.int p) := (valV_ne k1).trans (valV_pos rfl)
theorem fk_left : valV (feedKvs c p l t) kLeft = some (.int l) := (valV_ne k2).trans ((valV_ne k4).trans (valV_pos rfl))
theorem fk_turn : valV (feedKvs c p l t) kTurn = some (.int t) := (valV_ne k3).trans ((valV_ne k5).trans ((valV_ne k6).trans (valV_pos rfl)))
theorem fp_at : putK (feedKvs c p l t) kAt (.int z) = feedKvs c z l t := by
  simp [putK, feedKvs, k1, k1.symm, k2, k3, k4, k4.symm, k5, k5.symm, k6]
theorem fp_left : putK (feedKvs c p l t) kLeft (.int z) = feedKvs c p z t := by
  simp [putK, feedKvs, k2, k2.symm, k4, k4.symm, k6, k6.symm]
theorem fp_turn : putK (feedKvs c p l t) kTurn (.int z) = feedKvs c p l z := by
  simp [putK, feedKvs, k3, k3.symm, k5, k5.symm, k6, k6.symm]
end
end Hw

/-! ### steps of a reading -/
namespace Hw
open PySem PySem.Spec PyProof.Rows L2
section
variable {σ : L2.St} {H : Hp} {D : Ends} {Q : VK} {QB : Bool → Hp → Prop} {QA : List V → Hp → Prop} {t u : TS} {te ta tb tc : TE} {tt tu : TT} {tr : TA} {g : TG}
theorem sSeq (h : t { D with nx := u D } σ H) : tSeq t u D σ H := h
theorem sNext (h : D.nx σ H) : tNext D σ H := h
theorem sAsg (h : te σ H fun x H1 => g x σ H1 D.nx) : tAsg te g D σ H := h
theorem sRet (h : te σ H D.rt) : tRet te D σ H := h
theorem sRetN (h : D.rt .non H) : tRetN D σ H := h
theorem sDrop (h : te σ H fun _ H1 => D.nx σ H1) : tDrop te D σ H := h
theorem sIfS (h : tt σ H fun b H1 => if b = true then t D σ H1 else u D σ H1) : tIfS tt t u D σ H := h
theorem sBreak (h : D.bk σ H) : tBreak D σ H := h
theorem sCont (h : D.ct σ H) : tCont D σ H := h
theorem sVar {i : Nat} {v : V} (e : σ[i]? = some (some v)) (h : Q v H) : tVar i σ H Q := ⟨v, e, h⟩
theorem sC {v : V} (h : Q v H) : tC v σ H Q := h
theorem sOp {r : R2} (h : ta σ H fun x H1 => tb σ H1 fun y H2 => r x y H2 Q) : tOp r ta tb σ H Q := h
theorem sUn {r : V → Hp → VK → Prop} (h : ta σ H fun x H1 => r x H1 Q) : tUn r ta σ H Q := h
theorem sU {g : Int → V} {i : Int} (h : Q (g i) H) : rU g (.int i) H Q := ⟨i, rfl, h⟩
theorem sI0 {g : Int → Int → V} {i j : Int} (h : Q (g i j) H) : rI0 g (.int i) (.int j) H Q := ⟨i, j, rfl, rfl, h⟩
theorem sI {C : Int → Int → Prop} {g : Int → Int → V} {i j : Int} (c : C i j) (h : Q (g i j) H) : rI C g (.int i) (.int j) H Q := ⟨i, j, rfl, rfl, c, h⟩
theorem sEqI {i j : Int} (h : Q (.bl (decide (i = j))) H) : rEq (.int i) (.int j) H Q := ⟨rfl, by rwa [show decide (V.int i = V.int j) = decide (i = j) from by simp]⟩
theorem sNeI {i j : Int} (h : Q (.bl (!decide (i = j))) H) : rNe (.int i) (.int j) H Q := ⟨rfl, by rwa [show decide (V.int i = V.int j) = decide (i = j) from by simp]⟩
theorem sEqS {i j : Str} (h : Q (.bl (decide (i = j))) H) : rEq (.str i) (.str j) H Q := ⟨rfl, by rwa [show decide (V.str i = V.str j) = decide (i = j) from by simp]⟩
theorem sNeS {i j : Str} (h : Q (.bl (!decide (i = j))) H) : rNe (.str i) (.str j) H Q := ⟨rfl, by rwa [show decide (V.str i = V.str j) = decide (i = j) from by simp]⟩
theorem sCB {r : List V → Hp → VK → Prop} (h : tr σ H fun vs H1 => r vs H1 Q) : tCB r tr σ H Q := h
theorem sCons (h : ta σ H fun x H1 => tr σ H1 fun xs H2 => QA (x :: xs) H2) : tCons ta tr σ H QA := h
theorem sNil (h : QA [] H) : tNil σ H QA := h
theorem sTest (h : te σ H fun x H1 => ∃ k, x = .bl k ∧ QB k H1) : tTest te σ H QB := h
theorem sB (h : te σ H fun x H1 => ∃ k, x = .bl k ∧ QB k H1) : tB te σ H QB := h
theorem sBl {b : Bool} {P : Bool → Prop} (h : P b) : ∃ k, V.bl b = V.bl k ∧ P k := ⟨b, rfl, h⟩
theorem sAnd (h : tt σ H fun c H1 => if c = true then tu σ H1 QB else QB false H1) : tAnd tt tu σ H QB := h
theorem sOr (h : tt σ H fun c H1 => if c = true then QB true H1 else tu σ H1 QB) : tOr tt tu σ H QB := h
theorem sNot (h : tt σ H fun c H1 => QB (!c) H1) : tNot tt σ H QB := h
theorem sAndV (h : ta σ H fun x H1 => ∃ c, x = .bl c ∧ if c = true then tb σ H1 Q else Q (.bl false) H1) : tAndV ta tb σ H Q := h
theorem sOrV (h : ta σ H fun x H1 => ∃ c, x = .bl c ∧ if c = true then Q (.bl true) H1 else tb σ H1 Q) : tOrV ta tb σ H Q := h
theorem sNotV (h : ta σ H fun x H1 => ∃ c, x = .bl c ∧ Q (.bl (!c)) H1) : tNotV ta σ H Q := h
theorem sIf (h : tt σ H fun c H1 => if c = true then ta σ H1 Q else tb σ H1 Q) : tIf tt ta tb σ H Q := h
theorem sName {i : Nat} {v : V} {Q : L2.St → Hp → Prop} (h : Q (σ.set i (some v)) H) : gName i v σ H Q := h
theorem sTup (h : tr σ H fun xs H1 => xs.length ≤ sizeLine ∧ ∀ p, H1 p = none → Q (.ref p) (upd H1 p (.tup xs))) : tTup tr σ H Q := h
theorem sLst (h : tr σ H fun xs H1 => xs.length ≤ sizeLine ∧ ∀ p, H1 p = none → Q (.ref p) (upd H1 p (.lst xs))) : tLst tr σ H Q := h
theorem sCall {sp : Sp} {dvs : List V} {E : XK} (h : tr σ H fun vs H1 => sp (vs ++ dvs) H1 Q E) : tCall sp dvs E tr σ H Q := h
theorem sLsts {xs : List V} {H1 : Hp} (l : xs.length ≤ sizeLine) (h : ∀ p H', Kp Non H1 H' → H1 p = none → H' p = some (.lst xs) → Q (.ref p) H') :
    xs.length ≤ sizeLine ∧ ∀ p, H1 p = none → Q (.ref p) (upd H1 p (.lst xs)) := ⟨l, fun p n => h p _ (Kp.new n) n upd_same⟩
theorem sNew {H1 : Hp} {o : HO} (h : ∀ p H', Kp Non H1 H' → H1 p = none → H' p = some o → Q (.ref p) H') :
    ∀ p, H1 p = none → Q (.ref p) (upd H1 p o) := fun p n => h p _ (Kp.new n) n upd_same
theorem ifD {p : Prop} [Decidable p] {A B : Prop} (h1 : p → A) (h2 : ¬ p → B) : if decide p = true then A else B := by
  by_cases h : p
  · rw [if_pos (decide_eq_true h)]; exact h1 h
  · rw [if_neg (by simp [h])]; exact h2 h
theorem ifN {p : Prop} [Decidable p] {A B : Prop} (h1 : ¬ p → A) (h2 : p → B) : if (!decide p) = true then A else B := by
  by_cases h : p
  · rw [if_neg (by simp [h])]; exact h2 h
  · rw [if_pos (by simp [h])]; exact h1 h
theorem sTups {xs : List V} {H1 : Hp} (l : xs.length ≤ sizeLine) (h : ∀ p H', Kp Non H1 H' → H1 p = none → H' p = some (.tup xs) → Q (.ref p) H') :
    xs.length ≤ sizeLine ∧ ∀ p, H1 p = none → Q (.ref p) (upd H1 p (.tup xs)) := ⟨l, fun p n => h p _ (Kp.new n) n upd_same⟩
end
section
variable {σ : L2.St} {H : Hp} {D : Ends} {Q : VK} {td ty tv : TE}
theorem sDPut' (h : tv σ H fun v H1 => td σ H1 fun x H2 => ty σ H2 fun y H3 => ∃ a H4, x = .ref a ∧ DPut H3 a y v H4 ∧ D.nx σ H4) : sDPut td ty tv D σ H := h
theorem sDGet (h : td σ H fun x H1 => ty σ H1 fun y H2 => ∃ a v, x = .ref a ∧ DGet H2 a y (some v) ∧ Q v H2) : tDGet td ty σ H Q := h
theorem sPar3 {i j l : Nat} {ta : TA} (h : ta σ H fun vs H1 => ∃ u v w, vs = [u, v, w] ∧ D.nx (((σ.set i (some u)).set j (some v)).set l (some w)) H1) : tPar3 i j l ta D σ H := h
theorem sThree {x y z : V} {P : V → V → V → Prop} (h : P x y z) : ∃ u v w, [x, y, z] = [u, v, w] ∧ P u v w := ⟨x, y, z, rfl, h⟩
theorem sPar {i j : Nat} {ta : TA} (h : ta σ H fun vs H1 => ∃ u v, vs = [u, v] ∧ D.nx ((σ.set i (some u)).set j (some v)) H1) : tPar i j ta D σ H := h
theorem sTwo {x y : V} {P : V → V → Prop} (h : P x y) : ∃ u v, [x, y] = [u, v] ∧ P u v := ⟨x, y, rfl, h⟩
theorem sSl {r : V → Option Int → Option Int → Hp → VK → Prop} {te : TE} {tl th : TO} (h : te σ H fun x H1 => tl σ H1 fun l H2 => th σ H2 fun u H3 => r x l u H3 Q) : tSl r te tl th σ H Q := h
theorem sPart {te : TE} {QO : Option Int → Hp → Prop} (h : te σ H fun x H1 => ∃ i, x = .int i ∧ QO (some i) H1) : tPart te σ H QO := h
theorem sNoPart {QO : Option Int → Hp → Prop} (h : QO none H) : tNoPart σ H QO := h
theorem sInt {i : Int} {P : Int → Prop} (h : P i) : ∃ k, V.int i = V.int k ∧ P k := ⟨i, rfl, h⟩
end
/-- the feed's dict and its cells, item by item -/
structure FR (H : Hp) (d c : Addr) (ns : List Int) (p l t : Int) : Prop where
  dict : H d = some (.dK (feedKvs c p l t))
  cells : H c = some (.lst (ns.map V.int))
section
variable {H : Hp} {d c : Addr} {ns : List Int} {p l t z : Int} {Q : V → Prop} {R : Hp → Prop}
theorem FR.ne (h : FR H d c ns p l t) : c ≠ d := ne_of h.cells h.dict (by intro z; cases z)
theorem FR.kp {H' : Hp} (h : FR H d c ns p l t) (k : Kp Non H H') : FR H' d c ns p l t := ⟨k.same _ _ (fun z => z) h.dict, k.same _ _ (fun z => z) h.cells⟩
theorem FR.gCells (h : FR H d c ns p l t) (q : Q (.ref c)) : ∃ a v, V.ref d = .ref a ∧ DGet H a (.str "cells") (some v) ∧ Q v :=
  ⟨d, _, rfl, by rw [← fk_cells (c := c) (p := p) (l := l) (t := t)]; exact DGet.k (k := kCells) h.dict, q⟩
theorem FR.gAt (h : FR H d c ns p l t) (q : Q (.int p)) : ∃ a v, V.ref d = .ref a ∧ DGet H a (.str "at") (some v) ∧ Q v :=
  ⟨d, _, rfl, by rw [← fk_at (c := c) (p := p) (l := l) (t := t)]; exact DGet.k (k := kAt) h.dict, q⟩
theorem FR.gLeft (h : FR H d c ns p l t) (q : Q (.int l)) : ∃ a v, V.ref d = .ref a ∧ DGet H a (.str "left") (some v) ∧ Q v :=
  ⟨d, _, rfl, by rw [← fk_left (c := c) (p := p) (l := l) (t := t)]; exact DGet.k (k := kLeft) h.dict, q⟩
theorem FR.gTurn (h : FR H d c ns p l t) (q : Q (.int t)) : ∃ a v, V.ref d = .ref a ∧ DGet H a (.str "turn") (some v) ∧ Q v :=
  ⟨d, _, rfl, by rw [← fk_turn (c := c) (p := p) (l := l) (t := t)]; exact DGet.k (k := kTurn) h.dict, q⟩
theorem FR.put (h : FR H d c ns p l t) {p' l' t' : Int} : FR (upd H d (.dK (feedKvs c p' l' t'))) d c ns p' l' t' := ⟨upd_same, by rw [upd_ne h.ne]; exact h.cells⟩
theorem FR.kput (h : FR H d c ns p l t) {o : HO} : Kp (At d) H (upd H d o) := Kp.put h.dict (fun _ z => by cases z) (fun _ _ z => by cases z)
theorem FR.pAt (h : FR H d c ns p l t) (q : ∀ H', Kp (At d) H H' → FR H' d c ns z l t → R H') : ∃ a H4, V.ref d = .ref a ∧ DPut H a (.str "at") (.int z) H4 ∧ R H4 :=
  ⟨d, _, rfl, DPut.k (k := kAt) h.dict (small1000 (Nat.le_of_ble_eq_true rfl)), by rw [fp_at]; exact q _ h.kput h.put⟩
theorem FR.pLeft (h : FR H d c ns p l t) (q : ∀ H', Kp (At d) H H' → FR H' d c ns p z t → R H') : ∃ a H4, V.ref d = .ref a ∧ DPut H a (.str "left") (.int z) H4 ∧ R H4 :=
  ⟨d, _, rfl, DPut.k (k := kLeft) h.dict (small1000 (Nat.le_of_ble_eq_true rfl)), by rw [fp_left]; exact q _ h.kput h.put⟩
theorem FR.pTurn (h : FR H d c ns p l t) (q : ∀ H', Kp (At d) H H' → FR H' d c ns p l z → R H') : ∃ a H4, V.ref d = .ref a ∧ DPut H a (.str "turn") (.int z) H4 ∧ R H4 :=
  ⟨d, _, rfl, DPut.k (k := kTurn) h.dict (small1000 (Nat.le_of_ble_eq_true rfl)), by rw [fp_turn]; exact q _ h.kput h.put⟩
end
/-- the feed at d, its cells at c, good for b draws more -/
def Feed (H : Hp) (d c : Addr) (b : Nat) : Prop := ∃ (ns : List Int) (p l t : Int), FR H d c ns p l t ∧ ns.length ≤ 63 ∧ 0 ≤ p ∧ 0 ≤ l ∧ 0 ≤ t ∧ t + b ≤ 1000000
section
variable {H H' : Hp} {d c : Addr} {b b' : Nat} {S : Addr → Prop}
theorem Feed.kp (h : Feed H d c b) (k : Kp S H H') (n : ¬ S d) (n2 : ¬ S c) : Feed H' d c b := by
  obtain ⟨ns, p, l, t, h, r⟩ := h
  exact ⟨ns, p, l, t, ⟨k.same _ _ n h.dict, k.same _ _ n2 h.cells⟩, r⟩
theorem Feed.non (h : Feed H d c b) (k : Kp Non H H') : Feed H' d c b := h.kp k (fun z => z) (fun z => z)
theorem Feed.less (h : Feed H d c b) (e : b' ≤ b) : Feed H d c b' := by
  obtain ⟨ns, p, l, t, h, r1, r2, r3, r4, r5⟩ := h
  exact ⟨ns, p, l, t, h, r1, r2, r3, r4, by omega⟩
theorem Feed.ne (h : Feed H d c b) : c ≠ d := by
  obtain ⟨ns, p, l, t, h, r⟩ := h
  exact h.ne
theorem Feed.live (h : Feed H d c b) : H d ≠ none ∧ H c ≠ none := by
  obtain ⟨ns, p, l, t, h, r⟩ := h
  exact ⟨by rw [h.dict]; simp, by rw [h.cells]; simp⟩
theorem Feed.off (h : Feed H d c b) {D : Addr} (n : H D = none) : d ≠ D ∧ c ≠ D :=
  ⟨fun e => h.live.1 (e ▸ n), fun e => h.live.2 (e ▸ n)⟩
end
theorem mergeFeed (c : Addr) (p l t : Int) : mergeK [] (feedKvs c p l t) = feedKvs c p l t := by
  simp [mergeK, feedKvs, putK, k1, k2, k3, k4, k5, k6]
theorem fmod_lt {a m : Int} (h : 0 < m) : a.fmod m < m := by rw [Int.fmod_eq_emod_of_nonneg _ (Int.le_of_lt h)]; exact Int.emod_lt_of_pos _ h
theorem fmod_ge {a m : Int} (h : 0 < m) : 0 ≤ a.fmod m := by rw [Int.fmod_eq_emod_of_nonneg _ (Int.le_of_lt h)]; exact Int.emod_nonneg _ (by omega)
theorem fdiv_ge {a m : Int} (ha : 0 ≤ a) (h : 0 < m) : 0 ≤ a.fdiv m := by rw [Int.fdiv_eq_ediv_of_nonneg _ (Int.le_of_lt h)]; exact Int.ediv_nonneg ha (by omega)
theorem dpInts (K : PySem.W.Frag) (H : Hp) : ∀ ns : List Int, DpAll K H (ns.map V.int) (ns.map PyData.int)
  | [] => .nil
  | n :: r => .cons (.int n) (dpInts K H r)
theorem canInts : ∀ ns : List Int, PyData.canLayAll0 (ns.map PyData.int) = true
  | [] => rfl
  | _ :: r => by
    show (true && PyData.canLayAll0 (r.map PyData.int)) = true
    rw [canInts r]; rfl
theorem depthInts : ∀ ns : List Int, PyData.depthAll (ns.map PyData.int) = 0
  | [] => rfl
  | _ :: r => by
    show max 0 (PyData.depthAll (r.map PyData.int)) = 0
    rw [depthInts r]; rfl
theorem shapedInts (ns : List Int) : SeqAt.shaped (.list (ns.map PyData.int)) = true := by
  show (PyData.canLayAll0 (ns.map PyData.int) && decide (PyData.depthAll (ns.map PyData.int) + 1 ≤ 64)) = true
  rw [canInts, depthInts]; rfl
end Hw
/-! Rules whose new objects come with what stays, not with the heap written out. -/
namespace Hw
open PySem PySem.Spec PyProof.Rows L2
section
variable {X : Cx}
theorem peImp {e : Expr} {t u : TE} (h : PE X e t) (i : ∀ σ H Q, u σ H Q → t σ H Q) : PE X e u := ⟨fun pins s σ H Q I q => h.run pins s σ H Q I (i σ H Q q)⟩
/-- what follows may be weakened -/
def wk (t : TA) : TA := fun σ H Q => ∃ Q0 : List V → Hp → Prop, t σ H Q0 ∧ ∀ xs H', Q0 xs H' → Q xs H'
theorem paWk {es : List Expr} {t : TA} (h : PA X es t) : PA X es (wk t) := ⟨fun pos pins s σ H Q I q => by
  obtain ⟨Q0, q0, im⟩ := q
  exact thn (h.run pos pins s σ H Q0 I q0) fun us s1 ⟨vs, H1, I1, r, z⟩ => ⟨vs, H1, I1, r, im vs H1 z⟩⟩
def tTupG (t : TA) : TE := fun σ H Q => t σ H fun xs H1 => xs.length ≤ sizeLine ∧ ∀ p H', Kp Non H1 H' → H1 p = none → H' p = some (.tup xs) → Q (.ref p) H'
def tLstG (t : TA) : TE := fun σ H Q => t σ H fun xs H1 => xs.length ≤ sizeLine ∧ ∀ p H', Kp Non H1 H' → H1 p = none → H' p = some (.lst xs) → Q (.ref p) H'
theorem pe_tupG {es : List Expr} {t : TA} {x1} {pos : Pos} (h : PA X es t) : PE X (.Tuple es x1 pos) (tTupG t) :=
  peImp (pe_tup (paWk h)) fun σ H Q q => ⟨_, q, fun xs H' z => ⟨z.1, fun p n => z.2 p _ (Kp.new n) n upd_same⟩⟩
theorem pe_lstG {es : List Expr} {t : TA} {pos : Pos} (h : PA X es t) : PE X (.List es pos) (tLstG t) :=
  peImp (pe_lst (paWk h)) fun σ H Q q => ⟨_, q, fun xs H' z => ⟨z.1, fun p n => z.2 p _ (Kp.new n) n upd_same⟩⟩
/-! slices -/
def rSlLG (K : PySem.W.Frag) : V → Option Int → Option Int → Hp → VK → Prop := fun x lo hi H Q =>
  ∃ a xs, x = .ref a ∧ SqL K H a xs ∧ ∀ p H', Kp Non H H' → H p = none → H' p = some (.lst (cutV xs lo hi)) → Q (.ref p) H'
theorem sl_listG : SlR X (rSlLG X.K) := by
  intro pins s σ H x v vl vu lo hi sl Q I rx hs pl pu ⟨a, xs, e, h, q⟩
  exact sl_list pins s σ H x v vl vu lo hi sl Q I rx hs pl pu ⟨a, xs, e, h, fun p n => q p _ (Kp.new n) n upd_same⟩
def rSlTG (K : PySem.W.Frag) : V → Option Int → Option Int → Hp → VK → Prop := fun x lo hi H Q =>
  ∃ a xs, x = .ref a ∧ SqT K H a xs ∧ ∀ p H', Kp Non H H' → SqT K H' p (cutV xs lo hi) → Q (.ref p) H'
theorem sl_tupG : SlR X (rSlTG X.K) := by
  intro pins s σ H x v vl vu lo hi sl Q I rx hs pl pu ⟨a, xs, e, h, q⟩
  refine sl_tupA pins s σ H x v vl vu lo hi sl Q I rx hs pl pu ⟨a, xs, e, h, fun w => ?_, fun w p n => q p _ (Kp.new n) (.of upd_same)⟩
  refine q a H Kp.refl ?_
  have e2 : cutV xs lo hi = xs := by
    unfold cutV
    rw [w.1, w.2, List.drop_zero, Nat.sub_zero, List.take_length]
  rw [e2]
  exact h
/-! tuple(x), list(x) -/
def rTupG (K : PySem.W.Frag) : List V → Hp → VK → Prop := fun xs H Q => ∃ p ys, xs = [.ref p] ∧ (SqL K H p ys ∨ SqT K H p ys) ∧ ∀ l H', Kp Non H H' → SqT K H' l ys → Q (.ref l) H'
theorem call_tupleG : CallR X (.type "tuple") (rTupG X.K) := by
  intro pins s σ H xs us Q I r ⟨p, ys, e, h, q⟩
  refine call_tuple_of pins s σ H xs us Q I r ⟨p, ys, e, ?_⟩
  rcases h with h | h
  · exact .inl ⟨h, fun l n => q l _ (Kp.new n) (.of upd_same)⟩
  · exact .inr ⟨h, q p H Kp.refl h⟩
def rListG (K : PySem.W.Frag) : List V → Hp → VK → Prop := fun xs H Q => ∃ p ys, xs = [.ref p] ∧ (SqL K H p ys ∨ SqT K H p ys) ∧ ∀ l H', Kp Non H H' → H l = none → H' l = some (.lst ys) → Q (.ref l) H'
theorem call_listG : CallR X (.type "list") (rListG X.K) := by
  intro pins s σ H xs us Q I r ⟨p, ys, e, h, q⟩
  exact call_list_of pins s σ H xs us Q I r ⟨p, ys, e, h, fun l n => q l _ (Kp.new n) n upd_same⟩
/-! lists changed -/
def rAppG : V → List V → Hp → VK → Prop := fun x vs H Q => ∃ l xs y, x = .ref l ∧ vs = [y] ∧ H l = some (.lst xs) ∧ xs.length < sizeLine ∧
  ∀ H', Kp (At l) H H' → H' l = some (.lst (xs ++ [y])) → Q .non H'
theorem mt_appendG : MtM X "list.append" rAppG := by
  intro pins s σ H x xs v us Q I rx rv ⟨l, ys, y, e1, e2, h, hl, q⟩
  exact mt_append pins s σ H x xs v us Q I rx rv ⟨l, ys, y, e1, e2, h, hl, q _ (Kp.putL h) upd_same⟩
def rSetLG : V → V → V → Hp → (Hp → Prop) → Prop := fun o i v H Q => ∃ p xs k j, o = .ref p ∧ i = .int k ∧ H p = some (.lst xs) ∧ ixN xs.length k = some j ∧
  ∀ H', Kp (At p) H H' → H' p = some (.lst (xs.set j v)) → Q H'
theorem set_listG : PSet X rSetLG := by
  intro pins s σ H o i v a b c Q I ro ri rv ⟨p, xs, k, j, e1, e2, h, hj, q⟩
  exact set_list pins s σ H o i v a b c Q I ro ri rv ⟨p, xs, k, j, e1, e2, h, hj, q _ (Kp.putL h) upd_same⟩
def rRepG : R2 := fun x y H Q => ∃ l k xs, x = .ref l ∧ y = .int k ∧ H l = some (.lst xs) ∧ -(2 ^ 63) ≤ k ∧ k < 2 ^ 63 ∧ xs.length * k.toNat ≤ sizeLine ∧
  ∀ p H', Kp Non H H' → H p = none → H' p = some (.lst (List.replicate k.toNat xs).flatten) → Q (.ref p) H'
theorem op_repG : OpR X (binaryOp .Mult) rRepG := by
  intro pins s σ H x y v u Q I rx ry ⟨l, k, xs, e1, e2, h, h1, h2, h3, q⟩
  exact op_rep pins s σ H x y v u Q I rx ry ⟨l, k, xs, e1, e2, h, h1, h2, h3, fun p n => q p _ (Kp.new n) n upd_same⟩
end
/-! ### comprehensions -/
section
variable {K : PySem.W.Frag} {a : Addr} {xs : List V} {g : TG} {tt : TT} {te : TE} {vs : List Nat} {σ : L2.St} {H1 : Hp} {Q : VK} {S : Addr → Prop} {P : Nat → List V → Hp → Prop}
/-- one turn: how a kept item, a left out one go on -/
abbrev LcTurn (S : Addr → Prop) (P : Nat → List V → Hp → Prop) (g : TG) (tt : TT) (te : TE) (vs : List Nat) (σ : L2.St) (H1 : Hp) (i : Nat) (x : V) : Prop :=
  ∀ (D : Addr) (ys : List V) (H : Hp) (Z : Hp → Prop), Kp S H1 H → P i ys H →
    (∀ y H4, Kp S H H4 → P (i + 1) (ys ++ [y]) H4 → ∃ acc, H4 D = some (.lst acc) ∧ acc.length < sizeLine ∧ Z (upd H4 D (.lst (acc ++ [y])))) →
    (∀ H3, Kp S H H3 → P (i + 1) ys H3 → Z H3) →
    g x (wipe σ vs) H fun σ2 H2 => wipe σ2 vs = wipe σ vs ∧ tt σ2 H2 fun b H3 =>
      if b = true then te σ2 H3 fun y H4 => ∃ acc, H4 D = some (.lst acc) ∧ acc.length < sizeLine ∧ Z (upd H4 D (.lst (acc ++ [y]))) else Z H3
abbrev LcStab (P : Nat → List V → Hp → Prop) (H1 : Hp) : Prop := ∀ D, H1 D = none → ∀ i ys H H', P i ys H → Kp (At D) H H' → P i ys H'
/-- what stands between two turns -/
def LcAt (S : Addr → Prop) (P : Nat → List V → Hp → Prop) (H1 : Hp) (D : Addr) (i : Nat) (H : Hp) : Prop := ∃ ys, H D = some (.lst ys) ∧ ys.length ≤ i ∧ Kp S H1 H ∧ P i ys H
theorem lcStart {D : Addr} (nD : H1 D = none) (h0 : ∀ H', Kp Non H1 H' → P 0 [] H') : LcAt S P H1 D 0 (upd H1 D (.lst [])) :=
  ⟨[], upd_same, Nat.le_refl _, Kp.new nD, h0 _ (Kp.new nD)⟩
theorem lcGo {D : Addr} {i n : Nat} {x : V} {H : Hp} (nD : H1 D = none) (hS : ∀ b, S b → H1 b ≠ none) (stab : LcStab P H1) (hi : i < n) (hn : n ≤ sizeLine)
    (turn : LcTurn S P g tt te vs σ H1 i x) (h : LcAt S P H1 D i H) :
    g x (wipe σ vs) H fun σ2 H2 => wipe σ2 vs = wipe σ vs ∧ tt σ2 H2 fun b H3 =>
      if b = true then te σ2 H3 fun y H4 => ∃ acc, H4 D = some (.lst acc) ∧ acc.length < sizeLine ∧ LcAt S P H1 D (i + 1) (upd H4 D (.lst (acc ++ [y]))) else LcAt S P H1 D (i + 1) H3 := by
  obtain ⟨ys, e, l, k, p⟩ := h
  have nS : ¬ S D := fun z => hS D z nD
  refine turn D ys H _ k p (fun y H4 k4 p4 => ?_) (fun H3 k3 p3 => ⟨ys, k3.same _ _ nS e, Nat.le_succ_of_le l, k.trans k3, p3⟩)
  have e4 := k4.same _ _ nS e
  refine ⟨ys, e4, by omega, ys ++ [y], upd_same, by rw [List.length_append]; exact Nat.add_le_add_right l 1, ?_, stab D nD _ _ _ _ p4 (Kp.putL e4)⟩
  refine Kp.drop (p := D) (((k.trans k4).wide fun b z => .inr z).trans ((Kp.putL e4).wide fun b z => .inl z)) nD
/-- a comprehension over a tuple, a list, a range: what its reading asks of the thing walked -/
def LcT (K : PySem.W.Frag) (g : TG) (tt : TT) (te : TE) (vs : List Nat) (σ : L2.St) (Q : VK) (x : V) (H1 : Hp) : Prop := iTup K (tC x) σ H1 fun J H1 => ∀ D, H1 D = none → ∃ W : Nat → Nat → Hp → Prop, (∃ m, W 0 m (upd H1 D (.lst []))) ∧ ∀ i m H, W i m H →
  (J.stop i H ∧ Q (.ref D) H) ∨ (J.go i H ∧ ∃ Nx : Hp → Prop, (∀ H', Nx H' → ∃ m', m' < m ∧ W (i + 1) m' H') ∧ ∀ x H', J.yld i H x H' → g x (wipe σ vs) H' fun σ2 H2 => wipe σ2 vs = wipe σ vs ∧ tt σ2 H2 fun b H3 =>
    if b = true then te σ2 H3 fun y H4 => ∃ acc, H4 D = some (.lst acc) ∧ acc.length < sizeLine ∧ Nx (upd H4 D (.lst (acc ++ [y]))) else Nx H3)
def LcL (K : PySem.W.Frag) (g : TG) (tt : TT) (te : TE) (vs : List Nat) (σ : L2.St) (Q : VK) (x : V) (H1 : Hp) : Prop := iList K (tC x) σ H1 fun J H1 => ∀ D, H1 D = none → ∃ W : Nat → Nat → Hp → Prop, (∃ m, W 0 m (upd H1 D (.lst []))) ∧ ∀ i m H, W i m H →
  (J.stop i H ∧ Q (.ref D) H) ∨ (J.go i H ∧ ∃ Nx : Hp → Prop, (∀ H', Nx H' → ∃ m', m' < m ∧ W (i + 1) m' H') ∧ ∀ x H', J.yld i H x H' → g x (wipe σ vs) H' fun σ2 H2 => wipe σ2 vs = wipe σ vs ∧ tt σ2 H2 fun b H3 =>
    if b = true then te σ2 H3 fun y H4 => ∃ acc, H4 D = some (.lst acc) ∧ acc.length < sizeLine ∧ Nx (upd H4 D (.lst (acc ++ [y]))) else Nx H3)
def LcR (g : TG) (tt : TT) (te : TE) (vs : List Nat) (σ : L2.St) (Q : VK) (ta : TA) (H1 : Hp) : Prop := iRng1 ta σ H1 fun J H1 => ∀ D, H1 D = none → ∃ W : Nat → Nat → Hp → Prop, (∃ m, W 0 m (upd H1 D (.lst []))) ∧ ∀ i m H, W i m H →
  (J.stop i H ∧ Q (.ref D) H) ∨ (J.go i H ∧ ∃ Nx : Hp → Prop, (∀ H', Nx H' → ∃ m', m' < m ∧ W (i + 1) m' H') ∧ ∀ x H', J.yld i H x H' → g x (wipe σ vs) H' fun σ2 H2 => wipe σ2 vs = wipe σ vs ∧ tt σ2 H2 fun b H3 =>
    if b = true then te σ2 H3 fun y H4 => ∃ acc, H4 D = some (.lst acc) ∧ acc.length < sizeLine ∧ Nx (upd H4 D (.lst (acc ++ [y]))) else Nx H3)
theorem lcTup (hn : xs.length ≤ sizeLine) (src : SqT K H1 a xs) (hS : ∀ b, S b → H1 b ≠ none) (h0 : ∀ H', Kp Non H1 H' → P 0 [] H') (stab : LcStab P H1)
    (turn : ∀ i x, xs[i]? = some x → LcTurn S P g tt te vs σ H1 i x)
    (hd : ∀ D ys H', P xs.length ys H' → ys.length ≤ xs.length → Kp S H1 H' → H1 D = none → H' D = some (.lst ys) → Q (.ref D) H') :
    LcT K g tt te vs σ Q (.ref a) H1 :=
  ⟨a, rfl, ⟨xs, src⟩, fun D nD => lc_tup (K := K) (a := a) (xs := xs) (LcAt S P H1 D) (lcStart nD h0) (fun i H _ ⟨ys, _, _, k, _⟩ => k.sqT src)
    (fun i x H hx h => lcGo nD hS stab (List.getElem?_eq_some_iff.mp hx).1 hn (turn i x hx) h) (fun H ⟨ys, e, l, k, p⟩ => hd D ys H p l k nD e)⟩
theorem lcList (hn : xs.length ≤ sizeLine) (src : SqL K H1 a xs) (nSa : ¬ S a) (hS : ∀ b, S b → H1 b ≠ none) (h0 : ∀ H', Kp Non H1 H' → P 0 [] H') (stab : LcStab P H1)
    (turn : ∀ i x, xs[i]? = some x → LcTurn S P g tt te vs σ H1 i x)
    (hd : ∀ D ys H', P xs.length ys H' → ys.length ≤ xs.length → Kp S H1 H' → H1 D = none → H' D = some (.lst ys) → Q (.ref D) H') :
    LcL K g tt te vs σ Q (.ref a) H1 :=
  ⟨a, rfl, ⟨xs, src⟩, fun D nD => lc_list (K := K) (a := a) (xs := xs) (LcAt S P H1 D) (lcStart nD h0) (fun i H _ ⟨ys, _, _, k, _⟩ => k.sqL nSa src)
    (fun i x H hx h => lcGo nD hS stab (List.getElem?_eq_some_iff.mp hx).1 hn (turn i x hx) h) (fun H ⟨ys, e, l, k, p⟩ => hd D ys H p l k nD e)⟩
/-- one value, ready -/
def tC1 (v : V) : TA := fun _ H Q => Q [v] H
theorem lcRange {hi : Int} {n : Nat} (h0i : 0 ≤ hi) (en : hi.toNat = n) (hn : n ≤ 1000000) (hS : ∀ b, S b → H1 b ≠ none) (h0 : ∀ H', Kp Non H1 H' → P 0 [] H') (stab : LcStab P H1)
    (turn : ∀ i : Nat, i < n → LcTurn S P g tt te vs σ H1 i (.int (0 + i)))
    (hd : ∀ D ys H', P n ys H' → ys.length ≤ n → Kp S H1 H' → H1 D = none → H' D = some (.lst ys) → Q (.ref D) H') :
    LcR g tt te vs σ Q (tC1 (.int hi)) H1 :=
  ⟨hi, rfl, by omega, by omega, fun D nD => by
    subst en
    exact lc_range (LcAt S P H1 D) (lcStart nD h0) (fun i H hi h => lcGo nD hS stab hi (Nat.le_trans hn (by decide)) (turn i hi) h) (fun H ⟨ys, e, l, k, p⟩ => hd D ys H p l k nD e)⟩
end
section
variable {σ : L2.St} {H : Hp} {Q : VK} {tr : TA}
theorem sTupG (h : tr σ H fun xs H1 => xs.length ≤ sizeLine ∧ ∀ p H', Kp Non H1 H' → H1 p = none → H' p = some (.tup xs) → Q (.ref p) H') : tTupG tr σ H Q := h
theorem sLstG (h : tr σ H fun xs H1 => xs.length ≤ sizeLine ∧ ∀ p H', Kp Non H1 H' → H1 p = none → H' p = some (.lst xs) → Q (.ref p) H') : tLstG tr σ H Q := h
theorem sLen {xs : List V} {C : Prop} (l : xs.length ≤ sizeLine) (h : C) : xs.length ≤ sizeLine ∧ C := ⟨l, h⟩
theorem sLcL {K : PySem.W.Frag} {tl : TE} {g : TG} {tt : TT} {te : TE} {vs : List Nat} (h : tl σ H fun x H1 => LcL K g tt te vs σ Q x H1) : tLc (iList K tl) g tt te vs σ H Q := h
theorem sLcT {K : PySem.W.Frag} {tl : TE} {g : TG} {tt : TT} {te : TE} {vs : List Nat} (h : tl σ H fun x H1 => LcT K g tt te vs σ Q x H1) : tLc (iTup K tl) g tt te vs σ H Q := h
theorem sLcR {tl : TE} {g : TG} {tt : TT} {te : TE} {vs : List Nat} (h : tl σ H fun x H1 => LcR g tt te vs σ Q (tC1 x) H1) : tLc (iRng1 (tCons tl tNil)) g tt te vs σ H Q := h
/-- a for over a tuple, a list, a range -/
def ForL (K : PySem.W.Frag) (g : TG) (tb : TS) (D : Ends) (σ : L2.St) (x : V) (H1 : Hp) : Prop := tFor (iList K (tC x)) g tb D σ H1
def ForT (K : PySem.W.Frag) (g : TG) (tb : TS) (D : Ends) (σ : L2.St) (x : V) (H1 : Hp) : Prop := tFor (iTup K (tC x)) g tb D σ H1
def ForR (g : TG) (tb : TS) (D : Ends) (σ : L2.St) (x : V) (H1 : Hp) : Prop := tFor (iRng1 (tC1 x)) g tb D σ H1
theorem sForL {K : PySem.W.Frag} {tl : TE} {g : TG} {tb : TS} {D : Ends} (h : tl σ H fun x H1 => ForL K g tb D σ x H1) : tFor (iList K tl) g tb D σ H := h
theorem sForT {K : PySem.W.Frag} {tl : TE} {g : TG} {tb : TS} {D : Ends} (h : tl σ H fun x H1 => ForT K g tb D σ x H1) : tFor (iTup K tl) g tb D σ H := h
theorem sForR {tl : TE} {g : TG} {tb : TS} {D : Ends} (h : tl σ H fun x H1 => ForR g tb D σ x H1) : tFor (iRng1 (tCons tl tNil)) g tb D σ H := h
section
variable {K : PySem.W.Frag} {a : Addr} {xs : List V} {g : TG} {tb : TS} {D : Ends} (P : Nat → L2.St → Hp → Prop)
theorem forList (src : ∀ i σ H, P i σ H → SqL K H a xs) (h0 : P 0 σ H)
    (hs : ∀ i x σ H, xs[i]? = some x → P i σ H → g x σ H fun σ2 H2 => tb { D with nx := P (i + 1), ct := P (i + 1), bk := D.nx } σ2 H2) (hd : ∀ σ H, P xs.length σ H → D.nx σ H) : ForL K g tb D σ (.ref a) H :=
  ⟨a, rfl, ⟨xs, src 0 σ H h0⟩, for_list P h0 (fun i σ H _ p => src i σ H p) hs hd⟩
theorem forTup (src : ∀ i σ H, P i σ H → SqT K H a xs) (h0 : P 0 σ H)
    (hs : ∀ i x σ H, xs[i]? = some x → P i σ H → g x σ H fun σ2 H2 => tb { D with nx := P (i + 1), ct := P (i + 1), bk := D.nx } σ2 H2) (hd : ∀ σ H, P xs.length σ H → D.nx σ H) : ForT K g tb D σ (.ref a) H :=
  ⟨a, rfl, ⟨xs, src 0 σ H h0⟩, for_tup P h0 (fun i σ H _ p => src i σ H p) hs hd⟩
theorem forRange {hi : Int} {n : Nat} (en : hi.toNat = n) (l1 : -1000000 ≤ hi) (l2 : hi ≤ 1000000) (h0 : P 0 σ H)
    (hs : ∀ (i : Nat) σ H, i < n → P i σ H → g (.int (0 + i)) σ H fun σ2 H2 => tb { D with nx := P (i + 1), ct := P (i + 1), bk := D.nx } σ2 H2) (hd : ∀ σ H, P n σ H → D.nx σ H) : ForR g tb D σ (.int hi) H := by
  subst en
  exact ⟨hi, rfl, by omega, by omega, for_range P h0 hs hd⟩
end
theorem sYes {QB : Bool → Hp → Prop} (h : QB true H) : tYes σ H QB := h
theorem sGTup {K : PySem.W.Frag} {n : Nat} {t : TGs} {a : Addr} {xs : List V} {Qs : L2.St → Hp → Prop} (h : SqT K H a xs) (l : xs.length = n) (q : t xs σ H Qs) : gTup K n t (.ref a) σ H Qs := ⟨a, xs, rfl, h, l, q⟩
theorem sGCons {t : TG} {u : TGs} {v : V} {r : List V} {Qs : L2.St → Hp → Prop} (h : t v σ H fun σ' H' => u r σ' H' Qs) : gCons t u (v :: r) σ H Qs := ⟨v, r, rfl, h⟩
theorem sGNil {Qs : L2.St → Hp → Prop} (h : Qs σ H) : gNil [] σ H Qs := ⟨rfl, h⟩
theorem sGSub {to ti : TE} {t : TSet} {v : V} {Qs : L2.St → Hp → Prop} (h : to σ H fun o H1 => ti σ H1 fun i H2 => t o i v H2 fun H3 => Qs σ H3) : gSub to ti t v σ H Qs := h
end
/-- both branches of a conditional expression go on alike -/
theorem sIfE {b : Bool} {ta tb : TE} {σ : L2.St} {H : Hp} {F : VK} (P : V → Prop) (k : ∀ F' : VK, (∀ v, P v → F' v H) → if b = true then ta σ H F' else tb σ H F') (h : ∀ v, P v → F v H) :
    if b = true then ta σ H F else tb σ H F := k F h
/-- both branches of an if go on alike -/
theorem sAndJ {b : Bool} {tu : TT} {σ : L2.St} {H : Hp} {QB : Bool → Hp → Prop} (P : Bool → Prop) (k : ∀ F : Bool → Hp → Prop, (∀ c, P c → F c H) → if b = true then tu σ H F else F false H) (h : ∀ c, P c → QB c H) :
    if b = true then tu σ H QB else QB false H := k QB h
theorem sAndK {b : Bool} {tu : TT} {σ : L2.St} {H : Hp} {QB : Bool → Hp → Prop} (P : Bool → Hp → Prop) (k : ∀ F : Bool → Hp → Prop, (∀ c H', P c H' → F c H') → if b = true then tu σ H F else F false H) (h : ∀ c H', P c H' → QB c H') :
    if b = true then tu σ H QB else QB false H := k QB h
theorem sOrK {b : Bool} {tu : TT} {σ : L2.St} {H : Hp} {QB : Bool → Hp → Prop} (P : Bool → Hp → Prop) (k : ∀ F : Bool → Hp → Prop, (∀ c H', P c H' → F c H') → if b = true then F true H else tu σ H F) (h : ∀ c H', P c H' → QB c H') :
    if b = true then QB true H else tu σ H QB := k QB h
theorem sIfJ {b : Bool} {t u : TS} {D : Ends} {σ : L2.St} {H : Hp} (P : L2.St → Hp → Prop) (k : ∀ F' : L2.St → Hp → Prop, (∀ σ H, P σ H → F' σ H) → if b = true then t { D with nx := F' } σ H else u { D with nx := F' } σ H) (h : ∀ σ H, P σ H → D.nx σ H) :
    if b = true then t D σ H else u D σ H := k D.nx h
def rLenG (K : PySem.W.Frag) : List V → Hp → VK → Prop := fun xs H Q => ∃ x n, xs = [x] ∧ LenV K x H n ∧ Q (.int n) H
theorem call_lenG {X : Cx} : CallR X (.builtin "len") (rLenG X.K) := call_len
def rMinG : List V → Hp → VK → Prop := fun xs H Q => ∃ i j, xs = [.int i, .int j] ∧ Q (.int (if j < i then j else i)) H
theorem call_min2G {X : Cx} (hc : X.calm = true) : CallR X (.builtin "min") rMinG := call_min2 hc
def rMaxG : List V → Hp → VK → Prop := fun xs H Q => ∃ i j, xs = [.int i, .int j] ∧ Q (.int (if i < j then j else i)) H
theorem call_max2G {X : Cx} (hc : X.calm = true) : CallR X (.builtin "max") rMaxG := call_max2 hc
section
variable {K : PySem.W.Frag} {H : Hp} {a : Addr} {xs : List V} {Q : VK}
theorem sLenL (h : SqL K H a xs) (q : Q (.int xs.length) H) : rLenG K [V.ref a] H Q := ⟨_, xs.length, rfl, .inl ⟨xs, h, rfl⟩, q⟩
theorem sLenT (h : SqT K H a xs) (q : Q (.int xs.length) H) : rLenG K [V.ref a] H Q := ⟨_, xs.length, rfl, .inr ⟨xs, h, rfl⟩, q⟩
theorem sMin {i j : Int} (q : Q (.int (if j < i then j else i)) H) : rMinG [.int i, .int j] H Q := ⟨i, j, rfl, q⟩
theorem sMax {i j : Int} (q : Q (.int (if i < j then j else i)) H) : rMaxG [.int i, .int j] H Q := ⟨i, j, rfl, q⟩
theorem sIxL {v : V} {n : Int} (h : SqL K H a xs) (e : atI xs n = some v) (q : Q v H) : rIxL K (.ref a) (.int n) H Q := ⟨a, xs, n, v, rfl, rfl, h, e, q⟩
theorem sIxT {v : V} {n : Int} (h : SqT K H a xs) (e : atI xs n = some v) (q : Q v H) : rIxT K (.ref a) (.int n) H Q := ⟨a, xs, n, v, rfl, rfl, h, e, q⟩
theorem sSlL {lo hi : Option Int} (h : SqL K H a xs) (q : ∀ p H', Kp Non H H' → H p = none → H' p = some (.lst (cutV xs lo hi)) → Q (.ref p) H') : rSlLG K (.ref a) lo hi H Q := ⟨a, xs, rfl, h, q⟩
theorem sSlT {lo hi : Option Int} (h : SqT K H a xs) (q : ∀ p H', Kp Non H H' → SqT K H' p (cutV xs lo hi) → Q (.ref p) H') : rSlTG K (.ref a) lo hi H Q := ⟨a, xs, rfl, h, q⟩
theorem sTupL (h : SqL K H a xs) (q : ∀ l H', Kp Non H H' → SqT K H' l xs → Q (.ref l) H') : rTupG K [.ref a] H Q := ⟨a, xs, rfl, .inl h, q⟩
theorem sListL (h : SqL K H a xs) (q : ∀ l H', Kp Non H H' → H l = none → H' l = some (.lst xs) → Q (.ref l) H') : rListG K [.ref a] H Q := ⟨a, xs, rfl, .inl h, q⟩
theorem sListT (h : SqT K H a xs) (q : ∀ l H', Kp Non H H' → H l = none → H' l = some (.lst xs) → Q (.ref l) H') : rListG K [.ref a] H Q := ⟨a, xs, rfl, .inr h, q⟩
theorem sApp {y : V} (h : H a = some (.lst xs)) (hl : xs.length < sizeLine) (q : ∀ H', Kp (At a) H H' → H' a = some (.lst (xs ++ [y])) → Q .non H') : rAppG (.ref a) [y] H Q := ⟨a, xs, y, rfl, rfl, h, hl, q⟩
theorem sSum {ns : List Int} (h : SqL K H a (ns.map V.int)) (q : Q (.int ns.sum) H) : rSum K [.ref a] H Q := ⟨a, ns, rfl, h, q⟩
theorem sAll {bs : List Bool} (h : SqL K H a (bs.map V.bl)) (q : Q (.bl (bs.all id)) H) : rAll K [.ref a] H Q := ⟨a, bs, rfl, h, q⟩
theorem sAny {bs : List Bool} (h : SqL K H a (bs.map V.bl)) (q : Q (.bl (bs.any id)) H) : rAny K [.ref a] H Q := ⟨a, bs, rfl, h, q⟩
theorem sInL {x : V} (h : SqL K H a xs) (f : flatV x = true) (fs : xs.all flatV = true) (q : Q (.bl (inV x xs)) H) : rIn K false x (.ref a) H Q := ⟨a, xs, rfl, .inl h, f, fs, q⟩
theorem sInT {x : V} (h : SqT K H a xs) (f : flatV x = true) (fs : xs.all flatV = true) (q : Q (.bl (inV x xs)) H) : rIn K false x (.ref a) H Q := ⟨a, xs, rfl, .inr h, f, fs, q⟩
theorem sNiL {x : V} (h : SqL K H a xs) (f : flatV x = true) (fs : xs.all flatV = true) (q : Q (.bl (!inV x xs)) H) : rIn K true x (.ref a) H Q := ⟨a, xs, rfl, .inl h, f, fs, q⟩
theorem sNiT {x : V} (h : SqT K H a xs) (f : flatV x = true) (fs : xs.all flatV = true) (q : Q (.bl (!inV x xs)) H) : rIn K true x (.ref a) H Q := ⟨a, xs, rfl, .inr h, f, fs, q⟩
theorem sRepr {v : V} {d : PyData} (h : Dp K H v d) (s : d.showable = true) (n : d.hasDict = false) (dp : d.depth ≤ 100) (z : d.shown.length ≤ sizeLine) (q : Q (.str d.shown) H) : rRepr K [v] H Q := ⟨v, d, rfl, h, s, n, dp, z, q⟩
theorem sNeD {x y : V} {d e : PyData} (h : Dp K H x d) (h2 : Dp K H y e) (s : SeqAt.shaped d = true) (s2 : SeqAt.shaped e = true) (q : Q (.bl (!PyData.eqv d e)) H) : rNeD K x y H Q := ⟨d, e, h, h2, s, s2, q⟩
theorem sEqD {x y : V} {d e : PyData} (h : Dp K H x d) (h2 : Dp K H y e) (s : SeqAt.shaped d = true) (s2 : SeqAt.shaped e = true) (q : Q (.bl (PyData.eqv d e)) H) : rEqD K x y H Q := ⟨d, e, h, h2, s, s2, q⟩
theorem sRep {k : Int} (h : H a = some (.lst xs)) (h1 : 0 ≤ k) (h2 : k ≤ 10000) (h3 : xs.length ≤ 1) (q : ∀ p H', Kp Non H H' → H p = none → H' p = some (.lst (List.replicate k.toNat xs).flatten) → Q (.ref p) H') : rRepG (.ref a) (.int k) H Q :=
  ⟨a, k, xs, rfl, rfl, h, by omega, by omega, Nat.le_of_lt (Nat.lt_of_le_of_lt (Nat.mul_le_mul h3 (by omega : k.toNat ≤ 10000)) (by decide)), q⟩
theorem sSetL {k : Int} {v : V} {j : Nat} {R : Hp → Prop} (h : H a = some (.lst xs)) (e : ixN xs.length k = some j) (q : ∀ H', Kp (At a) H H' → H' a = some (.lst (xs.set j v)) → R H') : rSetLG (.ref a) (.int k) v H R := ⟨a, xs, k, j, rfl, rfl, h, e, q⟩
end
/-! ### is None -/
def rIsNG : R2 := fun x y H Q => y = .non ∧ Q (.bl (decide (x = .non))) H
def rNotNG : R2 := fun x y H Q => y = .non ∧ Q (.bl (!decide (x = .non))) H
theorem op_isNG {X : Cx} : OpR X (compareOp .Is) rIsNG := op_isN
theorem op_notNG {X : Cx} : OpR X (compareOp .IsNot) rNotNG := op_notN
theorem sIsN {x : V} {H : Hp} {Q : VK} (q : Q (.bl (decide (x = .non))) H) : rIsNG x .non H Q := ⟨rfl, q⟩
theorem sNotN {x : V} {H : Hp} {Q : VK} (q : Q (.bl (!decide (x = .non))) H) : rNotNG x .non H Q := ⟨rfl, q⟩
/-- a range's bounds, walked -/
theorem sRng1 {j : Int} {R : It → Hp → Prop} {H : Hp} (h1 : -1000000 ≤ j) (h2 : j ≤ 1000000) (q : R (Itr 0 j.toNat) H) : ∃ k : Int, [V.int j] = [.int k] ∧ -(2 ^ 62) ≤ k ∧ k < 2 ^ 62 ∧ R (Itr 0 k.toNat) H :=
  ⟨j, rfl, by omega, by omega, q⟩
theorem inV_strs (w : Str) (ws : List Str) : inV (.str w) (ws.map V.str) = decide (w ∈ ws) := by
  unfold inV
  induction ws with
  | nil => simp
  | cons x r ih =>
    rw [List.map_cons, List.any_cons, ih]
    by_cases e : x = w
    · subst e; simp [eqV]
    · simp [eqV, e, Ne.symm e]
theorem flat_strs (ws : List Str) : (ws.map V.str).all flatV = true := by
  induction ws with
  | nil => rfl
  | cons x r ih => rw [List.map_cons, List.all_cons, ih]; rfl
theorem inV_ints (w : Int) (ws : List Int) : inV (.int w) (ws.map V.int) = decide (w ∈ ws) := by
  unfold inV
  induction ws with
  | nil => simp
  | cons x r ih =>
    rw [List.map_cons, List.any_cons, ih]
    by_cases e : x = w
    · subst e; simp [eqV]
    · simp [eqV, e, Ne.symm e]
theorem flat_ints (ws : List Int) : (ws.map V.int).all flatV = true := by
  induction ws with
  | nil => rfl
  | cons x r ih => rw [List.map_cons, List.all_cons, ih]; rfl
section
variable {K : PySem.W.Frag} {H : Hp} {a : Addr} {Q : VK}
theorem sInTS {w : Str} {ws : List Str} (h : SqT K H a (ws.map V.str)) (q : Q (.bl (decide (w ∈ ws))) H) : rIn K false (.str w) (.ref a) H Q := sInT h rfl (flat_strs _) (by rw [inV_strs]; exact q)
theorem sInLS {w : Str} {ws : List Str} (h : SqL K H a (ws.map V.str)) (q : Q (.bl (decide (w ∈ ws))) H) : rIn K false (.str w) (.ref a) H Q := sInL h rfl (flat_strs _) (by rw [inV_strs]; exact q)
theorem sInTI {w : Int} {ws : List Int} (h : SqT K H a (ws.map V.int)) (q : Q (.bl (decide (w ∈ ws))) H) : rIn K false (.int w) (.ref a) H Q := sInT h rfl (flat_ints _) (by rw [inV_ints]; exact q)
theorem sInLI {w : Int} {ws : List Int} (h : SqL K H a (ws.map V.int)) (q : Q (.bl (decide (w ∈ ws))) H) : rIn K false (.int w) (.ref a) H Q := sInL h rfl (flat_ints _) (by rw [inV_ints]; exact q)
theorem sNiTI {w : Int} {ws : List Int} (h : SqT K H a (ws.map V.int)) (q : Q (.bl (!decide (w ∈ ws))) H) : rIn K true (.int w) (.ref a) H Q := sNiT h rfl (flat_ints _) (by rw [inV_ints]; exact q)
theorem sNiLI {w : Int} {ws : List Int} (h : SqL K H a (ws.map V.int)) (q : Q (.bl (!decide (w ∈ ws))) H) : rIn K true (.int w) (.ref a) H Q := sNiL h rfl (flat_ints _) (by rw [inV_ints]; exact q)
end
theorem cutTake (xs : List V) (n : Nat) : cutV xs none (some (n : Int)) = xs.take n := by
  unfold cutV
  rw [HT.sIx_none, HT.sIx_nat, List.drop_zero, Nat.sub_zero]
  by_cases h : n ≤ xs.length
  · rw [Nat.min_eq_left h]
  · rw [Nat.min_eq_right (by omega), List.take_of_length_le (Nat.le_refl _), List.take_of_length_le (by omega)]
theorem cutDrop (xs : List V) (n : Nat) : cutV xs (some (n : Int)) none = xs.drop n := by
  unfold cutV
  rw [HT.sIx_none, HT.sIx_nat]
  by_cases h : n ≤ xs.length
  · rw [Nat.min_eq_left h, List.take_of_length_le (by rw [List.length_drop]; exact Nat.le_refl _)]
  · rw [Nat.min_eq_right (by omega), List.drop_of_length_le (Nat.le_refl _), List.drop_of_length_le (by omega), List.take_nil]
theorem sBM {K : PySem.W.Frag} {T : String} {r : V → List V → Hp → VK → Prop} {to : TE} {t : TA} {σ : L2.St} {H : Hp} {Q : VK} (h : to σ H fun x H1 => tyV K T x H1 ∧ t σ H1 fun xs H2 => r x xs H2 Q) : tBM K T r to t σ H Q := h
theorem sBM0 {K : PySem.W.Frag} {T : String} {r : V → List V → Hp → VK → Prop} {to : TE} {σ : L2.St} {H : Hp} {Q : VK} (h : to σ H fun x H1 => tyV K T x H1 ∧ r x [] H1 Q) : tBM0 K T r to σ H Q := h
theorem sTy {K : PySem.W.Frag} {H : Hp} {a : Addr} {xs : List V} {C : Prop} (h : H a = some (.lst xs)) (q : C) : tyV K "list" (.ref a) H ∧ C := ⟨.inl ⟨rfl, _, .of h⟩, q⟩
/-- t + u of tuples -/
def rCatG (K : PySem.W.Frag) : R2 := fun x y H Q => ∃ a b xs ys, x = .ref a ∧ y = .ref b ∧ SqT K H a xs ∧ SqT K H b ys ∧ xs.length + ys.length ≤ sizeLine ∧ ∀ p H', Kp Non H H' → SqT K H' p (xs ++ ys) → Q (.ref p) H'
theorem op_catG {X : Cx} : OpR X (binaryOp .Add) (rCatG X.K) := by
  intro pins s σ H x y v u Q I rx ry ⟨a, b, xs, ys, e1, e2, ha, hb, hz, q⟩
  refine op_catA pins s σ H x y v u Q I rx ry ⟨a, b, xs, ys, e1, e2, ha, hb, hz, fun e => ?_, fun _ e => ?_, fun _ _ p n => q p _ (Kp.new n) (.of upd_same)⟩
  · subst e; exact q b H Kp.refl hb
  · subst e; exact q a H Kp.refl (by rw [List.append_nil]; exact ha)
theorem sCat {K : PySem.W.Frag} {H : Hp} {Q : VK} {a b : Addr} {xs ys : List V} (h : SqT K H a xs) (h2 : SqT K H b ys) (z : xs.length + ys.length ≤ 1000) (q : ∀ p H', Kp Non H H' → SqT K H' p (xs ++ ys) → Q (.ref p) H') : rCatG K (.ref a) (.ref b) H Q :=
  ⟨a, b, xs, ys, rfl, rfl, h, h2, Nat.le_of_lt (small1000 z), q⟩
/-- xs + ys of lists -/
def rCatLG : R2 := fun x y H Q => ∃ a b xs ys, x = .ref a ∧ y = .ref b ∧ H a = some (.lst xs) ∧ H b = some (.lst ys) ∧ xs.length + ys.length ≤ sizeLine ∧ ∀ p H', Kp Non H H' → H p = none → H' p = some (.lst (xs ++ ys)) → Q (.ref p) H'
theorem op_catLG {X : Cx} : OpR X (binaryOp .Add) rCatLG := by
  intro pins s σ H x y v u Q I rx ry ⟨a, b, xs, ys, e1, e2, ha, hb, hz, q⟩
  exact op_cat pins s σ H x y v u Q I rx ry ⟨a, b, xs, ys, e1, e2, ha, hb, by omega, fun p n => q p _ (Kp.new n) n upd_same⟩
theorem sCatL {H : Hp} {Q : VK} {a b : Addr} {xs ys : List V} (h : H a = some (.lst xs)) (h2 : H b = some (.lst ys)) (z : xs.length + ys.length ≤ 1000) (q : ∀ p H', Kp Non H H' → H p = none → H' p = some (.lst (xs ++ ys)) → Q (.ref p) H') : rCatLG (.ref a) (.ref b) H Q :=
  ⟨a, b, xs, ys, rfl, rfl, h, h2, Nat.le_of_lt (small1000 z), q⟩
theorem sIfEK {b : Bool} {ta tb : TE} {σ : L2.St} {H : Hp} {F : VK} (P : V → Hp → Prop) (k : ∀ F' : VK, (∀ v H', P v H' → F' v H') → if b = true then ta σ H F' else tb σ H F') (h : ∀ v H', P v H' → F v H') :
    if b = true then ta σ H F else tb σ H F := k F h
theorem sNeB {a b : Bool} {H : Hp} {Q : VK} (h : Q (.bl (!decide (a = b))) H) : rNe (.bl a) (.bl b) H Q := ⟨by cases a <;> cases b <;> rfl, by rwa [show decide (V.bl a = V.bl b) = decide (a = b) from by simp]⟩
theorem sEqB {a b : Bool} {H : Hp} {Q : VK} (h : Q (.bl (decide (a = b))) H) : rEq (.bl a) (.bl b) H Q := ⟨by cases a <;> cases b <;> rfl, by rwa [show decide (V.bl a = V.bl b) = decide (a = b) from by simp]⟩
/-- xs * k of lists -/
theorem sRepS {k : Int} {H : Hp} {Q : VK} {a : Addr} {xs : List V} (h : H a = some (.lst xs)) (h1 : 0 ≤ k) (h2 : k ≤ 100) (h3 : xs.length ≤ 100) (q : ∀ p H', Kp Non H H' → H p = none → H' p = some (.lst (List.replicate k.toNat xs).flatten) → Q (.ref p) H') : rRepG (.ref a) (.int k) H Q :=
  ⟨a, k, xs, rfl, rfl, h, by omega, by omega, Nat.le_of_lt (Nat.lt_of_le_of_lt (Nat.mul_le_mul h3 (by omega : k.toNat ≤ 100)) (by decide)), q⟩
theorem sIntB {H : Hp} {Q : VK} {k : Bool} (q : Q (.int (if k then 1 else 0)) H) : (∃ i, [V.bl k] = [.int i] ∧ Q (.int i) H) ∨ ∃ k', [V.bl k] = [.bl k'] ∧ Q (.int (if k' then 1 else 0)) H := .inr ⟨k, rfl, q⟩
end Hw
/-! Houses, persons, stands as data. -/
namespace Hw
open PySem PySem.Spec PyProof.Rows L2
def words8 : List Str := ["first", "last", "short", "front", "lastoff", "shortoff", "frontoff", "turns"]
def keep4 : List Str := ["first", "last", "short", "front"]
structure House where
  hands : Nat
  places : Option Nat
  rule : Str
structure Person where
  rank : Nat
  left : Nat
  begun : Bool
deriving DecidableEq
def optD : Option Nat → PyData
  | none => .none
  | some n => .int n
def optV : Option Nat → V
  | none => .non
  | some n => .int n
def House.d (h : House) : PyData := .tuple [.int h.hands, optD h.places, .str h.rule]
def Person.d (p : Person) : PyData := .tuple [.int p.rank, .int p.left, .bool p.begun]
def standD (st : List Person) : PyData := .tuple (st.map Person.d)
def House.keeps (h : House) : Bool := decide (h.rule ∈ keep4)
structure HouseOk (h : House) : Prop where
  h1 : 1 ≤ h.hands
  h3 : h.hands ≤ 3
  pl : ∀ n, h.places = some n → n ≤ 6
  rl : h.rule ∈ words8
def begunIn (st : List Person) : Nat := (st.filter (·.begun)).length
structure PersonOk (p : Person) : Prop where
  rk : p.rank < 2
  l1 : 1 ≤ p.left
  l6 : p.left ≤ 6
structure StandOk (h : House) (most : Nat) (st : List Person) : Prop where
  len : st.length ≤ most
  pl : ∀ n, h.places = some n → st.length ≤ n
  all : ∀ p ∈ st, PersonOk p
  bg : begunIn st ≤ if h.keeps then h.hands else 0
section
variable {K : PySem.W.Frag} {H : Hp} {v : V}
theorem tdOpt (o : Option Nat) : TD K H (optV o) (optD o) := by
  cases o with
  | none => exact .non
  | some n => exact .int n
theorem TD.toOpt {o : Option Nat} (h : TD K H v (optD o)) : v = optV o := by
  cases o with
  | none => exact h.toNon
  | some n => exact h.toInt
theorem TDs.nil' {vs : List V} (h : TDs K H vs []) : vs = [] := by cases h; rfl
theorem TDs.cons' {vs : List V} {d : PyData} {ds : List PyData} (h : TDs K H vs (d :: ds)) : ∃ v r, vs = v :: r ∧ TD K H v d ∧ TDs K H r ds := by
  cases h with
  | cons a b => exact ⟨_, _, rfl, a, b⟩
theorem TD.three {a b c : PyData} (h : TD K H v (.tuple [a, b, c])) : ∃ t x y z, v = .ref t ∧ SqT K H t [x, y, z] ∧ TD K H x a ∧ TD K H y b ∧ TD K H z c := by
  obtain ⟨t, xs, rfl, ht, h⟩ := h.ref
  obtain ⟨x, r, rfl, h1, h⟩ := h.cons'
  obtain ⟨y, r, rfl, h2, h⟩ := h.cons'
  obtain ⟨z, r, rfl, h3, h⟩ := h.cons'
  obtain rfl := h.nil'
  exact ⟨t, x, y, z, rfl, ht, h1, h2, h3⟩
theorem TD.two {a b : PyData} (h : TD K H v (.tuple [a, b])) : ∃ t x y, v = .ref t ∧ SqT K H t [x, y] ∧ TD K H x a ∧ TD K H y b := by
  obtain ⟨t, xs, rfl, ht, h⟩ := h.ref
  obtain ⟨x, r, rfl, h1, h⟩ := h.cons'
  obtain ⟨y, r, rfl, h2, h⟩ := h.cons'
  obtain rfl := h.nil'
  exact ⟨t, x, y, rfl, ht, h1, h2⟩
theorem TD.house {h : House} (e : TD K H v h.d) : ∃ t, v = .ref t ∧ SqT K H t [.int h.hands, optV h.places, .str h.rule] := by
  obtain ⟨t, x, y, z, rfl, ht, h1, h2, h3⟩ := e.three
  rw [h1.toInt, h2.toOpt, h3.toStr] at ht
  exact ⟨t, rfl, ht⟩
theorem TD.mkHouse {h : House} {t : Addr} (e : SqT K H t [.int h.hands, optV h.places, .str h.rule]) : TD K H (.ref t) h.d :=
  .tup e (.cons (.int _) (.cons (tdOpt _) (.cons (.str _) .nil)))
theorem TD.person {p : Person} (e : TD K H v p.d) : ∃ t, v = .ref t ∧ SqT K H t [.int p.rank, .int p.left, .bl p.begun] := by
  obtain ⟨t, x, y, z, rfl, ht, h1, h2, h3⟩ := e.three
  rw [h1.toInt, h2.toInt, h3.toBl] at ht
  exact ⟨t, rfl, ht⟩
theorem TD.mkPerson {p : Person} {t : Addr} (e : SqT K H t [.int p.rank, .int p.left, .bl p.begun]) : TD K H (.ref t) p.d :=
  .tup e (.cons (.int _) (.cons (.int _) (.cons (.bl _) .nil)))
theorem TD.stand {st : List Person} (e : TD K H v (standD st)) : ∃ t xs, v = .ref t ∧ SqT K H t xs ∧ TDs K H xs (st.map Person.d) := e.ref
theorem TDs.person {st : List Person} {xs : List V} {i : Nat} {x : V} (e : TDs K H xs (st.map Person.d)) (h : xs[i]? = some x) : ∃ p, st[i]? = some p ∧ TD K H x p.d := by
  obtain ⟨d, h1, h2⟩ := e.get h
  rw [List.getElem?_map] at h1
  cases q : st[i]? with
  | none => rw [q] at h1; cases h1
  | some p => rw [q] at h1; cases h1; exact ⟨p, rfl, h2⟩
theorem TDs.lenMap {α : Type} {f : α → PyData} {st : List α} {xs : List V} (e : TDs K H xs (st.map f)) : xs.length = st.length := by rw [e.length, List.length_map]
theorem TDs.of {α : Type} {f : α → PyData} {st : List α} {xs : List V} {i : Nat} {x : V} (e : TDs K H xs (st.map f)) (h : xs[i]? = some x) : ∃ p, st[i]? = some p ∧ TD K H x (f p) := by
  obtain ⟨d, h1, h2⟩ := e.get h
  rw [List.getElem?_map] at h1
  cases q : st[i]? with
  | none => rw [q] at h1; cases h1
  | some p => rw [q] at h1; cases h1; exact ⟨p, rfl, h2⟩
end
theorem atI_of {xs : List V} {n : Int} (h0 : 0 ≤ n) (h1 : n < xs.length) : ∃ h : n.toNat < xs.length, atI xs n = some xs[n.toNat] := by
  have h : n.toNat < xs.length := by omega
  refine ⟨h, ?_⟩
  have e := atI_nat (xs := xs) (j := n.toNat) (v := xs[n.toNat]) (List.getElem?_eq_getElem h)
  rwa [Int.toNat_of_nonneg h0] at e
theorem atI_strs {ws : List Str} {n : Int} (h0 : 0 ≤ n) (h1 : n < ws.length) : ∃ w ∈ ws, atI (ws.map V.str) n = some (.str w) := by
  obtain ⟨h, e⟩ := atI_of (xs := ws.map V.str) h0 (by rw [List.length_map]; exact h1)
  rw [List.getElem_map] at e
  exact ⟨_, List.getElem_mem _, e⟩
theorem atI_ints {ws : List Int} {n : Int} (h0 : 0 ≤ n) (h1 : n < ws.length) : ∃ w ∈ ws, atI (ws.map V.int) n = some (.int w) := by
  obtain ⟨h, e⟩ := atI_of (xs := ws.map V.int) h0 (by rw [List.length_map]; exact h1)
  rw [List.getElem_map] at e
  exact ⟨_, List.getElem_mem _, e⟩
theorem filterSet : ∀ (bs : List Bool) (j : Nat), ((bs.set j true).filter id).length ≤ (bs.filter id).length + 1
  | [], j => by simp
  | x :: r, 0 => by
    cases x <;> simp
  | x :: r, j + 1 => by
    have ih := filterSet r j
    cases x <;> simp [List.filter_cons] <;> omega
theorem begunMap (st : List Person) : begunIn st = ((st.map (·.begun)).filter id).length := by
  unfold begunIn
  induction st with
  | nil => rfl
  | cons p r ih =>
    rw [List.map_cons, List.filter_cons, List.filter_cons]
    cases p.begun <;> simp [ih]
def workOf (st : List Person) : Nat := (st.map (·.left)).sum
theorem sumCast {α : Type} (f : α → Nat) (l : List α) : (l.map fun p => ((f p : Nat) : Int)).sum = ((l.map f).sum : Nat) := by
  induction l with
  | nil => rfl
  | cons x r ih => rw [List.map_cons, List.sum_cons, ih, List.map_cons, List.sum_cons, Int.natCast_add]
structure Comer where
  rank : Nat
  work : Nat
deriving DecidableEq
def Comer.d (c : Comer) : PyData := .tuple [.int c.rank, .int c.work]
def beatD (b : List Comer) : PyData := .tuple (b.map Comer.d)
def Comer.p (c : Comer) : Person := ⟨c.rank, c.work, false⟩
structure ComerOk (c : Comer) : Prop where
  rk : c.rank < 2
  w1 : 1 ≤ c.work
  w6 : c.work ≤ 6
/-- of i comers how many are let in, where n persons stand ahead -/
def cap (pl : Option Nat) (n i : Nat) : Nat := match pl with
  | none => i
  | some m => min i (m - n)
theorem cap_le (pl : Option Nat) (n i : Nat) : cap pl n i ≤ i := by
  cases pl with
  | none => exact Nat.le_refl _
  | some m => exact Nat.min_le_left _ _
/-- the stand behind a beat's comers, and how many are lost -/
def letIn (pl : Option Nat) (st : List Person) (bt : List Comer) : List Person × Nat :=
  (st ++ (bt.take (cap pl st.length bt.length)).map Comer.p, bt.length - cap pl st.length bt.length)
section
variable {K : PySem.W.Frag} {H : Hp} {v : V}
theorem TD.comer {p : Comer} (e : TD K H v p.d) : ∃ t, v = .ref t ∧ SqT K H t [.int p.rank, .int p.work] := by
  obtain ⟨t, x, y, rfl, ht, h1, h2⟩ := e.two
  rw [h1.toInt, h2.toInt] at ht
  exact ⟨t, rfl, ht⟩
theorem TD.mkComer {p : Comer} {t : Addr} (e : SqT K H t [.int p.rank, .int p.work]) : TD K H (.ref t) p.d := .tup e (.cons (.int _) (.cons (.int _) .nil))
end
end Hw
/-! What can be shown: data whose text has room. -/
namespace Hw
open PySem PySem.Spec PyProof.Rows L2
/-- data without dicts, at most dp deep, of weight at most n, its numbers of at most 220 signs -/
structure Sh (dp n : Nat) (d : PyData) : Prop where
  s : d.showable = true
  nd : d.hasDict = false
  dep : d.depth ≤ dp
  lv : d.leavesShort 220 = true
  wt : d.weight ≤ n
structure ShAll (dp n : Nat) (ds : List PyData) : Prop where
  s : PyData.showableAll ds = true
  nd : PyData.hasDictAll ds = false
  dep : PyData.depthAll ds ≤ dp
  lv : PyData.leavesShortAll 220 ds = true
  wt : PyData.weightAll ds ≤ n
section
variable {dp n m : Nat} {d : PyData} {ds : List PyData}
theorem Sh.mono {dp' n' : Nat} (h : Sh dp n d) (h1 : dp ≤ dp') (h2 : n ≤ n') : Sh dp' n' d := ⟨h.s, h.nd, Nat.le_trans h.dep h1, h.lv, Nat.le_trans h.wt h2⟩
theorem Sh.non : Sh dp n .none := ⟨rfl, rfl, Nat.zero_le _, rfl, Nat.zero_le _⟩
theorem Sh.bl (b : Bool) : Sh dp n (.bool b) := ⟨rfl, rfl, Nat.zero_le _, rfl, Nat.zero_le _⟩
theorem Sh.int {i : Int} (h : i.natAbs < 10 ^ 12) : Sh dp 40 (.int i) := by
  have hl : i.natAbs.log2 < 40 ∨ i.natAbs = 0 := by
    by_cases z : i.natAbs = 0
    · exact .inr z
    · exact .inl ((Nat.log2_lt z).mpr (by omega))
  refine ⟨?_, rfl, Nat.zero_le _, ?_, ?_⟩
  · show decide (i.natAbs.log2 < 1920) = true
    refine decide_eq_true ?_
    rcases hl with z | z
    · omega
    · rw [z]; decide
  · show decide ((PyData.shown (.int i)).length ≤ 220) = true
    exact decide_eq_true (Nat.le_trans (PyData.shown_int_le h) (by decide))
  · show (if i == 0 then 0 else i.natAbs.log2 + 1) ≤ 40
    split
    · exact Nat.zero_le _
    · rename_i z
      rcases hl with y | y
      · omega
      · exact absurd (Int.natAbs_eq_zero.mp y) (by simpa using z)
theorem Sh.str {x : Str} (h : x.cps.toList.all (fun c => decide (c < 16 ^ 8)) = true) : Sh dp x.cps.size (.str x) := ⟨rfl, rfl, Nat.zero_le _, h, Nat.le_refl _⟩
theorem ShAll.nil : ShAll dp n [] := ⟨rfl, rfl, Nat.zero_le _, rfl, Nat.zero_le _⟩
theorem ShAll.cons (h : Sh dp n d) (r : ShAll dp m ds) : ShAll dp (n + 1 + m) (d :: ds) :=
  ⟨by rw [PyData.showableAll, h.s, r.s]; rfl, by rw [PyData.hasDictAll, h.nd, r.nd]; rfl, by rw [PyData.depthAll]; exact Nat.max_le.mpr ⟨h.dep, r.dep⟩,
    by rw [PyData.leavesShortAll, h.lv, r.lv]; rfl, by rw [PyData.weightAll]; have := h.wt; have := r.wt; omega⟩
theorem ShAll.of : ∀ {ds : List PyData}, (∀ x ∈ ds, Sh dp n x) → ShAll dp (ds.length * (n + 1)) ds
  | [], _ => .nil
  | d :: r, h => by
    have e : (d :: r).length * (n + 1) = n + 1 + r.length * (n + 1) := by rw [List.length_cons, Nat.add_mul, Nat.one_mul, Nat.add_comm]
    rw [e]
    exact .cons (h d List.mem_cons_self) (ShAll.of fun x hx => h x (List.mem_cons_of_mem _ hx))
theorem Sh.tup (h : ShAll dp n ds) : Sh (dp + 1) n (.tuple ds) := ⟨h.s, h.nd, Nat.succ_le_succ h.dep, h.lv, h.wt⟩
theorem Sh.lst (h : ShAll dp n ds) : Sh (dp + 1) n (.list ds) := ⟨h.s, h.nd, Nat.succ_le_succ h.dep, h.lv, h.wt⟩
theorem Sh.room (h : Sh dp n d) (hn : n ≤ 70000) : d.shown.length ≤ sizeLine := by
  have h1 := PyData.shown_le 220 (by decide) d h.lv
  have h2 : (220 + 2) * d.weight ≤ 222 * 70000 := Nat.mul_le_mul (by decide) (Nat.le_trans h.wt hn)
  rw [sizeLine_eq]
  omega
end
theorem sReprS {K : PySem.W.Frag} {H : Hp} {Q : VK} {v : V} {d : PyData} {dp n : Nat} (h : Dp K H v d) (s : Sh dp n d) (h1 : dp ≤ 100) (h2 : n ≤ 70000) (q : Q (.str d.shown) H) : rRepr K [v] H Q :=
  sRepr h s.s s.nd (Nat.le_trans s.dep h1) (s.room h2) q
theorem shWord {w : Str} (h : w ∈ words8) : Sh 0 8 (.str w) := by
  have e : ∀ w ∈ words8, w.cps.toList.all (fun c => decide (c < 16 ^ 8)) = true ∧ w.cps.size ≤ 8 := by decide +kernel
  exact (Sh.str (e w h).1).mono (Nat.le_refl _) (e w h).2
theorem shHouse {h : House} (k : HouseOk h) : Sh 1 92 h.d := by
  refine (Sh.tup (dp := 0) (.cons (Sh.int ?_) (.cons (n := 40) ?_ (.cons (shWord k.rl) (.nil (n := 0)))))).mono (by omega) (by omega)
  · have := k.h3; omega
  · cases e : h.places with
    | none => exact Sh.non
    | some n => exact Sh.int (by have := k.pl n e; omega)
theorem shPerson {p : Person} (k : PersonOk p) : Sh 1 123 p.d := by
  refine (Sh.tup (dp := 0) (.cons (Sh.int ?_) (.cons (Sh.int ?_) (.cons (n := 40) (Sh.bl _) (.nil (n := 0)))))).mono (by omega) (by omega)
  · have := k.rk; omega
  · have := k.l6; omega
theorem shStand {st : List Person} (k : ∀ p ∈ st, PersonOk p) : Sh 2 (st.length * 124) (standD st) := by
  have := ShAll.of (dp := 1) (n := 123) (ds := st.map Person.d) (fun x hx => by
    obtain ⟨p, hp, rfl⟩ := List.mem_map.mp hx
    exact shPerson (k p hp))
  rw [List.length_map] at this
  exact .tup this
theorem shNats {ns : List Nat} (k : ∀ n ∈ ns, n < 10 ^ 12) : Sh 1 (ns.length * 41) (.tuple (ns.map fun n : Nat => PyData.int n)) := by
  have := ShAll.of (dp := 0) (n := 40) (ds := ns.map fun n : Nat => PyData.int n) (fun x hx => by
    obtain ⟨p, hp, rfl⟩ := List.mem_map.mp hx
    exact Sh.int (by have := k p hp; omega))
  rw [List.length_map] at this
  exact .tup this
end Hw
/-! sorted and < of data of tuples; who is picked. -/
namespace Hw
open PySem PySem.Spec PyProof.Rows L2
section
variable {K : PySem.W.Frag} {H : Hp}
theorem eachOf {β : Type} {enc : β → PyData} : ∀ {bs : List β} {xs : List V} {us : List Value}, Vals xs us → TDs K H xs (bs.map enc) →
    PySem.W.EachIs (fun u b => ∃ v, RelV v u ∧ TD K H v (enc b)) us bs
  | [], _, _, r, h => by
    have e := h.nil'
    subst e
    cases r
    exact .nil
  | b :: bs, _, _, r, h => by
    obtain ⟨v, q, rfl, h1, h2⟩ := h.cons'
    cases r with
    | cons r1 r2 => exact .cons ⟨v, r1, h1⟩ (eachOf r2 h2)
theorem eachBack {β : Type} {enc : β → PyData} : ∀ {us : List Value} {bs : List β}, PySem.W.EachIs (fun u b => ∃ v, RelV v u ∧ TD K H v (enc b)) us bs → ∃ ys, Vals ys us ∧ TDs K H ys (bs.map enc)
  | _, _, .nil => ⟨[], .nil, .nil⟩
  | _, _, .cons ⟨v, r, h⟩ t => by
    obtain ⟨ys, h1, h2⟩ := eachBack t
    exact ⟨v :: ys, .cons r h1, .cons h h2⟩
/-- sorted(xs) of data of tuples -/
def rSortD (K : PySem.W.Frag) : List V → Hp → VK → Prop := fun vs H Q =>
  ∃ (a : Addr) (xs : List V) (β : Type) (enc : β → PyData) (bs : List β), vs = [.ref a] ∧ SqL K H a xs ∧ TDs K H xs (bs.map enc) ∧ PySem.W.AllAlike (bs.map enc) ∧ PySem.W.Sortable (bs.map enc) ∧ (∀ b ∈ bs, (enc b).depth ≤ 60) ∧
    ∀ p H' ys, Kp Non H H' → H p = none → H' p = some (.lst ys) → TDs K H' ys ((bs.mergeSort (PySem.W.dataLe false enc)).map enc) → Q (.ref p) H'
theorem cr_sortD {X : Cx} (hu : X.A.units + 160 < cLine) : CallR X (.builtin "sorted") (rSortD X.K) := by
  intro pins s σ H vs us Q I r ⟨a, xs, β, enc, bs, e, hs, hd, hal, hk, hdp, q⟩
  subst e
  obtain ⟨its, rv, hl, hz⟩ := I.list hs
  obtain ⟨u, rfl, ru⟩ := vals1 r
  obtain rfl : u = Value.ref a := ru
  have ea := eachOf rv hd
  have len : xs.length = bs.length := by rw [hd.length, List.length_map]
  refine PySem.W.sorted_data hl.isList ea (ea.mono fun u b ⟨v, r, h⟩ => Dp.reads I _ _ _ h.dp r) hal hk (by rw [← len]; exact hz) (fun b hb => by have := hdp b hb; omega) fun out ho eo => ?_
  obtain ⟨ys, h1, h2⟩ := eachBack eo
  have hn : H (s.heap.objs.size + 1) = none := I.hok.fresh (Nat.le_succ _)
  refine ⟨.ref (s.heap.objs.size + 1), upd H (s.heap.objs.size + 1) (.lst ys), I.laid (t' := s.toks) (fun b o e => sortedAll_old e) (Nat.le_succ _) ⟨?_, out, ?_⟩, rfl, q _ _ ys (Kp.new hn) hn upd_same (h2.kp (Kp.new (S := Non) hn))⟩
  · rw [h1.length, ho, ← len]; exact hz
  · obtain ⟨n, hn2⟩ := sortedAll_at s.heap its out.toArray
    exact ⟨n, h1, hn2⟩
theorem sSortD {β : Type} (enc : β → PyData) (bs : List β) {a : Addr} {xs : List V} {Q : VK} (hs : SqL K H a xs) (hd : TDs K H xs (bs.map enc)) (hal : PySem.W.AllAlike (bs.map enc)) (hk : PySem.W.Sortable (bs.map enc)) (hdp : ∀ b ∈ bs, (enc b).depth ≤ 60)
    (q : ∀ p H' ys, Kp Non H H' → H p = none → H' p = some (.lst ys) → TDs K H' ys ((bs.mergeSort (PySem.W.dataLe false enc)).map enc) → Q (.ref p) H') : rSortD K [.ref a] H Q :=
  ⟨a, xs, β, enc, bs, rfl, hs, hd, hal, hk, hdp, q⟩
/-- sorted(xs) of whole numbers -/
theorem sSortN (ns : List Nat) {a : Addr} {xs : List V} {Q : VK} (hs : SqL K H a xs) (hd : TDs K H xs (ns.map fun n : Nat => PyData.int n))
    (q : ∀ p H' ys, Kp Non H H' → H p = none → H' p = some (.lst ys) → TDs K H' ys ((ns.mergeSort fun a b => decide (a ≤ b)).map fun n : Nat => PyData.int n) → Q (.ref p) H') : rSortD K [.ref a] H Q :=
  sSortD (fun n : Nat => PyData.int n) ns hs hd (PySem.W.AllAlike.of fun b b' => by simp [PySem.W.alike]) (PySem.W.Sortable.others fun b => ⟨(fun h => nomatch h), (fun xs h => nomatch h)⟩) (fun b _ => Nat.zero_le _) fun p H' ys k n e h => by
    have q := q p H' ys k n e
    refine q ?_
    rw [PySem.W.dataLe_int (fun n : Nat => (n : Int))] at h
    simpa using h
end
/-! ### the order of a rule -/
def key2 (rule : Str) (p : Person) (i : Nat) : Int × Int :=
  if rule = "front" ∨ rule = "frontoff" then (p.rank, i) else if rule = "short" ∨ rule = "shortoff" then (p.left, i) else if rule = "last" ∨ rule = "lastoff" then (0 - i, 0) else (i, 0)
/-- whether i goes ahead of j -/
def aheadOf (rule : Str) (st : List Person) (i j : Nat) : Bool := match st[i]?, st[j]? with
  | some p, some q => if p.begun ≠ q.begun then p.begun else decide ((key2 rule p i).1 < (key2 rule q j).1 ∨ ((key2 rule p i).1 = (key2 rule q j).1 ∧ (key2 rule p i).2 < (key2 rule q j).2))
  | _, _ => false
/-- who is picked: those ahead of whom there are fewer than hands -/
def picks (hands : Nat) (rule : Str) (st : List Person) : List Nat :=
  (List.range st.length).filter fun i => decide (((List.range st.length).filter fun j => aheadOf rule st j i).length < hands)
def keyD (rule : Str) (p : Person) (i : Nat) : PyData := .tuple [.tuple [.int (if p.begun then 0 else 1), .int (key2 rule p i).1, .int (key2 rule p i).2], .int i]
theorem takeRank {α : Type} [DecidableEq α] (lt : α → α → Bool) (irr : ∀ a, lt a a = false) (asy : ∀ a b, lt a b = true → lt b a = false) : ∀ (M : List α), M.Pairwise (fun a b => lt a b = true) → ∀ (p : α), p ∈ M → ∀ k,
    (p ∈ M.take k ↔ (M.filter fun q => lt q p).length < k)
  | [], _, p, hp, _ => by cases hp
  | x :: r, h, p, hp, k => by
    obtain ⟨h1, h2⟩ := List.pairwise_cons.mp h
    cases k with
    | zero => simp
    | succ k =>
      rw [List.take_succ_cons, List.mem_cons]
      rcases List.mem_cons.mp hp with rfl | hp
      · have e : (p :: r).filter (fun q => lt q p) = [] := by
          rw [List.filter_eq_nil_iff]
          intro q hq
          rcases List.mem_cons.mp hq with rfl | hq
          · rw [irr]; decide
          · rw [asy _ _ (h1 q hq)]; decide
        rw [e]
        simp
      · have hx := h1 p hp
        have ne : p ≠ x := fun z => by rw [z, irr] at hx; cases hx
        rw [List.filter_cons_of_pos (by exact hx), List.length_cons]
        have := takeRank lt irr asy r h2 p hp k
        constructor
        · rintro (z | z)
          · exact absurd z ne
          · have := this.mp z; omega
        · intro z
          exact .inr (this.mpr (by omega))
abbrev LexP (b b' x x' y y' : Int) (i j : Nat) : Prop := b < b' ∨ (b = b' ∧ (x < x' ∨ (x = x' ∧ (y < y' ∨ (y = y' ∧ i < j)))))
theorem beqD (x y : Int) : (x == y) = decide (x = y) := by
  rw [Bool.eq_iff_iff]
  simp
theorem eqv_ints (x y : Int) : PyData.eqv (.int x) (.int y) = decide (x = y) := by
  simp [PyData.eqv, beqD]
theorem dataLt_key (b b' x x' y y' : Int) (i j : Nat) :
    PySem.W.dataLt (.tuple [.tuple [.int b, .int x, .int y], .int i]) (.tuple [.tuple [.int b', .int x', .int y'], .int j]) = decide (LexP b b' x x' y y' i j) := by
  have al : ∀ u v : Int, PySem.W.alike (.int u) (.int v) = true := fun u v => by simp [PySem.W.alike]
  rw [PySem.W.dataLt_pair (by simp [PySem.W.alike, PySem.W.alikeAll]) (al _ _), PySem.W.dataLt_tuple, PySem.W.dataLt_cons (al _ _), PySem.W.dataLt_cons (al _ _), PySem.W.dataLt_cons (al _ _),
    PySem.W.dataLt_int, PySem.W.dataLt_int, PySem.W.dataLt_int, PySem.W.dataLt_int, eqv_ints, eqv_ints, eqv_ints, eqv_ints]
  have e : PyData.eqv (.tuple [.int b, .int x, .int y]) (.tuple [.int b', .int x', .int y']) = decide (b = b' ∧ x = x' ∧ y = y') := by
    simp [PyData.eqv, PyData.eqvAll, beqD]
  have e0 : PyProof.Rows.lexLt itemOrd (PySem.W.keyToksAll []) (PySem.W.keyToksAll []) = false := lex_irrefl _
  rw [e, e0]
  unfold LexP
  by_cases h1 : b = b'
  · by_cases h2 : x = x'
    · by_cases h3 : y = y'
      · subst h1 h2 h3
        by_cases h4 : i = j
        · subst h4; simp
        · have h5 : ¬ ((i : Int) = j) := by omega
          simp [h5]
      · subst h1 h2
        simp [h3]
    · subst h1
      simp [h2]
  · simp [h1]
def bn (p : Person) : Int := if p.begun then 0 else 1
theorem ltKey (rule : Str) (p q : Person) (i j : Nat) : PySem.W.dataLt (keyD rule p i) (keyD rule q j) = decide (LexP (bn p) (bn q) (key2 rule p i).1 (key2 rule q j).1 (key2 rule p i).2 (key2 rule q j).2 i j) := dataLt_key _ _ _ _ _ _ _ _
abbrev p0 : Person := ⟨0, 0, false⟩
def ltN (rule : Str) (st : List Person) (i j : Nat) : Bool := PySem.W.dataLt (keyD rule (st.getD i p0) i) (keyD rule (st.getD j p0) j)
theorem ltN_irr (rule : Str) (st : List Person) (i : Nat) : ltN rule st i i = false := by
  unfold ltN
  rw [ltKey]
  refine decide_eq_false fun h => ?_
  unfold LexP at h
  omega
theorem ltN_asy (rule : Str) (st : List Person) (i j : Nat) (h : ltN rule st i j = true) : ltN rule st j i = false := by
  unfold ltN at h ⊢
  rw [ltKey, decide_eq_true_eq] at h
  rw [ltKey]
  refine decide_eq_false fun z => ?_
  unfold LexP at h z
  omega
theorem ltN_tot (rule : Str) (st : List Person) (i j : Nat) (n : i ≠ j) (h : ltN rule st j i = false) : ltN rule st i j = true := by
  unfold ltN at h ⊢
  rw [ltKey, decide_eq_false_iff_not] at h
  rw [ltKey, decide_eq_true_eq]
  unfold LexP at h ⊢
  omega
theorem key2_inj (rule : Str) (p q : Person) (i j : Nat) (h1 : (key2 rule p i).1 = (key2 rule q j).1) (h2 : (key2 rule p i).2 = (key2 rule q j).2) : i = j := by
  unfold key2 at h1 h2
  split at h1
  · rename_i c
    rw [if_pos c, if_pos c] at h2
    exact Int.ofNat.inj h2
  · rename_i c
    rw [if_neg c, if_neg c] at h2
    split at h1
    · rename_i c2
      rw [if_pos c2, if_pos c2] at h2
      exact Int.ofNat.inj h2
    · split at h1
      · have h1 : (0 : Int) - i = 0 - j := h1
        omega
      · exact Int.ofNat.inj h1
theorem ahead_ltN (rule : Str) (st : List Person) (i j : Nat) (hi : i < st.length) (hj : j < st.length) : aheadOf rule st i j = ltN rule st i j := by
  unfold aheadOf ltN
  rw [ltKey, List.getElem?_eq_getElem hi, List.getElem?_eq_getElem hj, List.getD_eq_getElem?_getD, List.getD_eq_getElem?_getD, List.getElem?_eq_getElem hi, List.getElem?_eq_getElem hj]
  dsimp only [Option.getD_some]
  generalize st[i] = p
  generalize st[j] = q
  have inj := key2_inj rule p q i j
  unfold LexP bn
  rcases Bool.eq_false_or_eq_true p.begun with h1 | h1 <;> rcases Bool.eq_false_or_eq_true q.begun with h2 | h2 <;> simp only [h1, h2, ne_eq, not_true_eq_false, if_false, if_true, Bool.false_eq_true, not_false_eq_true, Bool.true_eq_false]
  · refine decide_eq_decide.mpr ⟨fun z => .inr ⟨trivial, by omega⟩, fun z => ?_⟩
    by_cases e1 : (key2 rule p i).1 = (key2 rule q j).1
    · by_cases e2 : (key2 rule p i).2 = (key2 rule q j).2
      · have := inj e1 e2
        omega
      · omega
    · omega
  · simp
  · simp
  · refine decide_eq_decide.mpr ⟨fun z => .inr ⟨trivial, by omega⟩, fun z => ?_⟩
    by_cases e1 : (key2 rule p i).1 = (key2 rule q j).1
    · by_cases e2 : (key2 rule p i).2 = (key2 rule q j).2
      · have := inj e1 e2
        omega
      · omega
    · omega
theorem filterCongr {α : Type} {f g : α → Bool} : ∀ {l : List α}, (∀ x ∈ l, f x = g x) → l.filter f = l.filter g
  | [], _ => rfl
  | x :: r, h => by
    rw [List.filter_cons, List.filter_cons, h x List.mem_cons_self, filterCongr fun y hy => h y (List.mem_cons_of_mem _ hy)]
/-- the first ones in line, in the order of places, are those who are picked -/
theorem picks_sorted (hands : Nat) (rule : Str) (st : List Person) :
    (((List.range st.length).mergeSort (PySem.W.dataLe false fun i => keyD rule (st.getD i p0) i)).take hands).mergeSort (fun a b => decide (a ≤ b)) = picks hands rule st := by
  have le_eq : ∀ a b, PySem.W.dataLe false (fun i => keyD rule (st.getD i p0) i) a b = !ltN rule st b a := fun a b => rfl
  generalize hM : (List.range st.length).mergeSort (PySem.W.dataLe false fun i => keyD rule (st.getD i p0) i) = M
  have perm : M.Perm (List.range st.length) := by rw [← hM]; exact List.mergeSort_perm _ _
  have nd : M.Nodup := perm.nodup_iff.mpr List.nodup_range
  have pw : M.Pairwise fun a b => ltN rule st a b = true := by
    have h1 : M.Pairwise fun a b => PySem.W.dataLe false (fun i => keyD rule (st.getD i p0) i) a b = true := by
      rw [← hM]
      refine List.pairwise_mergeSort (fun a b c h1 h2 => ?_) (fun a b => ?_) _
      · rw [le_eq] at h1 h2 ⊢
        rw [Bool.not_eq_true'] at h1 h2 ⊢
        unfold ltN at h1 h2 ⊢
        rw [ltKey, decide_eq_false_iff_not] at h1 h2 ⊢
        unfold LexP at h1 h2 ⊢
        omega
      · rw [le_eq, le_eq]
        cases h : ltN rule st b a with
        | false => rfl
        | true => rw [ltN_asy _ _ _ _ h]; rfl
    refine (List.Pairwise.and h1 nd).imp fun {a b} h => ?_
    obtain ⟨h1, h2⟩ := h
    rw [le_eq, Bool.not_eq_true'] at h1
    exact ltN_tot _ _ _ _ h2 h1
  have mem : ∀ p, p ∈ M.take hands ↔ p ∈ picks hands rule st := by
    intro p
    unfold picks
    rw [List.mem_filter, decide_eq_true_eq]
    have cnt : p < st.length → ((List.range st.length).filter fun j => aheadOf rule st j p).length = (M.filter fun q => ltN rule st q p).length := by
      intro hp
      rw [filterCongr (g := fun q => ltN rule st q p) fun x hx => ahead_ltN rule st x p (List.mem_range.mp hx) hp]
      exact ((perm.filter _).length_eq).symm
    constructor
    · intro h
      have hm : p ∈ M := List.mem_of_mem_take h
      have hr := perm.mem_iff.mp hm
      refine ⟨hr, ?_⟩
      rw [cnt (List.mem_range.mp hr)]
      exact (takeRank (ltN rule st) (ltN_irr _ _) (fun a b => ltN_asy _ _ a b) M pw p hm hands).mp h
    · rintro ⟨hr, h⟩
      rw [cnt (List.mem_range.mp hr)] at h
      exact (takeRank (ltN rule st) (ltN_irr _ _) (fun a b => ltN_asy _ _ a b) M pw p (perm.mem_iff.mpr hr) hands).mpr h
  have pr : (M.take hands).Perm (picks hands rule st) :=
    (List.perm_ext_iff_of_nodup (nd.sublist (List.take_sublist _ _)) (List.nodup_range.sublist List.filter_sublist)).mpr mem
  refine List.Perm.eq_of_pairwise (le := (· ≤ ·)) (fun a b _ _ h1 h2 => Nat.le_antisymm h1 h2) ?_ ?_ ((List.mergeSort_perm _ _).trans pr)
  · have := List.pairwise_mergeSort (le := fun a b : Nat => decide (a ≤ b)) (fun a b c h1 h2 => by simp at *; omega) (fun a b => by simp; omega) (M.take hands)
    exact this.imp fun {a b} h => by simpa using h
  · exact (List.pairwise_lt_range (n := st.length)).filter _ |>.imp fun {a b} h => Nat.le_of_lt h
theorem picks_length (hands : Nat) (rule : Str) (st : List Person) : (picks hands rule st).length = min hands st.length := by
  rw [← picks_sorted, List.length_mergeSort, List.length_take, List.length_mergeSort, List.length_range]
theorem picks_lt {hands : Nat} {rule : Str} {st : List Person} {i : Nat} (h : i ∈ picks hands rule st) : i < st.length := List.mem_range.mp (List.mem_filter.mp h).1
end Hw
namespace Hw
open PySem PySem.Spec PyProof.Rows L2
local macro_rules | `(tactic| walk_at "rd1") => `(tactic| with_reducible first
  | refine' sSeq ?_ | refine' sAsg ?_ | refine' sRet ?_ | refine' sIfS ?_ | refine' sDrop ?_ | refine' sNext ?_ | refine' sRetN ?_ | refine' sBreak ?_ | refine' sCont ?_
  | (refine' sVar ?e ?_; (case e => with_unfolding_all rfl)) | refine' sC ?_ | refine' sOp ?_ | refine' sUn ?_ | refine' sU ?_ | refine' sI0 ?_
  | refine' sEqI ?_ | refine' sNeI ?_ | refine' sEqS ?_ | refine' sNeS ?_ | refine' sEqB ?_ | refine' sNeB ?_
  | (refine' sI ?c ?_; (case c => first | assumption | (with_unfolding_all decide) | (with_unfolding_all exact ⟨by omega, by omega⟩) | (show _ ≠ (0 : Int); omega)))
  | refine' sCB ?_ | refine' sCons ?_ | refine' sNil ?_ | refine' sTest ?_ | refine' sB ?_ | refine' sBl ?_
  | refine' sAnd ?_ | refine' sOr ?_ | refine' sNot ?_ | refine' sAndV ?_ | refine' sOrV ?_ | refine' sNotV ?_ | refine' sIf ?_ | refine' sName ?_
  | refine' sDPut' ?_ | refine' sDGet ?_ | refine' sPar3 ?_ | refine' sPar ?_ | refine' sThree ?_ | refine' sTwo ?_ | refine' sSl ?_ | refine' sPart ?_ | refine' sNoPart ?_ | refine' sInt ?_
  | refine' sIsN ?_ | refine' sNotN ?_ | refine' sMin ?_ | refine' sMax ?_ | refine' sTupG ?_ | refine' sLstG ?_ | refine' sLcL ?_ | refine' sLcT ?_ | refine' sLcR ?_ | refine' sForL ?_ | refine' sForT ?_ | refine' sForR ?_ | refine' sYes ?_ | refine' sBM ?_ | refine' sBM0 ?_ | (refine' sTy ?h ?_; (case h => assumption)) | refine' sRevT ?_ | refine' sGCons ?_ | refine' sGNil ?_ | refine' sGSub ?_ | refine' sCall ?_ | refine' iteT ?_ | refine' iteF ?_
  | (refine' sLen ?l ?_; (case l => with_unfolding_all exact Nat.le_of_lt (small1000 (Nat.le_of_ble_eq_true rfl)))))
local macro_rules | `(tactic| walk_at "rd") => `(tactic| repeat walk_at "rd1")
def topS (i : Nat) : Stmt := PySem.Challenge.pw_hatchwaits_k11_who_is_picked.main.body.getD i (.Pass ⟨0, 0, 0, 0⟩)
abbrev s_p_in_hand : Stmt := topS 1
abbrev N_p_in_hand : List Str := ["house", "stand"]
abbrev s_p_turn_of : Stmt := topS 3
abbrev N_p_turn_of : List Str := ["rule", "stand", "place", "rank", "left", "begun", "own"]
abbrev s_p_picked : Stmt := topS 4
abbrev N_p_picked : List Str := ["house", "stand", "hands", "places", "rule", "line", "place", "turn"]
abbrev s_q_feed : Stmt := topS 6
abbrev N_q_feed : List Str := ["_law_script"]
abbrev s_q_draw : Stmt := topS 7
abbrev N_q_draw : List Str := ["_law_feed_here", "_law_many", "_law_found", "_law_cells", "_law_at", "_law_turn", "_law_cell", "_law_mixed"]
abbrev s_q_sooner : Stmt := topS 8
abbrev N_q_sooner : List Str := ["_law_rule", "_law_stand", "_law_one", "_law_other"]
abbrev s_q_picks : Stmt := topS 9
abbrev N_q_picks : List Str := ["_law_house", "_law_stand", "_law_found", "_law_one", "_law_ahead", "_law_other"]
abbrev s_q_people : Stmt := topS 10
abbrev N_q_people : List Str := ["_law_feed_here", "_law_wide", "_law_k"]
abbrev s_q_begun : Stmt := topS 11
abbrev N_q_begun : List Str := ["_law_feed_here", "_law_people_here", "_law_most", "_law_begun_here", "_law_k"]
abbrev s_law : Stmt := topS 12
abbrev N_law : List Str := ["_law_script", "_law_feed_here", "_law_k", "_law_people_here", "_law_hands", "_law_kept_stand", "_law_plain", "_law_places", "_law_word", "_law_stand", "_law_house", "_law_kept", "_law_due"]
structure Txt (K : PySem.W.Frag) (mg : Str → Option Value) where
  f_p_in_hand : Addr
  fd_p_in_hand : FuncData
  F_p_in_hand : Fun K "in_hand" "in_hand" s_p_in_hand f_p_in_hand fd_p_in_hand
  m_p_in_hand : mg "in_hand" = some (.ref f_p_in_hand)
  b_p_in_hand : Binds K fd_p_in_hand ["house", "stand"] []
  f_p_turn_of : Addr
  fd_p_turn_of : FuncData
  F_p_turn_of : Fun K "turn_of" "turn_of" s_p_turn_of f_p_turn_of fd_p_turn_of
  m_p_turn_of : mg "turn_of" = some (.ref f_p_turn_of)
  b_p_turn_of : Binds K fd_p_turn_of ["rule", "stand", "place"] []
  f_p_picked : Addr
  fd_p_picked : FuncData
  F_p_picked : Fun K "picked" "picked" s_p_picked f_p_picked fd_p_picked
  m_p_picked : mg "picked" = some (.ref f_p_picked)
  b_p_picked : Binds K fd_p_picked ["house", "stand"] []
  f_q_feed : Addr
  fd_q_feed : FuncData
  F_q_feed : Fun K "_law_feed" "_law_feed" s_q_feed f_q_feed fd_q_feed
  m_q_feed : mg "_law_feed" = some (.ref f_q_feed)
  b_q_feed : Binds K fd_q_feed ["_law_script"] []
  f_q_draw : Addr
  fd_q_draw : FuncData
  F_q_draw : Fun K "_law_draw" "_law_draw" s_q_draw f_q_draw fd_q_draw
  m_q_draw : mg "_law_draw" = some (.ref f_q_draw)
  b_q_draw : Binds K fd_q_draw ["_law_feed_here", "_law_many"] []
  f_q_sooner : Addr
  fd_q_sooner : FuncData
  F_q_sooner : Fun K "_law_sooner" "_law_sooner" s_q_sooner f_q_sooner fd_q_sooner
  m_q_sooner : mg "_law_sooner" = some (.ref f_q_sooner)
  b_q_sooner : Binds K fd_q_sooner ["_law_rule", "_law_stand", "_law_one", "_law_other"] []
  f_q_picks : Addr
  fd_q_picks : FuncData
  F_q_picks : Fun K "_law_picks" "_law_picks" s_q_picks f_q_picks fd_q_picks
  m_q_picks : mg "_law_picks" = some (.ref f_q_picks)
  b_q_picks : Binds K fd_q_picks ["_law_house", "_law_stand"] []
  f_q_people : Addr
  fd_q_people : FuncData
  F_q_people : Fun K "_law_people" "_law_people" s_q_people f_q_people fd_q_people
  m_q_people : mg "_law_people" = some (.ref f_q_people)
  b_q_people : Binds K fd_q_people ["_law_feed_here"] []
  f_q_begun : Addr
  fd_q_begun : FuncData
  F_q_begun : Fun K "_law_begun" "_law_begun" s_q_begun f_q_begun fd_q_begun
  m_q_begun : mg "_law_begun" = some (.ref f_q_begun)
  b_q_begun : Binds K fd_q_begun ["_law_feed_here", "_law_people_here", "_law_most"] []
  f_law : Addr
  fd_law : FuncData
  F_law : Fun K "law" "law" s_law f_law fd_law
  m_law : mg "law" = some (.ref f_law)
  b_law : Binds K fd_law ["_law_script"] []
  z_min : mg "min" = none
  z_len : mg "len" = none
  z_int : mg "int" = none
  z_tuple : mg "tuple" = none
  z_sorted : mg "sorted" = none
  z_range : mg "range" = none
  z_repr : mg "repr" = none
section
variable {P : Program} {w : World} {K : PySem.W.Frag} {mg : Str → Option Value} {base : Heap}
def sp_p_in_hand (K : PySem.W.Frag) : Sp := fun vs H Q _ => ∃ (hv v : V) (h : House) (st : List Person), vs = [hv, v] ∧ TD K H hv h.d ∧ TD K H v (standD st) ∧ Q (.int (min h.hands st.length : Nat)) H
theorem sc_p_in_hand : FnScope N_p_in_hand ["house", "stand"] (defScope s_p_in_hand) := ⟨rfl, rfl, rfl, by decide +kernel, rfl, by decide +kernel, by decide +kernel⟩
theorem ok_p_in_hand (T : Txt K mg) : FnOk P w K mg base CX0 1 T.f_p_in_hand T.fd_p_in_hand ["house", "stand"] (sp_p_in_hand K) := by
  refine T.F_p_in_hand.ok sc_p_in_hand (fun vs H Q E h => ?_) (fun cdv A out s H vs Q E hr h => ?_)
  · obtain ⟨hv, v, h, st, rfl, hh, hd, q⟩ := h
    rfl
  · obtain ⟨hv, v, h, st, rfl, hh, hd, q⟩ := h
    have hu := hu_of hr
    have hu1 : (A.deeper (envOfC "in_hand" (defScope s_p_in_hand) s.heap.objs.size T.f_p_in_hand cdv)).units + 160 < cLine := by have := hr.un; omega
    refine ⟨_, (pss_one (ps_ret (pe_callB (call_min2G rfl) (by rfl) T.z_min (by decide +kernel) (pa_cons (pe_ix (show IxR _ (rIxT K) from ix_tup) (pv 0) pe_int (fun _ _ => rfl)) (pa_cons (pe_callB (show CallR _ _ (rLenG K) from call_lenG) (by rfl) T.z_len (by decide +kernel) (pa_cons (pv 1) pa_nil)) pa_nil))))), ?_⟩
    obtain ⟨t, rfl, hT⟩ := hh.house
    obtain ⟨u, xs, rfl, hU, hX⟩ := hd.stand
    have hxl := hX.lenMap
    walk_at "rd"
    refine sIxT hT (atI_nat (j := 0) rfl) ?_
    walk_at "rd"
    refine sLenT hU ?_
    walk_at "rd"
    rw [hxl]
    have e : (if (st.length : Int) < (h.hands : Int) then (st.length : Int) else (h.hands : Int)) = ((min h.hands st.length : Nat) : Int) := by
      split <;> omega
    rw [e]
    exact q

def sp_p_turn_of (K : PySem.W.Frag) : Sp := fun vs H Q _ => ∃ (w : Str) (sv : V) (st : List Person) (i : Nat) (p : Person), vs = [.str w, sv, .int i] ∧ TD K H sv (standD st) ∧ st[i]? = some p ∧
  ∀ v H', Kp Non H H' → TD K H' v (.tuple [.int (if p.begun then 0 else 1), .int (key2 w p i).1, .int (key2 w p i).2]) → Q v H'
theorem sc_p_turn_of : FnScope N_p_turn_of ["rule", "stand", "place"] (defScope s_p_turn_of) := ⟨rfl, rfl, rfl, by decide +kernel, rfl, by decide +kernel, by decide +kernel⟩
theorem ok_p_turn_of (T : Txt K mg) : FnOk P w K mg base CX0 1 T.f_p_turn_of T.fd_p_turn_of ["rule", "stand", "place"] (sp_p_turn_of K) := by
  refine T.F_p_turn_of.ok sc_p_turn_of (fun vs H Q E h => ?_) (fun cdv A out s H vs Q E hr h => ?_)
  · obtain ⟨w, sv, st, i, p, rfl, hs, hi, q⟩ := h
    rfl
  · obtain ⟨w, sv, st, i, p, rfl, hs, hi, q⟩ := h
    have hu := hu_of hr
    have hu1 : (A.deeper (envOfC "turn_of" (defScope s_p_turn_of) s.heap.objs.size T.f_p_turn_of cdv)).units + 160 < cLine := by have := hr.un; omega
    refine ⟨_, (pss_cons (ps_asg (pe_ix (show IxR _ (rIxT K) from ix_tup) (pv 1) (pv 2) (fun _ _ => rfl)) (show PG _ _ (gTup K 3 _) from pg_tup rfl (pgs_cons (pg_name (i := 3) sc_p_turn_of.nd rfl (Or.inl rfl)) (pgs_cons (pg_name (i := 4) sc_p_turn_of.nd rfl (Or.inl rfl)) (pgs_cons (pg_name (i := 5) sc_p_turn_of.nd rfl (Or.inl rfl)) pgs_nil)))))
    (pss_cons (ps_set (i := 6) sc_p_turn_of.nd rfl (Or.inl rfl) (pe_tupG (pa_cons (pv 2) (pa_cons pe_int pa_nil))))
    (pss_cons (ps_if (PW.pt (pw_or (pt_cmpR op_eq (pv 0) pe_str (nomark _)) (pw_or1 (pt_cmpR op_eq (pv 0) pe_str (nomark _)))))
      (pss_one (ps_set (i := 6) sc_p_turn_of.nd rfl (Or.inl rfl) (pe_tupG (pa_cons (pe_op op_sub pe_int (pv 2)) (pa_cons pe_int pa_nil)))))
      pss_nil)
    (pss_cons (ps_if (PW.pt (pw_or (pt_cmpR op_eq (pv 0) pe_str (nomark _)) (pw_or1 (pt_cmpR op_eq (pv 0) pe_str (nomark _)))))
      (pss_one (ps_set (i := 6) sc_p_turn_of.nd rfl (Or.inl rfl) (pe_tupG (pa_cons (pv 4) (pa_cons (pv 2) pa_nil)))))
      pss_nil)
    (pss_cons (ps_if (PW.pt (pw_or (pt_cmpR op_eq (pv 0) pe_str (nomark _)) (pw_or1 (pt_cmpR op_eq (pv 0) pe_str (nomark _)))))
      (pss_one (ps_set (i := 6) sc_p_turn_of.nd rfl (Or.inl rfl) (pe_tupG (pa_cons (pv 3) (pa_cons (pv 2) pa_nil)))))
      pss_nil)
    (pss_one (ps_ret (pe_op (show OpR _ _ (rCatG K) from op_catG) (pe_tupG (pa_cons (pe_callTy call_int1 (by rfl) T.z_int (by decide +kernel) (pa_cons (pe_not (pv 5)) pa_nil)) pa_nil)) (pv 6))))))))), ?_⟩
    obtain ⟨u, xs, rfl, hU, hX⟩ := hs.stand
    obtain ⟨x, hx, hx2⟩ : ∃ x, xs[i]? = some x ∧ TD K H x p.d := hX.at (by rw [List.getElem?_map, hi]; rfl)
    obtain ⟨t, rfl, hT⟩ := hx2.person
    walk_at "rd"
    refine sIxT hU (atI_nat hx) ?_
    walk_at "rd"
    refine sGTup hT rfl ?_
    walk_at "rd"
    intro o1 H1 e1 n1 z1
    walk_at "rd"
    refine sOrK (fun c H' => H' = H1 ∧ c = decide (w = "last" ∨ w = "lastoff")) (fun F hF => ?_) ?_
    · by_cases z : w = "last"
      · rw [if_pos (decide_eq_true z)]
        exact hF _ _ ⟨rfl, by simp [z]⟩
      · rw [if_neg (by simp [z])]
        walk_at "rd"
        exact hF _ _ ⟨rfl, by simp [z]⟩
    rintro _ _ ⟨rfl, rfl⟩
    refine sIfJ (fun σ H' => ∃ o a b, σ = [some (.str w), some (.ref u), some (.int i), some (.int p.rank), some (.int p.left), some (.bl p.begun), some (.ref o)] ∧ SqT K H' o [.int a, .int b] ∧ Kp Non H H' ∧
      (a, b) = if w = "last" ∨ w = "lastoff" then ((0 - i : Int), (0 : Int)) else ((i : Int), 0)) (fun F' hF' => ?_) ?_
    · refine ifD (fun z => ?_) (fun z => ?_)
      · walk_at "rd"
        intro o2 H2 e2 n2 z2
        walk_at "rd"
        exact hF' _ _ ⟨o2, _, _, rfl, .of z2, e1.trans e2, by rw [if_pos z]⟩
      · walk_at "rd"
        exact hF' _ _ ⟨o1, _, _, rfl, .of z1, e1, by rw [if_neg z]⟩
    rintro _ H2 ⟨o, a, b, rfl, hO, k2, eab⟩
    walk_at "rd"
    refine sOrK (fun c H' => H' = H2 ∧ c = decide (w = "short" ∨ w = "shortoff")) (fun F hF => ?_) ?_
    · by_cases z : w = "short"
      · rw [if_pos (decide_eq_true z)]
        exact hF _ _ ⟨rfl, by simp [z]⟩
      · rw [if_neg (by simp [z])]
        walk_at "rd"
        exact hF _ _ ⟨rfl, by simp [z]⟩
    rintro _ _ ⟨rfl, rfl⟩
    refine sIfJ (fun σ H' => ∃ o a' b', σ = [some (.str w), some (.ref u), some (.int i), some (.int p.rank), some (.int p.left), some (.bl p.begun), some (.ref o)] ∧ SqT K H' o [.int a', .int b'] ∧ Kp Non H H' ∧
      (a', b') = if w = "short" ∨ w = "shortoff" then ((p.left : Int), (i : Int)) else (a, b)) (fun F' hF' => ?_) ?_
    · refine ifD (fun z => ?_) (fun z => ?_)
      · walk_at "rd"
        intro o3 H3 e3 n3 z3
        walk_at "rd"
        exact hF' _ _ ⟨o3, _, _, rfl, .of z3, k2.trans e3, by rw [if_pos z]⟩
      · walk_at "rd"
        exact hF' _ _ ⟨o, _, _, rfl, hO, k2, by rw [if_neg z]⟩
    rintro _ H3 ⟨o, a', b', rfl, hO, k3, eab2⟩
    walk_at "rd"
    refine sOrK (fun c H' => H' = H3 ∧ c = decide (w = "front" ∨ w = "frontoff")) (fun F hF => ?_) ?_
    · by_cases z : w = "front"
      · rw [if_pos (decide_eq_true z)]
        exact hF _ _ ⟨rfl, by simp [z]⟩
      · rw [if_neg (by simp [z])]
        walk_at "rd"
        exact hF _ _ ⟨rfl, by simp [z]⟩
    rintro _ _ ⟨rfl, rfl⟩
    refine sIfJ (fun σ H' => ∃ o a'' b'', σ = [some (.str w), some (.ref u), some (.int i), some (.int p.rank), some (.int p.left), some (.bl p.begun), some (.ref o)] ∧ SqT K H' o [.int a'', .int b''] ∧ Kp Non H H' ∧
      (a'', b'') = if w = "front" ∨ w = "frontoff" then ((p.rank : Int), (i : Int)) else (a', b')) (fun F' hF' => ?_) ?_
    · refine ifD (fun z => ?_) (fun z => ?_)
      · walk_at "rd"
        intro o4 H4 e4 n4 z4
        walk_at "rd"
        exact hF' _ _ ⟨o4, _, _, rfl, .of z4, k3.trans e4, by rw [if_pos z]⟩
      · walk_at "rd"
        exact hF' _ _ ⟨o, _, _, rfl, hO, k3, by rw [if_neg z]⟩
    rintro _ H4 ⟨o, a'', b'', rfl, hO, k4, eab3⟩
    have ek : key2 w p i = (a'', b'') := by
      rw [eab3, eab2, eab]
      rfl
    walk_at "rd"
    refine .inr ⟨_, rfl, ?_⟩
    walk_at "rd"
    intro y H5 e5 n5 z5
    walk_at "rd"
    refine sCat (.of z5) (e5.sqT hO) (by show 3 ≤ 1000; decide) fun r H6 e6 hr => ?_
    refine q _ _ ((k4.trans e5).trans e6) (.tup hr ?_)
    rw [ek]
    have eb : (if (!p.begun) = true then (1 : Int) else 0) = if p.begun = true then 0 else 1 := by cases p.begun <;> rfl
    rw [← eb]
    exact .cons (.int _) (.cons (.int _) (.cons (.int _) .nil))

def natsD (ns : List Nat) : PyData := .tuple (ns.map fun n : Nat => PyData.int n)
def sp_p_picked (K : PySem.W.Frag) : Sp := fun vs H Q _ => ∃ (hv sv : V) (h : House) (st : List Person), vs = [hv, sv] ∧ TD K H hv h.d ∧ TD K H sv (standD st) ∧ st.length ≤ 1000 ∧
  ∀ v H', Kp Non H H' → TD K H' v (natsD (picks h.hands h.rule st)) → Q v H'
theorem sc_p_picked : FnScope N_p_picked ["house", "stand"] (defScope s_p_picked) := ⟨rfl, rfl, rfl, by decide +kernel, rfl, by decide +kernel, by decide +kernel⟩
theorem ok_p_picked (T : Txt K mg) : FnOk P w K mg base CX0 2 T.f_p_picked T.fd_p_picked ["house", "stand"] (sp_p_picked K) := by
  refine T.F_p_picked.ok sc_p_picked (fun vs H Q E h => ?_) (fun cdv A out s H vs Q E hr h => ?_)
  · obtain ⟨hv, sv, h, st, rfl, hh, hs, hl, q⟩ := h
    rfl
  · obtain ⟨hv, sv, h, st, rfl, hh, hs, hl, q⟩ := h
    have hu := hu_of hr
    have hu1 : (A.deeper (envOfC "picked" (defScope s_p_picked) s.heap.objs.size T.f_p_picked cdv)).units + 160 < cLine := by have := hr.un; omega
    refine ⟨_, (pss_cons (ps_asg (pv 0) (show PG _ _ (gTup K 3 _) from pg_tup rfl (pgs_cons (pg_name (i := 2) sc_p_picked.nd rfl (Or.inl rfl)) (pgs_cons (pg_name (i := 3) sc_p_picked.nd rfl (Or.inl rfl)) (pgs_cons (pg_name (i := 4) sc_p_picked.nd rfl (Or.inr rfl)) pgs_nil)))))
    (pss_cons (ps_set (i := 5) sc_p_picked.nd rfl (Or.inl rfl) (pe_callB (show CallR _ _ (rSortD K) from (cr_sortD hu1)) (by rfl) T.z_sorted (by decide +kernel) (pa_cons (pe_lc (own := [("place", 6)]) (g := (gName 6)) (tt := tYes) rfl sc_p_picked.nd (pi_range1 rfl T.z_range (pa_cons (pe_callB (show CallR _ _ (rLenG K) from call_lenG) (by rfl) T.z_len (by decide +kernel) (pa_cons (pv 1) pa_nil)) pa_nil)) (blkOk_by (N := N_p_picked) (sc := defScope s_p_picked) (by decide +kernel)) (fun _ _ _ _ _ => (pg_name (i := 6) sc_p_picked.nd rfl (Or.inl rfl))) (fun _ _ _ _ _ => pts_nil) (fun _ _ _ _ _ => (pe_tupG (pa_cons (pe_call (ok_p_turn_of T) (hr.mono (by decide)) (by rfl) T.m_p_turn_of T.F_p_turn_of.kp T.b_p_turn_of .nil pass0 (pa_cons (pv 4) (pa_cons (pv 1) (pa_cons (pv 6) pa_nil)))) (pa_cons (pv 6) pa_nil))))) pa_nil)))
    (pss_one (ps_ret (pe_callTy (show CallR _ _ (rTupG K) from call_tupleG) (by rfl) T.z_tuple (by decide +kernel) (pa_cons (pe_callB (show CallR _ _ (rSortD K) from (cr_sortD hu1)) (by rfl) T.z_sorted (by decide +kernel) (pa_cons (pe_lc (own := [("turn", 7), ("place", 6)]) (g := (gTup K 2 (gCons (gName 7) (gCons (gName 6) gNil)))) (tt := tYes) rfl sc_p_picked.nd (show PI _ _ _ (iList K _) from pi_list (pe_slice (show SlR _ (rSlLG K) from sl_listG) (pv 5) po_none (po_some (pv 2)))) (blkOk_by (N := N_p_picked) (sc := defScope s_p_picked) (by decide +kernel)) (fun _ _ _ _ _ => (show PG _ _ (gTup K 2 _) from pg_tup rfl (pgs_cons (pg_name (i := 7) sc_p_picked.nd rfl (Or.inl rfl)) (pgs_cons (pg_name (i := 6) sc_p_picked.nd rfl (Or.inl rfl)) pgs_nil)))) (fun _ _ _ _ _ => pts_nil) (fun _ _ _ _ _ => (pv 6))) pa_nil)) pa_nil)))))), ?_⟩
    obtain ⟨t, rfl, hT⟩ := hh.house
    obtain ⟨u, xs, rfl, hU, hX⟩ := hs.stand
    have hxl : xs.length = st.length := hX.lenMap
    walk_at "rd"
    refine sGTup hT rfl ?_
    walk_at "rd"
    refine sLenT hU ?_
    walk_at "rd"
    refine lcRange (S := Non) (n := st.length) (P := fun i ys H' => TDs K H' ys ((List.range i).map fun i => keyD h.rule (st.getD i p0) i)) (by omega) (by omega) (by omega) (fun b z => z.elim) (fun _ _ => .nil) (fun D nD i ys H6 H7 h k => h.kp k) ?_ ?_
    · rintro i hi D ys H1 Z k1 hY keep skip
      walk_at "rd"
      refine ⟨rfl, ?_⟩
      walk_at "rd"
      have hp : st[i]? = some st[i] := List.getElem?_eq_getElem hi
      refine ⟨h.rule, .ref u, st, i, st[i], by rw [Int.zero_add]; rfl, hs.kp k1, hp, fun v H2 e2 hv => ?_⟩
      walk_at "rd"
      intro y H3 e3 n3 z3
      refine keep _ _ (e2.trans e3) ?_
      dsimp only
      rw [List.range_succ, List.map_append]
      refine ((hY.kp e2).kp e3).append (.cons (.tup (.of z3) (.cons ?_ (.cons ?_ .nil))) .nil)
      · rw [List.getD_eq_getElem?_getD, hp]
        exact hv.kp e3
      · rw [Int.zero_add]
        exact .int _
    · rintro D ys H1 hY hyl k1 nD zD
      walk_at "rd"
      refine sSortD (fun i => keyD h.rule (st.getD i p0) i) (List.range st.length) (.of zD) hY ?_ ?_ (fun b _ => by show (1 + 1 : Nat) ≤ 60; omega) fun p H2 zs e2 n2 z2 hZ => ?_
      · exact PySem.W.AllAlike.of fun b b' => by simp [PySem.W.alike, PySem.W.alikeAll, keyD]
      · exact PySem.W.Sortable.tuples fun b => ⟨_, _, rfl⟩
      generalize hM : (List.range st.length).mergeSort (PySem.W.dataLe false fun i => keyD h.rule (st.getD i p0) i) = M at hZ
      walk_at "rd"
      refine sSlL (.of z2) fun p3 H3 e3 n3 z3 => ?_
      rw [cutTake] at z3
      have hZ3 := hZ.kp e3
      have ml : M.length ≤ 1000 := by rw [← hM, List.length_mergeSort, List.length_range]; exact hl
      have zl : zs.length = M.length := hZ.lenMap
      refine lcList (S := Non) (P := fun i ys H' => TDs K H' ys ((M.take i).map fun n : Nat => PyData.int n)) (by rw [List.length_take]; exact Nat.le_of_lt (small1000 (by omega))) (.of z3) (fun z => z) (fun b z => z.elim) (fun _ _ => .nil) (fun D nD i ys H6 H7 h k => h.kp k) ?_ ?_
      · rintro i x hx D' ws H4 Z k4 hW keep skip
        have hi : i < h.hands := by
          have := (List.getElem?_eq_some_iff.mp hx).1
          rw [List.length_take] at this
          omega
        rw [List.getElem?_take_of_lt hi] at hx
        obtain ⟨m, hm, hx'⟩ := hZ3.of hx
        obtain ⟨r, y1, y2, rfl, hR, _, hy2⟩ := (hx'.kp k4).two
        rw [hy2.toInt] at hR
        refine sGTup hR rfl ?_
        walk_at "rd"
        refine ⟨rfl, ?_⟩
        walk_at "rd"
        refine keep _ _ Kp.refl ?_
        dsimp only
        rw [List.take_add_one, hm, List.map_append]
        exact hW.append (.cons (.int _) .nil)
      · rintro D' ws H4 hW hwl k4 nD' zD'
        have e5 : M.take (zs.take h.hands).length = M.take h.hands := by
          rw [List.length_take, zl]
          by_cases z : h.hands ≤ M.length
          · rw [Nat.min_eq_left z]
          · rw [Nat.min_eq_right (by omega), List.take_of_length_le (Nat.le_refl _), List.take_of_length_le (by omega)]
        rw [e5] at hW
        walk_at "rd"
        refine sSortN (M.take h.hands) (.of zD') hW fun p5 H5 vs e5 n5 z5 hV => ?_
        walk_at "rd"
        refine sTupL (.of z5) fun w H6 e6 hw => ?_
        refine q _ _ (((((k1.trans e2).trans e3).trans k4).trans e5).trans e6) (.tup hw ?_)
        rw [← picks_sorted, hM]
        exact hV.kp e6

def sp_q_feed (K : PySem.W.Frag) : Sp := fun vs H Q _ => ∃ (a : Addr) (ns : List Int), vs = [.ref a] ∧ SqL K H a (ns.map V.int) ∧ ns.length ≤ 63 ∧
  ∀ d c H', Kp Non H H' → H d = none → H c = none → Feed H' d c 1000000 → Q (.ref d) H'
theorem sc_q_feed : FnScope N_q_feed ["_law_script"] (defScope s_q_feed) := ⟨rfl, rfl, rfl, by decide +kernel, rfl, by decide +kernel, by decide +kernel⟩
theorem ok_q_feed (T : Txt K mg) : FnOk P w K mg base CX0 1 T.f_q_feed T.fd_q_feed ["_law_script"] (sp_q_feed K) := by
  refine T.F_q_feed.ok sc_q_feed (fun vs H Q E h => ?_) (fun cdv A out s H vs Q E hr h => ?_)
  · obtain ⟨a, ns, rfl, hS, hl, q⟩ := h
    rfl
  · obtain ⟨a, ns, rfl, hS, hl, q⟩ := h
    have hu := hu_of hr
    have hu1 : (A.deeper (envOfC "_law_feed" (defScope s_q_feed) s.heap.objs.size T.f_q_feed cdv)).units + 160 < cLine := by have := hr.un; omega
    refine ⟨_, (pss_one (ps_ret (pe_disp (pps_cons pe_str (pe_slice (show SlR _ (rSlLG K) from sl_listG) (pv 0) po_none (po_some pe_int)) (pps_cons pe_str pe_int (pps_cons pe_str pe_int (pps_cons pe_str pe_int pps_nil)))) (by rfl) (by rfl) (fun z => by cases z) (by decide)))), ?_⟩
    walk_at "rd"
    intro p np
    refine ⟨_, rfl, 63, rfl, a, ns.map V.int, rfl, (Kp.new (S := Non) np).sqL (fun z => z) hS, fun c H2 e2 n2 z2 => ?_⟩
    have npc : p ≠ c := ne_of_none upd_same n2
    have zp : H2 p = some (.dK []) := e2.same _ _ (fun z => z) upd_same
    have nc : H c = none := (Kp.new (S := Non) np).live _ n2
    refine ⟨zp, feedKvs c 0 0 0, rfl, Nat.le_of_ble_eq_true rfl, ?_⟩
    rw [mergeFeed]
    have kk : Kp Non H (upd H2 p (.dK (feedKvs c 0 0 0))) :=
      Kp.drop (p := p) ((((Kp.new (S := Non) np).trans e2).wide fun b z => z.elim).trans ((Kp.put zp (fun _ z => by cases z) (fun _ _ z => by cases z)).wide fun b z => .inl z)) np
    have cut : cutV (ns.map V.int) none (some 63) = ns.map V.int := by
      unfold cutV
      rw [HT.sIx_none, show HT.sIx (ns.map V.int).length (ns.map V.int).length (some 63) = min 63 (ns.map V.int).length from HT.sIx_nat _ _ 63, List.drop_zero, List.length_map,
        Nat.min_eq_right hl, Nat.sub_zero, List.take_of_length_le (by rw [List.length_map]; exact Nat.le_refl _)]
    refine q p c _ kk np nc ⟨ns, 0, 0, 0, ⟨upd_same, ?_⟩, hl, by omega, by omega, by omega, by omega⟩
    rw [upd_ne npc.symm, z2, cut]

def sp_q_draw (K : PySem.W.Frag) : Sp := fun vs H Q _ => ∃ (d c : Addr) (m : Int) (b : Nat), vs = [.ref d, .int m] ∧ 0 < m ∧ m < 1000000000 ∧ Feed H d c (b + 1) ∧
  ∀ (n : Int) H', 0 ≤ n → n < m → Kp (At d) H H' → Feed H' d c b → Q (.int n) H'
theorem sc_q_draw : FnScope N_q_draw ["_law_feed_here", "_law_many"] (defScope s_q_draw) := ⟨rfl, rfl, rfl, by decide +kernel, rfl, by decide +kernel, by decide +kernel⟩
theorem ok_q_draw (T : Txt K mg) : FnOk P w K mg base CX0 1 T.f_q_draw T.fd_q_draw ["_law_feed_here", "_law_many"] (sp_q_draw K) := by
  refine T.F_q_draw.ok sc_q_draw (fun vs H Q E h => ?_) (fun cdv A out s H vs Q E hr h => ?_)
  · obtain ⟨d, c, m, b, rfl, hm, hm2, hF, q⟩ := h
    rfl
  · obtain ⟨d, c, m, b, rfl, hm, hm2, hF, q⟩ := h
    have hu := hu_of hr
    have hu1 : (A.deeper (envOfC "_law_draw" (defScope s_q_draw) s.heap.objs.size T.f_q_draw cdv)).units + 160 < cLine := by have := hr.un; omega
    refine ⟨_, (pss_cons (ps_dput hu (pv 0) pe_str (pe_op op_add (pe_dget hu (pv 0) pe_str (fun _ _ => rfl)) pe_int) rfl)
    (pss_cons (ps_if (pt_cmpR op_gt (pe_dget hu (pv 0) pe_str (fun _ _ => rfl)) pe_int (nomark _))
      (pss_cons (ps_set (i := 2) sc_q_draw.nd rfl (Or.inl rfl) (pe_op op_modN (pe_dget hu (pv 0) pe_str (fun _ _ => rfl)) (pv 1)))
    (pss_cons (ps_dput hu (pv 0) pe_str (pe_op op_fdivN (pe_dget hu (pv 0) pe_str (fun _ _ => rfl)) (pv 1)) rfl)
    (pss_one (ps_ret (pv 2)))))
      pss_nil)
    (pss_cons (ps_par3 (i := 3) (j := 4) (l := 5) rfl sc_q_draw.nd rfl rfl rfl (by decide) (by decide) (by decide) rfl rfl rfl (pa_cons (pe_dget hu (pv 0) pe_str (fun _ _ => rfl)) (pa_cons (pe_dget hu (pv 0) pe_str (fun _ _ => rfl)) (pa_cons (pe_dget hu (pv 0) pe_str (fun _ _ => rfl)) pa_nil))) (by rfl))
    (pss_cons (ps_set (i := 6) sc_q_draw.nd rfl (Or.inl rfl) (pe_ifExp (pt_cmpR (show OpR _ _ (rNeD K) from op_neD (by have := hr.units; exact this)) (pv 3) (pe_lstG pa_nil) (nomark _)) (pe_ix (show IxR _ (rIxL K) from ix_list) (pv 3) (pe_op op_modN (pv 4) (pe_callB (show CallR _ _ (rLenG K) from call_lenG) (by rfl) T.z_len (by decide +kernel) (pa_cons (pv 3) pa_nil))) (fun _ _ => rfl)) pe_int))
    (pss_cons (ps_dput hu (pv 0) pe_str (pe_op op_add (pv 4) pe_int) rfl)
    (pss_cons (ps_if (PW.pt (pw_and (pt_cmpR op_ge (pv 6) (pe_op op_pow pe_int pe_int) (nomark _)) (pw_and1 (pt_cmpR op_lt (pv 4) (pe_callB (show CallR _ _ (rLenG K) from call_lenG) (by rfl) T.z_len (by decide +kernel) (pa_cons (pv 3) pa_nil)) (nomark _)))))
      (pss_cons (ps_dput hu (pv 0) pe_str (pe_op op_fdivN (pv 6) (pv 1)) rfl)
    (pss_one (ps_ret (pe_op op_modN (pv 6) (pv 1)))))
      pss_nil)
    (pss_cons (ps_set (i := 7) sc_q_draw.nd rfl (Or.inl rfl) (pe_op op_modN (pe_op op_pow (pe_op op_add (pe_op op_add (pe_op op_modN (pv 6) pe_int) (pe_op op_mul (pe_op op_mul pe_int (pv 5)) (pv 5))) pe_int) pe_int) pe_int))
    (pss_cons (ps_set (i := 7) sc_q_draw.nd rfl (Or.inl rfl) (pe_op op_modN (pe_op op_pow (pe_op op_add (pv 7) (pe_op op_mul pe_int (pv 5))) pe_int) pe_int))
    (pss_one (ps_ret (pe_op op_modN (pe_op op_fdivN (pv 7) pe_int) (pv 1)))))))))))), ?_⟩
    obtain ⟨ns, p, l, t, f0, hl, hp, hl0, ht, hb⟩ := hF
    have hmr : CDivN 0 m := ⟨by omega, by omega⟩
    have hm0 : m ≠ 0 := hmr.1
    walk_at "rd"
    refine f0.gTurn ?_
    walk_at "rd"
    refine f0.pTurn fun H1 e1 f1 => ?_
    walk_at "rd"
    refine f1.gLeft ?_
    walk_at "rd"
    refine ifD (fun c1 => ?_) (fun c1 => ?_)
    · walk_at "rd"
      refine f1.gLeft ?_
      walk_at "rd"
      refine f1.gLeft ?_
      walk_at "rd"
      refine f1.pLeft fun H2 e2 f2 => ?_
      walk_at "rd"
      exact q _ H2 (fmod_ge hm) (fmod_lt hm) (e1.trans e2) ⟨ns, _, _, _, f2, hl, hp, fdiv_ge hl0 hm, by omega, by omega⟩
    walk_at "rd"
    refine f1.gCells ?_
    walk_at "rd"
    refine f1.gAt ?_
    walk_at "rd"
    refine f1.gTurn ?_
    walk_at "rd"
    intro z H2 e2 n2 z2
    have f2 := f1.kp e2
    have cl : SqL K H2 c (ns.map V.int) := .of f2.cells
    refine sNeD (.lst cl (dpInts K H2 ns)) (.lst (.of z2) .nil) (shapedInts ns) rfl ?_
    walk_at "rd"
    refine sIfE (fun v => ∃ i, v = .int i) (fun F hF => ?_) ?_
    · cases ns with
      | nil =>
        refine iteF ?_
        walk_at "rd"
        exact hF _ ⟨_, rfl⟩
      | cons n0 nr =>
        refine iteT ?_
        walk_at "rd"
        refine sLenL cl ?_
        walk_at "rd"
        have h0 : (0 : Int) < (((n0 :: nr).map V.int).length : Nat) := by rw [List.length_map, List.length_cons]; omega
        refine sI (by show _ ≠ _; omega) ?_
        have hlt := fmod_lt (a := p) h0
        have hge := fmod_ge (a := p) h0
        obtain ⟨j, hj⟩ : ∃ j : Nat, p.fmod (((n0 :: nr).map V.int).length : Nat) = (j : Int) := ⟨_, (Int.toNat_of_nonneg hge).symm⟩
        rw [hj] at hlt ⊢
        have hj2 : j < (n0 :: nr).length := by rw [List.length_map] at hlt; omega
        refine sIxL cl (atI_nat (v := .int (n0 :: nr)[j]) ?_) ?_
        · rw [List.getElem?_map, List.getElem?_eq_getElem hj2]; rfl
        · exact hF _ ⟨_, rfl⟩
    rintro _ ⟨cell, rfl⟩
    walk_at "rd"
    refine f2.pAt fun H3 e3 f3 => ?_
    have e03 : Kp (At d) H H3 := (e1.trans e2.non).trans e3
    walk_at "rd"
    have tail : ∀ H', Kp (At d) H3 H' → FR H' d c ns (p + 1) l (t + 1) → Feed H' d c b := fun H' _ f => ⟨ns, _, _, _, f, hl, by omega, hl0, by omega, by omega⟩
    refine sAndJ (fun z => z = true → 10 ^ 18 ≤ cell) (fun F hF => ?_) (fun z hz => ?_)
    · refine ifD (fun c2 => ?_) (fun c2 => ?_)
      · walk_at "rd"
        refine sLenL (.of f3.cells) ?_
        walk_at "rd"
        exact hF _ fun _ => c2
      · exact hF _ fun z => by cases z
    cases z with
    | true =>
      refine iteT ?_
      have hc := hz rfl
      walk_at "rd"
      refine f3.pLeft fun H4 e4 f4 => ?_
      walk_at "rd"
      exact q _ H4 (fmod_ge hm) (fmod_lt hm) (e03.trans e4) ⟨ns, _, _, _, f4, hl, by omega, fdiv_ge (by omega) hm, by omega, by omega⟩
    | false =>
      refine iteF ?_
      have tb : t + 1 ≤ 1000000 := by omega
      have tq : 7919 * (t + 1) * (t + 1) ≤ 7919 * 1000000 * 1000000 := by
        have h1 : 7919 * (t + 1) ≤ 7919 * 1000000 := by omega
        exact Int.le_trans (Int.mul_le_mul_of_nonneg_right h1 (by omega)) (Int.mul_le_mul_of_nonneg_left tb (by omega))
      have tq0 : 0 ≤ 7919 * (t + 1) * (t + 1) := Int.mul_nonneg (by omega) (by omega)
      have m1 := fmod_lt (a := cell) (m := 2147483629) (by omega)
      have m0 := fmod_ge (a := cell) (m := 2147483629) (by omega)
      walk_at "rd"
      refine sI (.inl ⟨by omega, by omega⟩) ?_
      walk_at "rd"
      refine sI (.inl ⟨by omega, by omega⟩) ?_
      walk_at "rd"
      have m2 := fmod_lt (a := (cell.fmod 2147483629 + 7919 * (t + 1) * (t + 1) + 31) ^ Int.toNat 5) (m := 2147483647) (by omega)
      have m3 := fmod_ge (a := (cell.fmod 2147483629 + 7919 * (t + 1) * (t + 1) + 31) ^ Int.toNat 5) (m := 2147483647) (by omega)
      refine sI (.inl ⟨by omega, by omega⟩) ?_
      walk_at "rd"
      exact q _ H3 (fmod_ge hm) (fmod_lt hm) e03 ⟨ns, _, _, _, f3, hl, by omega, hl0, by omega, by omega⟩

def sp_q_sooner (K : PySem.W.Frag) : Sp := fun vs H Q _ => ∃ (w : Str) (sv : V) (st : List Person) (i j : Nat) (a b : Person), vs = [.str w, sv, .int i, .int j] ∧ TD K H sv (standD st) ∧ st[i]? = some a ∧ st[j]? = some b ∧
  ∀ H', Kp Non H H' → Q (.bl (aheadOf w st i j)) H'
theorem sc_q_sooner : FnScope N_q_sooner ["_law_rule", "_law_stand", "_law_one", "_law_other"] (defScope s_q_sooner) := ⟨rfl, rfl, rfl, by decide +kernel, rfl, by decide +kernel, by decide +kernel⟩
theorem ok_q_sooner (T : Txt K mg) : FnOk P w K mg base CX0 1 T.f_q_sooner T.fd_q_sooner ["_law_rule", "_law_stand", "_law_one", "_law_other"] (sp_q_sooner K) := by
  refine T.F_q_sooner.ok sc_q_sooner (fun vs H Q E h => ?_) (fun cdv A out s H vs Q E hr h => ?_)
  · obtain ⟨w, sv, st, i, j, a, b, rfl, hs, hi, hj, q⟩ := h
    rfl
  · obtain ⟨w, sv, st, i, j, a, b, rfl, hs, hi, hj, q⟩ := h
    have hu := hu_of hr
    have hu1 : (A.deeper (envOfC "_law_sooner" (defScope s_q_sooner) s.heap.objs.size T.f_q_sooner cdv)).units + 160 < cLine := by have := hr.un; omega
    refine ⟨_, (pss_cons (ps_if (pt_cmpR op_ne (pe_ix (show IxR _ (rIxT K) from ix_tup) (pe_ix (show IxR _ (rIxT K) from ix_tup) (pv 1) (pv 2) (fun _ _ => rfl)) pe_int (fun _ _ => rfl)) (pe_ix (show IxR _ (rIxT K) from ix_tup) (pe_ix (show IxR _ (rIxT K) from ix_tup) (pv 1) (pv 3) (fun _ _ => rfl)) pe_int (fun _ _ => rfl)) (nomark _))
      (pss_one (ps_ret (pe_ix (show IxR _ (rIxT K) from ix_tup) (pe_ix (show IxR _ (rIxT K) from ix_tup) (pv 1) (pv 2) (fun _ _ => rfl)) pe_int (fun _ _ => rfl))))
      pss_nil)
    (pss_cons (ps_if (pt_cmpR (show OpR _ _ (rIn K false) from op_in_seq) (pv 0) (pe_tupG (pa_cons pe_str (pa_cons pe_str pa_nil))) (by rfl))
      (pss_one (ps_ret (pe_cmpR op_gt (pv 2) (pv 3) (nomark _))))
      pss_nil)
    (pss_cons (ps_if (PW.pt (pw_and (pt_cmpR (show OpR _ _ (rIn K false) from op_in_seq) (pv 0) (pe_tupG (pa_cons pe_str (pa_cons pe_str pa_nil))) (by rfl)) (pw_and1 (pt_cmpR op_ne (pe_ix (show IxR _ (rIxT K) from ix_tup) (pe_ix (show IxR _ (rIxT K) from ix_tup) (pv 1) (pv 2) (fun _ _ => rfl)) pe_int (fun _ _ => rfl)) (pe_ix (show IxR _ (rIxT K) from ix_tup) (pe_ix (show IxR _ (rIxT K) from ix_tup) (pv 1) (pv 3) (fun _ _ => rfl)) pe_int (fun _ _ => rfl)) (nomark _)))))
      (pss_one (ps_ret (pe_cmpR op_lt (pe_ix (show IxR _ (rIxT K) from ix_tup) (pe_ix (show IxR _ (rIxT K) from ix_tup) (pv 1) (pv 2) (fun _ _ => rfl)) pe_int (fun _ _ => rfl)) (pe_ix (show IxR _ (rIxT K) from ix_tup) (pe_ix (show IxR _ (rIxT K) from ix_tup) (pv 1) (pv 3) (fun _ _ => rfl)) pe_int (fun _ _ => rfl)) (nomark _))))
      pss_nil)
    (pss_cons (ps_if (PW.pt (pw_and (pt_cmpR (show OpR _ _ (rIn K false) from op_in_seq) (pv 0) (pe_tupG (pa_cons pe_str (pa_cons pe_str pa_nil))) (by rfl)) (pw_and1 (pt_cmpR op_ne (pe_ix (show IxR _ (rIxT K) from ix_tup) (pe_ix (show IxR _ (rIxT K) from ix_tup) (pv 1) (pv 2) (fun _ _ => rfl)) pe_int (fun _ _ => rfl)) (pe_ix (show IxR _ (rIxT K) from ix_tup) (pe_ix (show IxR _ (rIxT K) from ix_tup) (pv 1) (pv 3) (fun _ _ => rfl)) pe_int (fun _ _ => rfl)) (nomark _)))))
      (pss_one (ps_ret (pe_cmpR op_lt (pe_ix (show IxR _ (rIxT K) from ix_tup) (pe_ix (show IxR _ (rIxT K) from ix_tup) (pv 1) (pv 2) (fun _ _ => rfl)) pe_int (fun _ _ => rfl)) (pe_ix (show IxR _ (rIxT K) from ix_tup) (pe_ix (show IxR _ (rIxT K) from ix_tup) (pv 1) (pv 3) (fun _ _ => rfl)) pe_int (fun _ _ => rfl)) (nomark _))))
      pss_nil)
    (pss_one (ps_ret (pe_cmpR op_lt (pv 2) (pv 3) (nomark _)))))))), ?_⟩
    obtain ⟨u, xs, rfl, hU, hX⟩ := hs.stand
    obtain ⟨x, hx, hx2⟩ : ∃ x, xs[i]? = some x ∧ TD K H x a.d := hX.at (by rw [List.getElem?_map, hi]; rfl)
    obtain ⟨t, rfl, hT⟩ := hx2.person
    obtain ⟨x', hx', hx2'⟩ : ∃ x, xs[j]? = some x ∧ TD K H x b.d := hX.at (by rw [List.getElem?_map, hj]; rfl)
    obtain ⟨t', rfl, hT'⟩ := hx2'.person
    have ea : aheadOf w st i j = if a.begun ≠ b.begun then a.begun else decide ((key2 w a i).1 < (key2 w b j).1 ∨ ((key2 w a i).1 = (key2 w b j).1 ∧ (key2 w a i).2 < (key2 w b j).2)) := by
      unfold aheadOf
      rw [hi, hj]
    rw [ea] at q
    walk_at "rd"
    refine sIxT hU (atI_nat hx) ?_
    walk_at "rd"
    refine sIxT hT (atI_nat (j := 2) rfl) ?_
    walk_at "rd"
    refine sIxT hU (atI_nat hx') ?_
    walk_at "rd"
    refine sIxT hT' (atI_nat (j := 2) rfl) ?_
    walk_at "rd"
    refine ifN (fun c1 => ?_) (fun c1 => ?_)
    · walk_at "rd"
      refine sIxT hU (atI_nat hx) ?_
      walk_at "rd"
      refine sIxT hT (atI_nat (j := 2) rfl) ?_
      walk_at "rd"
      rw [if_pos c1] at q
      exact q _ Kp.refl
    rw [if_neg (fun z => z c1)] at q
    walk_at "rd"
    intro p1 H1 e1 n1 z1
    have hU1 := e1.sqT hU
    have hT1 := e1.sqT hT
    have hT1' := e1.sqT hT'
    refine sInTS (ws := ["last", "lastoff"]) (.of z1) ?_
    walk_at "rd"
    have hlast : (w ∈ (["last", "lastoff"] : List Str)) ↔ (w = "last" ∨ w = "lastoff") := by simp
    have hshort : (w ∈ (["short", "shortoff"] : List Str)) ↔ (w = "short" ∨ w = "shortoff") := by simp
    have hfront : (w ∈ (["front", "frontoff"] : List Str)) ↔ (w = "front" ∨ w = "frontoff") := by simp
    have d1 : (w = "last" ∨ w = "lastoff") → ¬ (w = "short" ∨ w = "shortoff") ∧ ¬ (w = "front" ∨ w = "frontoff") := by
      rintro (rfl | rfl) <;> decide +kernel
    have d2 : (w = "short" ∨ w = "shortoff") → ¬ (w = "front" ∨ w = "frontoff") := by
      rintro (rfl | rfl) <;> decide +kernel
    refine ifD (fun c2 => ?_) (fun c2 => ?_)
    · rw [hlast] at c2
      walk_at "rd"
      have := q H1 e1
      unfold key2 at this
      rw [if_neg (d1 c2).2, if_neg (d1 c2).1, if_pos c2, if_neg (d1 c2).2, if_neg (d1 c2).1, if_pos c2] at this
      have e : decide (((i : Nat) : Int) > ((j : Nat) : Int)) = decide (((0 : Int) - i, (0 : Int)).1 < ((0 : Int) - j, (0 : Int)).1 ∨ (((0 : Int) - i, (0 : Int)).1 = ((0 : Int) - j, (0 : Int)).1 ∧ ((0 : Int) - i, (0 : Int)).2 < ((0 : Int) - j, (0 : Int)).2)) :=
        decide_eq_decide.mpr ⟨fun z => .inl (by show (0 : Int) - i < 0 - j; omega), fun z => by
          rcases z with z | z
          · have z : (0 : Int) - i < 0 - j := z
            omega
          · exact absurd z.2 (Int.lt_irrefl _)⟩
      rw [e]
      exact this
    rw [hlast] at c2
    walk_at "rd"
    intro p2 H2 e2 n2 z2
    have k2 := e1.trans e2
    refine sInTS (ws := ["short", "shortoff"]) (.of z2) ?_
    walk_at "rd"
    have fin : ∀ (x x' : Nat) (H' : Hp), Kp Non H H' → (key2 w a i = ((x : Int), (i : Int))) → (key2 w b j = ((x' : Int), (j : Int))) → x ≠ x' → Q (.bl (decide ((x : Int) < (x' : Int)))) H' := by
      intro x x' H' k h1 h2 ne
      have := q H' k
      rw [h1, h2] at this
      have e : decide ((x : Int) < (x' : Int)) = decide (((x : Int), (i : Int)).1 < ((x' : Int), (j : Int)).1 ∨ (((x : Int), (i : Int)).1 = ((x' : Int), (j : Int)).1 ∧ ((x : Int), (i : Int)).2 < ((x' : Int), (j : Int)).2)) :=
        decide_eq_decide.mpr ⟨fun z => .inl z, fun z => by
          rcases z with z | z
          · exact z
          · have z : (x : Int) = (x' : Int) := z.1
            omega⟩
      rw [e]
      exact this
    have last : ∀ (H' : Hp), Kp Non H H' → ((∃ x : Int, key2 w a i = (x, (i : Int)) ∧ key2 w b j = (x, (j : Int))) ∨ (key2 w a i = ((i : Int), 0) ∧ key2 w b j = ((j : Int), 0))) → Q (.bl (decide ((i : Int) < (j : Int)))) H' := by
      intro H' k h
      have := q H' k
      have e : decide ((i : Int) < (j : Int)) = decide ((key2 w a i).1 < (key2 w b j).1 ∨ ((key2 w a i).1 = (key2 w b j).1 ∧ (key2 w a i).2 < (key2 w b j).2)) := by
        rcases h with ⟨x, h1, h2⟩ | ⟨h1, h2⟩
        · rw [h1, h2]
          refine decide_eq_decide.mpr ⟨fun z => .inr ⟨rfl, z⟩, fun z => ?_⟩
          rcases z with z | z
          · exact absurd z (Int.lt_irrefl _)
          · exact z.2
        · rw [h1, h2]
          refine decide_eq_decide.mpr ⟨fun z => .inl z, fun z => ?_⟩
          rcases z with z | z
          · exact z
          · exact absurd z.2 (Int.lt_irrefl _)
      rw [e]
      exact this
    refine sAndK (fun c H' => Kp Non H H' ∧ (c = true → (w = "short" ∨ w = "shortoff") ∧ a.left ≠ b.left) ∧ (c = false → (w = "short" ∨ w = "shortoff") → a.left = b.left)) (fun F hF => ?_) ?_
    · refine ifD (fun c3 => ?_) (fun c3 => ?_)
      · rw [hshort] at c3
        walk_at "rd"
        refine sIxT (e2.sqT hU1) (atI_nat hx) ?_
        walk_at "rd"
        refine sIxT (e2.sqT hT1) (atI_nat (j := 1) rfl) ?_
        walk_at "rd"
        refine sIxT (e2.sqT hU1) (atI_nat hx') ?_
        walk_at "rd"
        refine sIxT (e2.sqT hT1') (atI_nat (j := 1) rfl) ?_
        walk_at "rd"
        refine hF _ _ ⟨k2, fun z => ⟨c3, fun y => ?_⟩, fun z _ => ?_⟩
        · rw [y] at z; simp at z
        · simp at z; omega
      · rw [hshort] at c3
        exact hF _ _ ⟨k2, fun z => by simp at z, fun z y => absurd y c3⟩
    rintro c H3 ⟨k3, h1, h2⟩
    cases c with
    | true =>
      obtain ⟨c3, ne⟩ := h1 rfl
      refine iteT ?_
      walk_at "rd"
      refine sIxT (k3.sqT hU) (atI_nat hx) ?_
      walk_at "rd"
      refine sIxT (k3.sqT hT) (atI_nat (j := 1) rfl) ?_
      walk_at "rd"
      refine sIxT (k3.sqT hU) (atI_nat hx') ?_
      walk_at "rd"
      refine sIxT (k3.sqT hT') (atI_nat (j := 1) rfl) ?_
      walk_at "rd"
      exact fin _ _ _ k3 (by unfold key2; rw [if_neg (d2 c3), if_pos c3]) (by unfold key2; rw [if_neg (d2 c3), if_pos c3]) ne
    | false =>
      have h2 := h2 rfl
      refine iteF ?_
      walk_at "rd"
      intro p4 H4 e4 n4 z4
      have k4 := k3.trans e4
      refine sInTS (ws := ["front", "frontoff"]) (.of z4) ?_
      walk_at "rd"
      refine sAndK (fun c H' => Kp Non H H' ∧ (c = true → (w = "front" ∨ w = "frontoff") ∧ a.rank ≠ b.rank) ∧ (c = false → (w = "front" ∨ w = "frontoff") → a.rank = b.rank)) (fun F hF => ?_) ?_
      · refine ifD (fun c3 => ?_) (fun c3 => ?_)
        · rw [hfront] at c3
          walk_at "rd"
          refine sIxT (k4.sqT hU) (atI_nat hx) ?_
          walk_at "rd"
          refine sIxT (k4.sqT hT) (atI_nat (j := 0) rfl) ?_
          walk_at "rd"
          refine sIxT (k4.sqT hU) (atI_nat hx') ?_
          walk_at "rd"
          refine sIxT (k4.sqT hT') (atI_nat (j := 0) rfl) ?_
          walk_at "rd"
          refine hF _ _ ⟨k4, fun z => ⟨c3, fun y => ?_⟩, fun z _ => ?_⟩
          · rw [y] at z; simp at z
          · simp at z; omega
        · rw [hfront] at c3
          exact hF _ _ ⟨k4, fun z => by simp at z, fun z y => absurd y c3⟩
      rintro c H5 ⟨k5, h3, h4⟩
      cases c with
      | true =>
        obtain ⟨c3, ne⟩ := h3 rfl
        refine iteT ?_
        walk_at "rd"
        refine sIxT (k5.sqT hU) (atI_nat hx) ?_
        walk_at "rd"
        refine sIxT (k5.sqT hT) (atI_nat (j := 0) rfl) ?_
        walk_at "rd"
        refine sIxT (k5.sqT hU) (atI_nat hx') ?_
        walk_at "rd"
        refine sIxT (k5.sqT hT') (atI_nat (j := 0) rfl) ?_
        walk_at "rd"
        exact fin _ _ _ k5 (by unfold key2; rw [if_pos c3]) (by unfold key2; rw [if_pos c3]) ne
      | false =>
        have h4 := h4 rfl
        refine iteF ?_
        walk_at "rd"
        refine last _ k5 ?_
        unfold key2
        by_cases c3 : w = "front" ∨ w = "frontoff"
        · rw [if_pos c3, if_pos c3, h4 c3]
          exact .inl ⟨_, rfl, rfl⟩
        · rw [if_neg c3, if_neg c3]
          by_cases c4 : w = "short" ∨ w = "shortoff"
          · rw [if_pos c4, if_pos c4, h2 c4]
            exact .inl ⟨_, rfl, rfl⟩
          · rw [if_neg c4, if_neg c4, if_neg c2, if_neg c2]
            exact .inr ⟨rfl, rfl⟩

theorem ahead_self (w : Str) (st : List Person) (i : Nat) : aheadOf w st i i = false := by
  by_cases h : i < st.length
  · rw [ahead_ltN w st i i h h, ltN_irr]
  · unfold aheadOf
    rw [List.getElem?_eq_none (by omega)]
def sp_q_picks (K : PySem.W.Frag) : Sp := fun vs H Q _ => ∃ (hv sv : V) (h : House) (st : List Person), vs = [hv, sv] ∧ TD K H hv h.d ∧ TD K H sv (standD st) ∧ st.length ≤ 1000 ∧
  ∀ v H', Kp Non H H' → TD K H' v (.tuple ((picks h.hands h.rule st).map fun n : Nat => PyData.int n)) → Q v H'
theorem sc_q_picks : FnScope N_q_picks ["_law_house", "_law_stand"] (defScope s_q_picks) := ⟨rfl, rfl, rfl, by decide +kernel, rfl, by decide +kernel, by decide +kernel⟩
theorem ok_q_picks (T : Txt K mg) : FnOk P w K mg base CX0 2 T.f_q_picks T.fd_q_picks ["_law_house", "_law_stand"] (sp_q_picks K) := by
  refine T.F_q_picks.ok sc_q_picks (fun vs H Q E h => ?_) (fun cdv A out s H vs Q E hr h => ?_)
  · obtain ⟨hv, sv, h, st, rfl, hh, hs, hl, q⟩ := h
    rfl
  · obtain ⟨hv, sv, h, st, rfl, hh, hs, hl, q⟩ := h
    have hu := hu_of hr
    have hu1 : (A.deeper (envOfC "_law_picks" (defScope s_q_picks) s.heap.objs.size T.f_q_picks cdv)).units + 160 < cLine := by have := hr.un; omega
    refine ⟨_, (pss_cons (ps_set (i := 2) sc_q_picks.nd rfl (Or.inl rfl) (pe_lstG pa_nil))
    (pss_cons (ps_for PassesOwn.never rfl (pi_range1 rfl T.z_range (pa_cons (pe_callB (show CallR _ _ (rLenG K) from call_lenG) (by rfl) T.z_len (by decide +kernel) (pa_cons (pv 1) pa_nil)) pa_nil)) (pg_name (i := 3) sc_q_picks.nd rfl (Or.inr rfl))
      (pss_cons (ps_setLc (i := 4) (own := [("_law_other", 5)]) (g := (gName 5)) rfl sc_q_picks.nd rfl rfl (sw_true rfl rfl rfl (by decide +kernel)) (pi_range1 rfl T.z_range (pa_cons (pe_callB (show CallR _ _ (rLenG K) from call_lenG) (by rfl) T.z_len (by decide +kernel) (pa_cons (pv 1) pa_nil)) pa_nil)) (blkOk_by (N := N_q_picks) (sc := defScope s_q_picks) (by decide +kernel)) (fun _ _ _ _ _ => (pg_name (i := 5) sc_q_picks.nd rfl (Or.inl rfl))) (fun _ _ _ _ _ => (pts_one (PW.pt (pw_and (pt_cmpR op_ne (pv 5) (pv 3) (nomark _)) (pw_and1 (pt_val (pe_call (ok_q_sooner T) (hr.mono (by decide)) (by rfl) T.m_q_sooner T.F_q_sooner.kp T.b_q_sooner .nil pass0 (pa_cons (pe_ix (show IxR _ (rIxT K) from ix_tup) (pv 0) pe_int (fun _ _ => rfl)) (pa_cons (pv 1) (pa_cons (pv 5) (pa_cons (pv 3) pa_nil))))))))))) (fun _ _ _ _ _ => (pv 5)))
    (pss_one (ps_if (pt_cmpR op_lt (pe_callB (show CallR _ _ (rLenG K) from call_lenG) (by rfl) T.z_len (by decide +kernel) (pa_cons (pv 4) pa_nil)) (pe_ix (show IxR _ (rIxT K) from ix_tup) (pv 0) pe_int (fun _ _ => rfl)) (nomark _))
      (pss_one (ps_expr (show PE _ _ (tBM K "list" rAppG _ _) from pe_bm PySem.F.plainAttrs_list PySem.F.slot_list_append PySem.F.type_list_append mt_appendG (pv 2) (pa_cons (pv 3) pa_nil))))
      pss_nil))))
    (pss_one (ps_ret (pe_callTy (show CallR _ _ (rTupG K) from call_tupleG) (by rfl) T.z_tuple (by decide +kernel) (pa_cons (pv 2) pa_nil)))))), ?_⟩
    obtain ⟨t, rfl, hT⟩ := hh.house
    obtain ⟨u, xs, rfl, hU, hX⟩ := hs.stand
    have hxl : xs.length = st.length := hX.lenMap
    walk_at "rd"
    intro p H1 e1 n1 z1
    walk_at "rd"
    refine sLenT (e1.sqT hU) ?_
    walk_at "rd"
    refine forRange (n := st.length) (fun i σ H' => ∃ v1 v2 v3 ys, σ = [some (.ref t), some (.ref u), some (.ref p), v1, v2, v3] ∧ H' p = some (.lst ys) ∧ ys = ((List.range i).filter fun i => decide (((List.range st.length).filter fun j => aheadOf h.rule st j i).length < h.hands)).map (fun n : Nat => V.int n) ∧ Kp Non H H')
      (by omega) (by omega) (by omega) ⟨none, none, none, [], rfl, z1, rfl, e1⟩ ?_ ?_
    · rintro i _ H2 hi ⟨v1, v2, v3, ys, rfl, z2, hy, k2⟩
      walk_at "rd"
      refine sLenT (k2.sqT hU) ?_
      walk_at "rd"
      refine lcRange (S := Non) (n := st.length) (P := fun j ws H' => ws = ((List.range j).filter fun j => aheadOf h.rule st j i).map fun n : Nat => V.int n) (by omega) (by omega) (by omega) (fun b z => z.elim) (fun _ _ => rfl) (fun D nD i ys H6 H7 h k => h) ?_ ?_
      · rintro j hj D ws H3 Z k3 rfl keep skip
        have k3' := k2.trans k3
        walk_at "rd"
        refine ⟨rfl, ?_⟩
        walk_at "rd"
        refine sAndK (fun c H' => Kp Non H3 H' ∧ c = aheadOf h.rule st j i) (fun F hF => ?_) ?_
        · refine ifN (fun ne => ?_) (fun e => ?_)
          · walk_at "rd"
            refine sIxT (k3'.sqT hT) (atI_nat (j := 2) rfl) ?_
            walk_at "rd"
            refine ⟨h.rule, .ref u, st, j, i, st[j], st[i], by rw [Int.zero_add, Int.zero_add]; rfl, hs.kp k3', List.getElem?_eq_getElem hj, List.getElem?_eq_getElem hi, fun H4 e4 => ?_⟩
            walk_at "rd"
            exact hF _ _ ⟨e4, rfl⟩
          · have e : j = i := by omega
            subst e
            exact hF _ _ ⟨Kp.refl, (ahead_self _ _ _).symm⟩
        rintro c H4 ⟨e4, rfl⟩
        cases c : aheadOf h.rule st j i with
        | true =>
          refine iteT ?_
          walk_at "rd"
          refine keep _ _ e4 ?_
          dsimp only
          rw [List.range_succ, List.filter_append, List.filter_cons_of_pos (p := fun j => aheadOf h.rule st j i) c, List.filter_nil, List.map_append]
          show _ = _ ++ [V.int (j : Nat)]
          rw [Int.zero_add]
        | false =>
          refine iteF ?_
          refine skip _ e4 ?_
          dsimp only
          rw [List.range_succ, List.filter_append, List.filter_cons_of_neg (by rw [c]; decide), List.filter_nil, List.append_nil]
      · rintro D ws H3 rfl hwl k3 nD zD
        have k3' := k2.trans k3
        walk_at "rd"
        refine sLenL (.of zD) ?_
        walk_at "rd"
        refine sIxT (k3'.sqT hT) (atI_nat (j := 0) rfl) ?_
        walk_at "rd"
        have z3 := k3.same _ _ (fun z => z) z2
        have ylen : ys.length ≤ i := by
          rw [hy, List.length_map]
          exact Nat.le_trans (List.length_filter_le _ _) (Nat.le_of_eq List.length_range)
        refine ifD (fun c => ?_) (fun c => ?_)
        · rw [List.length_map] at c
          have c : ((List.range st.length).filter fun j => aheadOf h.rule st j i).length < h.hands := by omega
          walk_at "rd"
          refine sApp z3 (small1000 (by omega)) fun H4 e4 z4 => ?_
          walk_at "rd"
          refine ⟨_, _, _, _, rfl, z4, ?_, Kp.drop (p := p) ((k3'.wide fun b z => z.elim).trans (e4.wide fun b z => .inl z)) n1⟩
          rw [List.range_succ, List.filter_append, List.filter_cons_of_pos (by exact decide_eq_true c), List.filter_nil, List.map_append, hy]
          show _ = _ ++ [V.int (i : Nat)]
          rw [Int.zero_add]
        · rw [List.length_map] at c
          have c : ¬ ((List.range st.length).filter fun j => aheadOf h.rule st j i).length < h.hands := by omega
          walk_at "rd"
          refine ⟨_, _, _, ys, rfl, z3, ?_, k3'⟩
          rw [List.range_succ, List.filter_append, List.filter_cons_of_neg (by simpa using c), List.filter_nil, List.append_nil]
          exact hy
    · rintro _ H2 ⟨v1, v2, v3, ys, rfl, z2, hy, k2⟩
      walk_at "rd"
      refine sTupL (.of z2) fun w H3 e3 hw => ?_
      refine q _ _ (k2.trans e3) (.tup hw ?_)
      rw [hy]
      show TDs K H3 ((picks h.hands h.rule st).map fun n : Nat => V.int n) _
      generalize picks h.hands h.rule st = L
      induction L with
      | nil => exact .nil
      | cons a r ih => exact .cons (.int _) ih

def sp_q_people (K : PySem.W.Frag) : Sp := fun vs H Q _ => ∃ (d c : Addr) (b : Nat), vs = [.ref d] ∧ Feed H d c (b + 20) ∧
  ∀ (ps : List Comer) a xs H', ps.length ≤ 8 → (∀ x ∈ ps, ComerOk x) → H a = none → H' a = some (.lst xs) → TDs K H' xs (ps.map Comer.d) → Kp (At d) H H' → Feed H' d c b → Q (.ref a) H'
theorem sc_q_people : FnScope N_q_people ["_law_feed_here"] (defScope s_q_people) := ⟨rfl, rfl, rfl, by decide +kernel, rfl, by decide +kernel, by decide +kernel⟩
theorem ok_q_people (T : Txt K mg) : FnOk P w K mg base CX0 2 T.f_q_people T.fd_q_people ["_law_feed_here"] (sp_q_people K) := by
  refine T.F_q_people.ok sc_q_people (fun vs H Q E h => ?_) (fun cdv A out s H vs Q E hr h => ?_)
  · obtain ⟨d, c, b, rfl, hF, q⟩ := h
    rfl
  · obtain ⟨d, c, b, rfl, hF, q⟩ := h
    have hu := hu_of hr
    have hu1 : (A.deeper (envOfC "_law_people" (defScope s_q_people) s.heap.objs.size T.f_q_people cdv)).units + 160 < cLine := by have := hr.un; omega
    refine ⟨_, (pss_cons (ps_set (i := 1) sc_q_people.nd rfl (Or.inr rfl) (pe_ix (show IxR _ (rIxL K) from ix_list) (pe_lstG (pa_cons pe_int (pa_cons pe_int (pa_cons pe_int pa_nil)))) (pe_call (ok_q_draw T) (hr.mono (by decide)) (by rfl) T.m_q_draw T.F_q_draw.kp T.b_q_draw .nil pass0 (pa_cons (pv 0) (pa_cons pe_int pa_nil))) (fun _ _ => rfl)))
    (pss_one (ps_ret (pe_lc (own := [("_law_k", 2)]) (g := (gName 2)) (tt := tYes) rfl sc_q_people.nd (pi_range1 rfl T.z_range (pa_cons (pe_call (ok_q_draw T) (hr.mono (by decide)) (by rfl) T.m_q_draw T.F_q_draw.kp T.b_q_draw .nil pass0 (pa_cons (pv 0) (pa_cons pe_int pa_nil))) pa_nil)) (blkOk_by (N := N_q_people) (sc := defScope s_q_people) (by decide +kernel)) (fun _ _ _ _ _ => (pg_name (i := 2) sc_q_people.nd rfl (Or.inl rfl))) (fun _ _ _ _ _ => pts_nil) (fun _ _ _ _ _ => (pe_tupG (pa_cons (pe_call (ok_q_draw T) (hr.mono (by decide)) (by rfl) T.m_q_draw T.F_q_draw.kp T.b_q_draw .nil pass0 (pa_cons (pv 0) (pa_cons pe_int pa_nil))) (pa_cons (pe_op op_add pe_int (pe_call (ok_q_draw T) (hr.mono (by decide)) (by rfl) T.m_q_draw T.F_q_draw.kp T.b_q_draw .nil pass0 (pa_cons (pv 0) (pa_cons (pv 1) pa_nil)))) pa_nil)))))))), ?_⟩
    walk_at "rd"
    intro p1 H1 e1 n1 z1
    walk_at "rd"
    refine ⟨d, c, 3, b + 19, rfl, by omega, by omega, hF.non e1, fun n H2 n0 n1 e2 F2 => ?_⟩
    walk_at "rd"
    have hp1 : H2 p1 = some (.lst (([1, 2, 6] : List Int).map V.int)) := e2.same _ _ (fun z => (hF.live.1 (z ▸ ‹H p1 = none›)).elim) z1
    obtain ⟨w, hw, ew⟩ := atI_ints (ws := [1, 2, 6]) n0 n1
    refine sIxL (.of hp1) ew ?_
    have hw6 : 1 ≤ w ∧ w ≤ 6 := by
      simp only [List.mem_cons, List.not_mem_nil, or_false] at hw
      omega
    walk_at "rd"
    refine ⟨d, c, 9, b + 18, rfl, by omega, by omega, F2, fun n H3 n0 n1 e3 F3 => ?_⟩
    walk_at "rd"
    refine lcRange (S := At d) (n := n.toNat) (P := fun i ys H' => ∃ bt : List Comer, TDs K H' ys (bt.map Comer.d) ∧ bt.length = i ∧ (∀ x ∈ bt, ComerOk x) ∧ Feed H' d c (b + 2 * (9 - i)))
      n0 rfl (by omega) (fun b z => by rw [z]; exact F3.live.1) ?_ ?_ ?_ ?_
    · intro H' e'
      exact ⟨[], .nil, rfl, (fun _ z => nomatch z), (F3.non e').less (by omega)⟩
    · rintro D nD i ys H6 H7 ⟨bt, h1, h2, h3, h5⟩ k7
      obtain ⟨o1, o2⟩ := F3.off nD
      exact ⟨bt, h1.kp k7, h2, h3, h5.kp k7 o1 o2⟩
    · rintro i hi D ys H6 Z k6 ⟨bt, h1, h2, h3, h5⟩ keep skip
      walk_at "rd"
      refine ⟨rfl, ?_⟩
      walk_at "rd"
      refine ⟨d, c, 2, b + 2 * (9 - i) - 1, rfl, by omega, by omega, h5.less (by omega), fun r H7 r0 r1 e7 F7 => ?_⟩
      walk_at "rd"
      refine ⟨d, c, w, b + 2 * (9 - (i + 1)), rfl, by omega, by omega, F7.less (by omega), fun l H8 l0 l1 e8 F8 => ?_⟩
      walk_at "rd"
      intro u H9 e9 nu z9
      refine keep _ _ ((e7.trans e8).trans e9.non) ⟨bt ++ [⟨r.toNat, (1 + l).toNat⟩], ?_, by rw [List.length_append, h2]; rfl, ?_, F8.non e9⟩
      · rw [List.map_append]
        refine ((h1.kp e7).kp e8 |>.kp e9).append (.cons (TD.mkComer (.of ?_)) .nil)
        rw [z9]
        show _ = some (HO.tup [V.int (r.toNat : Int), V.int ((1 + l).toNat : Int)])
        rw [Int.toNat_of_nonneg r0, Int.toNat_of_nonneg (by omega)]
      · intro pr hpr
        rcases List.mem_append.mp hpr with z | z
        · exact h3 pr z
        · rw [List.mem_singleton.mp z]
          exact ⟨by show r.toNat < 2; omega, by show 1 ≤ (1 + l).toNat; omega, by show (1 + l).toNat ≤ 6; omega⟩
    · rintro D ys H6 ⟨bt, h1, h2, h3, h5⟩ _ k6 nD zD
      walk_at "rd"
      have k3 := (e1.non.trans e2).trans e3
      exact q bt D ys H6 (by omega) h3 (k3.live _ nD) zD h1 (k3.trans k6) (h5.less (by omega))

def sp_q_begun (K : PySem.W.Frag) : Sp := fun vs H Q _ => ∃ (d c a : Addr) (xs : List V) (ps : List Comer) (most b : Nat), vs = [.ref d, .ref a, .int most] ∧ H a = some (.lst xs) ∧ TDs K H xs (ps.map Comer.d) ∧ ps.length ≤ 20 ∧ most ≤ 20 ∧ Feed H d c (b + 30) ∧ c ≠ a ∧
  ∀ (st : List Person) v H', st.map (fun p => (⟨p.rank, p.left⟩ : Comer)) = ps → TD K H' v (standD st) → Kp (At d) H H' → Feed H' d c b → Q v H'
theorem sc_q_begun : FnScope N_q_begun ["_law_feed_here", "_law_people_here", "_law_most"] (defScope s_q_begun) := ⟨rfl, rfl, rfl, by decide +kernel, rfl, by decide +kernel, by decide +kernel⟩
theorem ok_q_begun (T : Txt K mg) : FnOk P w K mg base CX0 2 T.f_q_begun T.fd_q_begun ["_law_feed_here", "_law_people_here", "_law_most"] (sp_q_begun K) := by
  refine T.F_q_begun.ok sc_q_begun (fun vs H Q E h => ?_) (fun cdv A out s H vs Q E hr h => ?_)
  · obtain ⟨d, c, a, xs, ps, most, b, rfl, hA, hX, hl, hm, hF, q⟩ := h
    rfl
  · obtain ⟨d, c, a, xs, ps, most, b, rfl, hA, hX, hl, hm, hF, q⟩ := h
    have hu := hu_of hr
    have hu1 : (A.deeper (envOfC "_law_begun" (defScope s_q_begun) s.heap.objs.size T.f_q_begun cdv)).units + 160 < cLine := by have := hr.un; omega
    refine ⟨_, (pss_cons (ps_set (i := 3) sc_q_begun.nd rfl (Or.inr rfl) (pe_op op_repG (pe_lstG (pa_cons pe_bl pa_nil)) (pe_callB (show CallR _ _ (rLenG K) from call_lenG) (by rfl) T.z_len (by decide +kernel) (pa_cons (pv 1) pa_nil))))
    (pss_cons (ps_for PassesOwn.never rfl (pi_range1 rfl T.z_range (pa_cons (pe_callB (call_min2G rfl) (by rfl) T.z_min (by decide +kernel) (pa_cons (pe_callB (show CallR _ _ (rLenG K) from call_lenG) (by rfl) T.z_len (by decide +kernel) (pa_cons (pv 1) pa_nil)) (pa_cons (pe_call (ok_q_draw T) (hr.mono (by decide)) (by rfl) T.m_q_draw T.F_q_draw.kp T.b_q_draw .nil pass0 (pa_cons (pv 0) (pa_cons (pe_op op_add (pv 2) pe_int) pa_nil))) pa_nil))) pa_nil)) (pg_name (i := 4) sc_q_begun.nd rfl (Or.inl rfl))
      (pss_one (ps_asg pe_bl (pg_sub (pv 3) (pe_call (ok_q_draw T) (hr.mono (by decide)) (by rfl) T.m_q_draw T.F_q_draw.kp T.b_q_draw .nil pass0 (pa_cons (pv 0) (pa_cons (pe_callB (show CallR _ _ (rLenG K) from call_lenG) (by rfl) T.z_len (by decide +kernel) (pa_cons (pv 1) pa_nil)) pa_nil))) set_listG))))
    (pss_one (ps_ret (pe_callTy (show CallR _ _ (rTupG K) from call_tupleG) (by rfl) T.z_tuple (by decide +kernel) (pa_cons (pe_lc (own := [("_law_k", 4)]) (g := (gName 4)) (tt := tYes) rfl sc_q_begun.nd (pi_range1 rfl T.z_range (pa_cons (pe_callB (show CallR _ _ (rLenG K) from call_lenG) (by rfl) T.z_len (by decide +kernel) (pa_cons (pv 1) pa_nil)) pa_nil)) (blkOk_by (N := N_q_begun) (sc := defScope s_q_begun) (by decide +kernel)) (fun _ _ _ _ _ => (pg_name (i := 4) sc_q_begun.nd rfl (Or.inl rfl))) (fun _ _ _ _ _ => pts_nil) (fun _ _ _ _ _ => (pe_tupG (pa_cons (pe_ix (show IxR _ (rIxT K) from ix_tup) (pe_ix (show IxR _ (rIxL K) from ix_list) (pv 1) (pv 4) (fun _ _ => rfl)) pe_int (fun _ _ => rfl)) (pa_cons (pe_ix (show IxR _ (rIxT K) from ix_tup) (pe_ix (show IxR _ (rIxL K) from ix_list) (pv 1) (pv 4) (fun _ _ => rfl)) pe_int (fun _ _ => rfl)) (pa_cons (pe_ix (show IxR _ (rIxL K) from ix_list) (pv 3) (pv 4) (fun _ _ => rfl)) pa_nil)))))) pa_nil)))))), ?_⟩
    obtain ⟨nca, q⟩ := q
    have hxl : xs.length = ps.length := hX.lenMap
    have had : a ≠ d := fun z => by
      obtain ⟨ns, p, l, t, f, _⟩ := hF
      rw [z, f.dict] at hA
      cases hA
    walk_at "rd"
    intro p0 H1 e1 np0 z0
    walk_at "rd"
    refine sLenL (.of (e1.same _ _ (fun z => z) hA)) ?_
    walk_at "rd"
    refine sRep z0 (by omega) (by omega) (Nat.le_refl 1) fun p H3 e3 np z3 => ?_
    have k13 := e1.trans e3
    have F3 := hF.non k13
    have hpd : p ≠ d := fun z => by rw [z] at np; exact (hF.non e1).live.1 np
    have hpc : p ≠ c := fun z => by rw [z] at np; exact (hF.non e1).live.2 np
    have hpH : H p = none := e1.live _ np
    have hpa : p ≠ a := fun z => by rw [z, hA] at hpH; cases hpH
    have A3 := k13.same _ _ (fun z => z) hA
    have z3' : H3 p = some (.lst ((List.replicate ps.length false).map V.bl)) := by
      rw [z3, hxl]; simp [List.map_replicate]
    walk_at "rd"
    refine sLenL (.of A3) ?_
    walk_at "rd"
    refine ⟨d, c, most + 1, b + 29, rfl, by omega, by omega, F3, fun g H5 g0 g1 e5 F5 => ?_⟩
    walk_at "rd"
    rw [hxl]
    have hmn : ∀ i : Nat, i < (if g < (ps.length : Int) then g else (ps.length : Int)).toNat → i < 20 ∧ 0 < ps.length := by
      intro i hi
      split at hi <;> omega
    refine forRange (n := (if g < (ps.length : Int) then g else (ps.length : Int)).toNat) (fun i σ H' => ∃ (bs : List Bool) (kv : Option V), σ = [some (.ref d), some (.ref a), some (.int most), some (.ref p), kv] ∧
      bs.length = ps.length ∧ H' p = some (.lst (bs.map V.bl)) ∧ H' a = some (.lst xs) ∧ Kp (At d) H H' ∧ Feed H' d c (b + (25 - i))) rfl (by split <;> omega) (by split <;> omega) ?_ ?_ ?_
    · exact ⟨List.replicate ps.length false, none, rfl, List.length_replicate, e5.same _ _ hpd z3', e5.same _ _ had A3, k13.non.trans e5, F5.less (by omega)⟩
    · rintro i σ H6 hi ⟨bs, kv, rfl, hbl, z6, A6, k6, F6⟩
      obtain ⟨i1, kpos⟩ := hmn i hi
      walk_at "rd"
      refine sLenL (.of A6) ?_
      walk_at "rd"
      refine ⟨d, c, xs.length, b + (25 - (i + 1)), rfl, by omega, by omega, F6.less (by omega), fun j H7 j0 j1 e7 F7 => ?_⟩
      have z7 := e7.same _ _ hpd z6
      refine sSetL (j := j.toNat) z7 (by unfold ixN; rw [if_pos j0, if_pos (by rw [List.length_map]; omega)]) fun H8 e8 z8 => ?_
      walk_at "rd"
      refine ⟨bs.set j.toNat true, _, rfl, by rw [List.length_set]; exact hbl, by rw [z8, List.map_set], e8.same _ _ (fun z => hpa z.symm) (e7.same _ _ had A6), ?_, F7.kp e8 (fun z => hpd z.symm) (fun z => hpc z.symm)⟩
      exact Kp.drop (p := p) (((k6.trans e7).wide fun b z => .inr z).trans (e8.wide fun b z => .inl z)) hpH
    rintro σ H6 ⟨bs, kv, rfl, hbl, z6, A6, k6, F6⟩
    walk_at "rd"
    refine sLenL (.of A6) ?_
    walk_at "rd"
    have hX6 := hX.kp k6
    refine lcRange (S := Non) (n := ps.length) (P := fun i ys H' => ∃ st : List Person, TDs K H' ys (st.map Person.d) ∧ st.map (fun p => (⟨p.rank, p.left⟩ : Comer)) = ps.take i) (by omega) (by omega) (by omega) (fun b z => z.elim) ?_ ?_ ?_ ?_
    · exact fun H' e' => ⟨[], .nil, rfl⟩
    · rintro D nD i ys H7 H8 ⟨st, h1, h2⟩ k8
      exact ⟨st, h1.kp k8, h2⟩
    · rintro i hi D ys H7 Z k7 ⟨st, h1, h2⟩ keep skip
      have hc : ps[i]? = some ps[i] := List.getElem?_eq_getElem hi
      obtain ⟨x, hx, hx2⟩ : ∃ x, xs[i]? = some x ∧ TD K H7 x ps[i].d := (hX6.kp k7).at (by rw [List.getElem?_map, hc]; rfl)
      obtain ⟨t, rfl, hT⟩ := hx2.comer
      have hbi : i < bs.length := by omega
      have A7 := k7.same _ _ (fun z => z) A6
      have z7 := k7.same _ _ (fun z => z) z6
      walk_at "rd"
      refine ⟨rfl, ?_⟩
      walk_at "rd"
      refine sIxL (.of A7) (by rw [Int.zero_add]; exact atI_nat hx) ?_
      walk_at "rd"
      refine sIxT hT (atI_nat (j := 0) rfl) ?_
      walk_at "rd"
      refine sIxL (.of A7) (by rw [Int.zero_add]; exact atI_nat hx) ?_
      walk_at "rd"
      refine sIxT hT (atI_nat (j := 1) rfl) ?_
      walk_at "rd"
      refine sIxL (.of z7) (v := .bl bs[i]) (by rw [Int.zero_add]; exact atI_nat (by rw [List.getElem?_map, List.getElem?_eq_getElem hbi]; rfl)) ?_
      walk_at "rd"
      intro u H9 e9 nu z9
      refine keep _ _ e9 ⟨st ++ [⟨ps[i].rank, ps[i].work, bs[i]⟩], ?_, ?_⟩
      · rw [List.map_append]
        exact (h1.kp e9).append (.cons (TD.mkPerson (.of z9)) .nil)
      · rw [List.map_append, h2, List.take_add_one, hc]
        rfl
    · rintro D ys H7 ⟨st, h1, h2⟩ _ k7 nD zD
      walk_at "rd"
      refine sTupL (.of zD) fun w H8 e8 hw => ?_
      rw [List.take_length] at h2
      exact q st _ H8 h2 (.tup hw (h1.kp e8)) ((k6.trans k7.non).trans e8.non) (((F6.non k7).non e8).less (by omega))

def sp_law (K : PySem.W.Frag) : Sp := fun vs H Q _ => ∃ (a : Addr) (ns : List Int), vs = [.ref a] ∧ SqL K H a (ns.map V.int) ∧ ns.length ≤ 63 ∧ ∀ H', Q (.bl true) H'
theorem okOf {st : List Person} {ps : List Comer} (e : st.map (fun p => (⟨p.rank, p.left⟩ : Comer)) = ps) (h : ∀ x ∈ ps, ComerOk x) : ∀ p ∈ st, PersonOk p := by
  intro p hp
  have k := h ⟨p.rank, p.left⟩ (by rw [← e]; exact List.mem_map.mpr ⟨p, hp, rfl⟩)
  exact ⟨k.rk, k.w1, k.w6⟩
theorem sc_law : FnScope N_law ["_law_script"] (defScope s_law) := ⟨rfl, rfl, rfl, by decide +kernel, rfl, by decide +kernel, by decide +kernel⟩
theorem ok_law (T : Txt K mg) : FnG P w K mg base CX0 3 T.f_law T.fd_law ["_law_script"] (sp_law K) := by
  refine okG0 T.F_law sc_law (fun vs H Q E h => ?_) (fun cdv A out s H vs Q E hgd hr h => ?_)
  · obtain ⟨a, ns, rfl, hS, hl, q⟩ := h
    rfl
  · obtain ⟨a, ns, rfl, hS, hl, q⟩ := h
    have hu := hu_of hr
    have hu1 : (A.deeper (envOfC "law" (defScope s_law) s.heap.objs.size T.f_law cdv)).units + 160 < cLine := by have := hr.un; omega
    refine ⟨_, (pss_cons (ps_set (i := 1) sc_law.nd rfl (Or.inl rfl) (pe_call (ok_q_feed T) (hr.mono (by decide)) (by rfl) T.m_q_feed T.F_q_feed.kp T.b_q_feed .nil pass0 (pa_cons (pv 0) pa_nil)))
    (pss_cons (ps_for PassesOwn.never rfl (pi_range1 rfl T.z_range (pa_cons pe_int pa_nil)) (pg_name (i := 2) sc_law.nd rfl (Or.inl rfl))
      (pss_cons (ps_set (i := 3) sc_law.nd rfl (Or.inl rfl) (pe_call (ok_q_people T) (hr.mono (by decide)) (by rfl) T.m_q_people T.F_q_people.kp T.b_q_people .nil pass0 (pa_cons (pv 1) pa_nil)))
    (pss_cons (ps_set (i := 4) sc_law.nd rfl (Or.inl rfl) (pe_op op_add pe_int (pe_call (ok_q_draw T) (hr.mono (by decide)) (by rfl) T.m_q_draw T.F_q_draw.kp T.b_q_draw .nil pass0 (pa_cons (pv 1) (pa_cons pe_int pa_nil)))))
    (pss_cons (ps_set (i := 5) sc_law.nd rfl (Or.inl rfl) (pe_call (ok_q_begun T) (hr.mono (by decide)) (by rfl) T.m_q_begun T.F_q_begun.kp T.b_q_begun .nil pass0 (pa_cons (pv 1) (pa_cons (pv 3) (pa_cons (pv 4) pa_nil)))))
    (pss_cons (ps_set (i := 6) sc_law.nd rfl (Or.inl rfl) (pe_call (ok_q_begun T) (hr.mono (by decide)) (by rfl) T.m_q_begun T.F_q_begun.kp T.b_q_begun .nil pass0 (pa_cons (pv 1) (pa_cons (pv 3) (pa_cons pe_int pa_nil)))))
    (pss_cons (ps_set (i := 7) sc_law.nd rfl (Or.inl rfl) (pe_ix (show IxR _ (rIxL K) from ix_list) (pe_lstG (pa_cons pe_non (pa_cons pe_int (pa_cons (pe_callB (show CallR _ _ (rLenG K) from call_lenG) (by rfl) T.z_len (by decide +kernel) (pa_cons (pv 3) pa_nil)) pa_nil)))) (pe_call (ok_q_draw T) (hr.mono (by decide)) (by rfl) T.m_q_draw T.F_q_draw.kp T.b_q_draw .nil pass0 (pa_cons (pv 1) (pa_cons pe_int pa_nil))) (fun _ _ => rfl)))
    (pss_cons (ps_if (pt_cmpR op_gt (pe_callB (show CallR _ _ (rLenG K) from call_lenG) (by rfl) T.z_len (by decide +kernel) (pa_cons (pv 3) pa_nil)) pe_int (nomark _))
      (pss_one (ps_set (i := 7) sc_law.nd rfl (Or.inl rfl) pe_non))
      pss_nil)
    (pss_one (ps_for PassesOwn.never rfl (show PI _ _ _ (iList K _) from pi_list (pe_op op_repG (pe_lstG (pa_cons pe_str (pa_cons pe_str (pa_cons pe_str (pa_cons pe_str (pa_cons pe_str (pa_cons pe_str (pa_cons pe_str (pa_cons pe_str pa_nil))))))))) pe_int)) (pg_name (i := 8) sc_law.nd rfl (Or.inl rfl))
      (pss_cons (ps_set (i := 9) sc_law.nd rfl (Or.inl rfl) (pe_ifExp (pt_cmpR (show OpR _ _ (rIn K false) from op_in_seq) (pv 8) (pe_tupG (pa_cons pe_str (pa_cons pe_str (pa_cons pe_str (pa_cons pe_str pa_nil))))) (by rfl)) (pv 5) (pv 6)))
    (pss_cons (ps_set (i := 10) sc_law.nd rfl (Or.inl rfl) (pe_tupG (pa_cons (pv 4) (pa_cons (pv 7) (pa_cons (pv 8) pa_nil)))))
    (pss_cons (ps_set (i := 11) sc_law.nd rfl (Or.inl rfl) (pe_callB (show CallR _ _ (rRepr K) from (call_repr hgd hu1)) (by rfl) T.z_repr (by decide +kernel) (pa_cons (pe_tupG (pa_cons (pv 10) (pa_cons (pv 9) pa_nil))) pa_nil)))
    (pss_cons (ps_set (i := 12) sc_law.nd rfl (Or.inl rfl) (pe_call (ok_q_picks T) (hr.mono (by decide)) (by rfl) T.m_q_picks T.F_q_picks.kp T.b_q_picks .nil pass0 (pa_cons (pv 10) (pa_cons (pv 9) pa_nil))))
    (pss_cons (ps_if (PW.pt (pw_or (pt_cmpR op_ne (pe_callB (show CallR _ _ (rRepr K) from (call_repr hgd hu1)) (by rfl) T.z_repr (by decide +kernel) (pa_cons (pe_call (ok_p_picked T) (hr.mono (by decide)) (by rfl) T.m_p_picked T.F_p_picked.kp T.b_p_picked .nil pass0 (pa_cons (pv 10) (pa_cons (pv 9) pa_nil))) pa_nil)) (pe_callB (show CallR _ _ (rRepr K) from (call_repr hgd hu1)) (by rfl) T.z_repr (by decide +kernel) (pa_cons (pv 12) pa_nil)) (nomark _)) (pw_or1 (pt_cmpR op_ne (pe_callB (show CallR _ _ (rRepr K) from (call_repr hgd hu1)) (by rfl) T.z_repr (by decide +kernel) (pa_cons (pe_call (ok_p_in_hand T) (hr.mono (by decide)) (by rfl) T.m_p_in_hand T.F_p_in_hand.kp T.b_p_in_hand .nil pass0 (pa_cons (pv 10) (pa_cons (pv 9) pa_nil))) pa_nil)) (pe_callB (show CallR _ _ (rRepr K) from (call_repr hgd hu1)) (by rfl) T.z_repr (by decide +kernel) (pa_cons (pe_callB (show CallR _ _ (rLenG K) from call_lenG) (by rfl) T.z_len (by decide +kernel) (pa_cons (pv 12) pa_nil)) pa_nil)) (nomark _)))))
      (pss_one (ps_ret pe_bl))
      pss_nil)
    (pss_one (ps_if (pt_cmpR op_ne (pe_callB (show CallR _ _ (rRepr K) from (call_repr hgd hu1)) (by rfl) T.z_repr (by decide +kernel) (pa_cons (pe_tupG (pa_cons (pv 10) (pa_cons (pv 9) pa_nil))) pa_nil)) (pv 11) (nomark _))
      (pss_one (ps_ret pe_bl))
      pss_nil))))))))))))))))
    (pss_one (ps_ret pe_bl)))), ?_⟩
    walk_at "rd"
    refine ⟨a, ns, rfl, hS, hl, fun d c H1 e1 nd nc F1 => ?_⟩
    walk_at "rd"
    refine forRange (n := 4) (fun i σ H' => ∃ w1 w2 w3 w4 w5 w6 w7 w8 w9 w10 w11, σ = [some (.ref a), some (.ref d), w1, w2, w3, w4, w5, w6, w7, w8, w9, w10, w11] ∧ Feed H' d c (500 + 110 * (4 - i)))
      rfl (by omega) (by omega) ⟨none, none, none, none, none, none, none, none, none, none, none, rfl, F1.less (by omega)⟩ ?_ ?_
    · rintro i σ H2 hi ⟨w1, w2, w3, w4, w5, w6, w7, w8, w9, w10, w11, rfl, F2⟩
      walk_at "rd"
      refine ⟨d, c, 500 + 110 * (4 - i) - 20, rfl, F2.less (by omega), fun ps pa pxs H3 hpl hpo npa zpa hpx e3 F3 => ?_⟩
      have nca : c ≠ pa := fun z => F2.live.2 (z ▸ npa)
      have nda : pa ≠ d := fun z => F2.live.1 (z ▸ npa)
      have hpxl : pxs.length = ps.length := hpx.lenMap
      walk_at "rd"
      refine ⟨d, c, 3, 500 + 110 * (4 - i) - 21, rfl, by omega, by omega, F3.less (by omega), fun h0 H4 h00 h01 e4 F4 => ?_⟩
      obtain ⟨hn, hn1, hn2, hn3⟩ : ∃ hn : Nat, 1 + h0 = (hn : Int) ∧ 1 ≤ hn ∧ hn ≤ 3 := ⟨(1 + h0).toNat, by omega, by omega, by omega⟩
      walk_at "rd"
      rw [hn1]
      have z4 := e4.same _ _ nda zpa
      refine ⟨d, c, pa, pxs, ps, hn, 500 + 110 * (4 - i) - 55, rfl, z4, hpx.kp e4, by omega, by omega, F4.less (by omega), nca, fun st1 sv1 H5 hm1 hs1 e5 F5 => ?_⟩
      have z5 := e5.same _ _ nda z4
      walk_at "rd"
      refine ⟨d, c, pa, pxs, ps, 0, 500 + 110 * (4 - i) - 95, rfl, z5, (hpx.kp e4).kp e5, by omega, by omega, F5.less (by omega), nca, fun st2 sv2 H6 hm2 hs2 e6 F6 => ?_⟩
      have z6 := e6.same _ _ nda z5
      have hs1 := hs1.kp e6
      have ok1 := okOf hm1 hpo
      have ok2 := okOf hm2 hpo
      have l1 : st1.length = ps.length := by rw [← hm1, List.length_map]
      have l2 : st2.length = ps.length := by rw [← hm2, List.length_map]
      walk_at "rd"
      refine sLenL (.of z6) ?_
      walk_at "rd"
      intro p7 H7 e7 n7 z7
      walk_at "rd"
      refine ⟨d, c, 3, 500 + 110 * (4 - i) - 100, rfl, by omega, by omega, (F6.non e7).less (by omega), fun k H8 k0 k1 e8 F8 => ?_⟩
      have z8 := e8.same _ _ (fun z => F6.live.1 (z ▸ n7)) z7
      obtain ⟨hk, ek⟩ := atI_of (xs := [V.non, V.int 6, V.int pxs.length]) k0 k1
      refine sIxL (.of z8) ek ?_
      have hv : ∃ o : Option Nat, ([V.non, V.int 6, V.int pxs.length])[k.toNat] = optV o ∧ ∀ n, o = some n → n ≤ 6 ∨ n = ps.length := by
        have h3 : k.toNat < 3 := hk
        generalize k.toNat = m at hk h3
        match m, h3 with
        | 0, _ => exact ⟨none, rfl, fun n z => nomatch z⟩
        | 1, _ => exact ⟨some 6, rfl, fun n z => by cases z; exact .inl (Nat.le_refl _)⟩
        | 2, _ => exact ⟨some pxs.length, rfl, fun n z => by cases z; exact .inr hpxl⟩
      obtain ⟨o, ho, ho2⟩ := hv
      rw [ho]
      walk_at "rd"
      have A8 := e8.same _ _ nda (e7.same _ _ (fun z => z) z6)
      refine sLenL (.of A8) ?_
      walk_at "rd"
      have k68 : Kp (At d) H6 H8 := e7.non.trans e8
      have F8 := F8.less (b' := 500 + 110 * (4 - (i + 1))) (by omega)
      refine sIfJ (fun σ H' => H' = H8 ∧ ∃ o' : Option Nat, (∀ n, o' = some n → n ≤ 6) ∧ σ = [some (.ref a), some (.ref d), some (.int (0 + i)), some (.ref pa), some (.int hn), some sv1, some sv2, some (optV o'), w7, w8, w9, w10, w11]) (fun F' hF' => ?_) ?_
      · refine ifD (fun z => ?_) (fun z => ?_)
        · walk_at "rd"
          exact hF' _ _ ⟨rfl, none, (fun n z => nomatch z), rfl⟩
        · walk_at "rd"
          exact hF' _ _ ⟨rfl, o, (fun n z2 => by rcases ho2 n z2 with z3 | z3 <;> omega), rfl⟩
      rintro _ _ ⟨rfl, o', ho', rfl⟩
      walk_at "rd"
      intro p9 H9 e9 n9 z9
      walk_at "rd"
      refine sRepS z9 (by omega) (by omega) (by show 8 ≤ 100; decide) fun p10 H10 e10 n10 z10 => ?_
      walk_at "rd"
      have k10 := e9.trans e10
      have F10 := F8.non k10
      have hs1 := (hs1.kp k68).kp k10
      have hs2 := (hs2.kp k68).kp k10
      refine forList (xs := (List.replicate 2 (words8.map V.str)).flatten) (fun j σ H' => ∃ v1 v2 v3 v4 v5, σ = [some (.ref a), some (.ref d), some (.int (0 + i)), some (.ref pa), some (.int hn), some sv1, some sv2, some (optV o'), v1, v2, v3, v4, v5] ∧ Kp Non H10 H')
        (fun j σ H' ⟨v1, v2, v3, v4, v5, _, k⟩ => k.sqL (fun z => z) (.of z10)) ⟨_, _, _, _, _, rfl, Kp.refl⟩ ?_ ?_
      · rintro j x σ H11 hx ⟨v1, v2, v3, v4, v5, rfl, k11⟩
        obtain ⟨w, hw, rfl⟩ : ∃ w ∈ words8, x = .str w := by
          obtain ⟨l, hl1, hl2⟩ := List.mem_flatten.mp (List.mem_of_getElem? hx)
          rw [List.mem_replicate] at hl1
          rw [hl1.2] at hl2
          obtain ⟨w, hw, e⟩ := List.mem_map.mp hl2
          exact ⟨w, hw, e.symm⟩
        walk_at "rd"
        intro p12 H12 e12 n12 z12
        refine sInTS (ws := keep4) (.of z12) ?_
        walk_at "rd"
        have hs1 := (hs1.kp k11).kp e12
        have hs2 := (hs2.kp k11).kp e12
        refine sIfE (fun v => ∃ st, TD K H12 v (standD st) ∧ (∀ p ∈ st, PersonOk p) ∧ st.length ≤ 8) (fun F hG => ?_) ?_
        · refine ifD (fun _ => ?_) (fun _ => ?_)
          · walk_at "rd"
            exact hG _ ⟨st1, hs1, ok1, by omega⟩
          · walk_at "rd"
            exact hG _ ⟨st2, hs2, ok2, by omega⟩
        rintro sv ⟨st, hst, hok, hl8⟩
        walk_at "rd"
        intro ph H13 e13 n13 z13
        have hh : TD K H13 (.ref ph) (House.mk hn o' w).d := TD.mkHouse (.of z13)
        have hk : HouseOk (House.mk hn o' w) := ⟨hn2, hn3, ho', hw⟩
        have hst := hst.kp e13
        have shT : Sh 3 3000 (.tuple [(House.mk hn o' w).d, standD st]) :=
          (Sh.tup (dp := 2) (.cons ((shHouse hk).mono (by omega) (Nat.le_refl _)) (.cons ((shStand hok).mono (Nat.le_refl _) (by omega : st.length * 124 ≤ 2480)) (.nil (n := 0))))).mono (by omega) (by omega)
        have plen : (picks hn w st).length ≤ 8 := by rw [picks_length]; omega
        have shP : Sh 1 400 (natsD (picks hn w st)) := (shNats fun n h => by have := picks_lt h; omega).mono (Nat.le_refl _) (by omega)
        walk_at "rd"
        intro p14 H14 e14 n14 z14
        walk_at "rd"
        refine sReprS (TD.tup (.of z14) (.cons (hh.kp e14) (.cons (hst.kp e14) .nil))).dp shT (by omega) (by omega) ?_
        walk_at "rd"
        refine ⟨.ref ph, sv, House.mk hn o' w, st, rfl, hh.kp e14, hst.kp e14, by omega, fun r1 H15 e15 hr1 => ?_⟩
        have k15 := e14.trans e15
        walk_at "rd"
        refine ⟨.ref ph, sv, House.mk hn o' w, st, rfl, hh.kp k15, hst.kp k15, by omega, fun r2 H16 e16 hr2 => ?_⟩
        have k16 := k15.trans e16
        walk_at "rd"
        refine sReprS hr2.dp shP (by omega) (by omega) ?_
        walk_at "rd"
        refine sReprS (hr1.kp e16).dp shP (by omega) (by omega) ?_
        walk_at "rd"
        refine iteNS rfl ?_
        walk_at "rd"
        refine ⟨.ref ph, sv, House.mk hn o' w, st, rfl, hh.kp k16, hst.kp k16, ?_⟩
        walk_at "rd"
        refine sReprS (Dp.int _) (Sh.int ?_) (by omega : (0 : Nat) ≤ 100) (by omega) ?_
        · show (((min hn st.length : Nat) : Int)).natAbs < _
          omega
        walk_at "rd"
        obtain ⟨wa, ws, rfl, hw1, hw2⟩ := (hr1.kp e16).ref
        have hwl : ws.length = (picks hn w st).length := hw2.lenMap
        refine sLenT hw1 ?_
        walk_at "rd"
        refine sReprS (Dp.int _) (Sh.int ?_) (by omega : (0 : Nat) ≤ 100) (by omega) ?_
        · omega
        walk_at "rd"
        refine iteNS (by rw [hwl, picks_length]) ?_
        walk_at "rd"
        intro p17 H17 e17 n17 z17
        have k17 := k16.trans e17
        walk_at "rd"
        refine sReprS (TD.tup (.of z17) (.cons (hh.kp k17) (.cons (hst.kp k17) .nil))).dp shT (by omega) (by omega) ?_
        walk_at "rd"
        refine iteNS rfl ?_
        walk_at "rd"
        exact ⟨_, _, _, _, _, rfl, (k11.trans e12).trans (e13.trans k17)⟩
      · rintro σ H11 ⟨v1, v2, v3, v4, v5, rfl, k11⟩
        exact ⟨_, _, _, _, _, _, _, _, _, _, _, rfl, F10.non k11⟩
    · rintro σ H2 ⟨w1, w2, w3, w4, w5, w6, w7, w8, w9, w10, w11, rfl, F2⟩
      walk_at "rd"
      exact q _

end
theorem all_mk {l : PySem.W.OpenLaw} {w : World} {K : PySem.W.Frag} {h : Heap} {mg : Str → Option Value} {fa f0 f1 f2 f3 f4 f5 f6 f7 f8 f9 : Addr} (X : K.In h) (G : h.Ns mainGlobals mg) (hfa : mg "law" = some (.ref fa))
    {od0 an0 : Option Addr} {sl0 : Array (Option Value)} {oc0 kV0 dc0 pm0 cd0 ct0 : Value}
    (a0 : PySem.W.nsIn K mainGlobals "in_hand" = some (some (.ref f0)))
    (l0 : K.lookup f0 = some ⟨oc0, od0, .func (PySem.W.fnOf "in_hand" "in_hand" (defArgs s_p_in_hand) (defBody s_p_in_hand) (defScope s_p_in_hand) .none kV0 dc0 pm0 an0 cd0 ct0), sl0⟩)
    (c0 : PySem.W.codeIn K cd0 "in_hand" = true) (k0 : PySem.W.keepIn K (.ref f0) = true)
    {od1 an1 : Option Addr} {sl1 : Array (Option Value)} {oc1 kV1 dc1 pm1 cd1 ct1 : Value}
    (a1 : PySem.W.nsIn K mainGlobals "turn_of" = some (some (.ref f1)))
    (l1 : K.lookup f1 = some ⟨oc1, od1, .func (PySem.W.fnOf "turn_of" "turn_of" (defArgs s_p_turn_of) (defBody s_p_turn_of) (defScope s_p_turn_of) .none kV1 dc1 pm1 an1 cd1 ct1), sl1⟩)
    (c1 : PySem.W.codeIn K cd1 "turn_of" = true) (k1 : PySem.W.keepIn K (.ref f1) = true)
    {od2 an2 : Option Addr} {sl2 : Array (Option Value)} {oc2 kV2 dc2 pm2 cd2 ct2 : Value}
    (a2 : PySem.W.nsIn K mainGlobals "picked" = some (some (.ref f2)))
    (l2 : K.lookup f2 = some ⟨oc2, od2, .func (PySem.W.fnOf "picked" "picked" (defArgs s_p_picked) (defBody s_p_picked) (defScope s_p_picked) .none kV2 dc2 pm2 an2 cd2 ct2), sl2⟩)
    (c2 : PySem.W.codeIn K cd2 "picked" = true) (k2 : PySem.W.keepIn K (.ref f2) = true)
    {od3 an3 : Option Addr} {sl3 : Array (Option Value)} {oc3 kV3 dc3 pm3 cd3 ct3 : Value}
    (a3 : PySem.W.nsIn K mainGlobals "_law_feed" = some (some (.ref f3)))
    (l3 : K.lookup f3 = some ⟨oc3, od3, .func (PySem.W.fnOf "_law_feed" "_law_feed" (defArgs s_q_feed) (defBody s_q_feed) (defScope s_q_feed) .none kV3 dc3 pm3 an3 cd3 ct3), sl3⟩)
    (c3 : PySem.W.codeIn K cd3 "_law_feed" = true) (k3 : PySem.W.keepIn K (.ref f3) = true)
    {od4 an4 : Option Addr} {sl4 : Array (Option Value)} {oc4 kV4 dc4 pm4 cd4 ct4 : Value}
    (a4 : PySem.W.nsIn K mainGlobals "_law_draw" = some (some (.ref f4)))
    (l4 : K.lookup f4 = some ⟨oc4, od4, .func (PySem.W.fnOf "_law_draw" "_law_draw" (defArgs s_q_draw) (defBody s_q_draw) (defScope s_q_draw) .none kV4 dc4 pm4 an4 cd4 ct4), sl4⟩)
    (c4 : PySem.W.codeIn K cd4 "_law_draw" = true) (k4 : PySem.W.keepIn K (.ref f4) = true)
    {od5 an5 : Option Addr} {sl5 : Array (Option Value)} {oc5 kV5 dc5 pm5 cd5 ct5 : Value}
    (a5 : PySem.W.nsIn K mainGlobals "_law_sooner" = some (some (.ref f5)))
    (l5 : K.lookup f5 = some ⟨oc5, od5, .func (PySem.W.fnOf "_law_sooner" "_law_sooner" (defArgs s_q_sooner) (defBody s_q_sooner) (defScope s_q_sooner) .none kV5 dc5 pm5 an5 cd5 ct5), sl5⟩)
    (c5 : PySem.W.codeIn K cd5 "_law_sooner" = true) (k5 : PySem.W.keepIn K (.ref f5) = true)
    {od6 an6 : Option Addr} {sl6 : Array (Option Value)} {oc6 kV6 dc6 pm6 cd6 ct6 : Value}
    (a6 : PySem.W.nsIn K mainGlobals "_law_picks" = some (some (.ref f6)))
    (l6 : K.lookup f6 = some ⟨oc6, od6, .func (PySem.W.fnOf "_law_picks" "_law_picks" (defArgs s_q_picks) (defBody s_q_picks) (defScope s_q_picks) .none kV6 dc6 pm6 an6 cd6 ct6), sl6⟩)
    (c6 : PySem.W.codeIn K cd6 "_law_picks" = true) (k6 : PySem.W.keepIn K (.ref f6) = true)
    {od7 an7 : Option Addr} {sl7 : Array (Option Value)} {oc7 kV7 dc7 pm7 cd7 ct7 : Value}
    (a7 : PySem.W.nsIn K mainGlobals "_law_people" = some (some (.ref f7)))
    (l7 : K.lookup f7 = some ⟨oc7, od7, .func (PySem.W.fnOf "_law_people" "_law_people" (defArgs s_q_people) (defBody s_q_people) (defScope s_q_people) .none kV7 dc7 pm7 an7 cd7 ct7), sl7⟩)
    (c7 : PySem.W.codeIn K cd7 "_law_people" = true) (k7 : PySem.W.keepIn K (.ref f7) = true)
    {od8 an8 : Option Addr} {sl8 : Array (Option Value)} {oc8 kV8 dc8 pm8 cd8 ct8 : Value}
    (a8 : PySem.W.nsIn K mainGlobals "_law_begun" = some (some (.ref f8)))
    (l8 : K.lookup f8 = some ⟨oc8, od8, .func (PySem.W.fnOf "_law_begun" "_law_begun" (defArgs s_q_begun) (defBody s_q_begun) (defScope s_q_begun) .none kV8 dc8 pm8 an8 cd8 ct8), sl8⟩)
    (c8 : PySem.W.codeIn K cd8 "_law_begun" = true) (k8 : PySem.W.keepIn K (.ref f8) = true)
    {od9 an9 : Option Addr} {sl9 : Array (Option Value)} {oc9 kV9 dc9 pm9 cd9 ct9 : Value}
    (a9 : PySem.W.nsIn K mainGlobals "law" = some (some (.ref f9)))
    (l9 : K.lookup f9 = some ⟨oc9, od9, .func (PySem.W.fnOf "law" "law" (defArgs s_law) (defBody s_law) (defScope s_law) .none kV9 dc9 pm9 an9 cd9 ct9), sl9⟩)
    (c9 : PySem.W.codeIn K cd9 "law" = true) (k9 : PySem.W.keepIn K (.ref f9) = true)
    (z_min : PySem.W.nsIn K mainGlobals "min" = some none)
    (z_len : PySem.W.nsIn K mainGlobals "len" = some none)
    (z_int : PySem.W.nsIn K mainGlobals "int" = some none)
    (z_tuple : PySem.W.nsIn K mainGlobals "tuple" = some none)
    (z_sorted : PySem.W.nsIn K mainGlobals "sorted" = some none)
    (z_range : PySem.W.nsIn K mainGlobals "range" = some none)
    (z_repr : PySem.W.nsIn K mainGlobals "repr" = some none)
    : ∃ fd : FuncData, (∀ (s : Shared) (v : Value), BindsTo s fd ⟨[v], []⟩ [("_law_script", v)]) ∧ ∀ base : Heap, K.In base → base.Ns mainGlobals mg → FnG l.prog w K mg base CX0 3 fa fd ["_law_script"] (sp_law K) := by
  have e := hfa.symm.trans (PySem.W.mg_of X G a9)
  cases e
  have F0 := fun_mk (st := s_p_in_hand) l0 c0 k0
  have b0 := F0.binds (ps := ["house", "stand"]) fun _ _ _ _ _ _ us hl => match us, hl with | [_, _], _ => rfl
  have F1 := fun_mk (st := s_p_turn_of) l1 c1 k1
  have b1 := F1.binds (ps := ["rule", "stand", "place"]) fun _ _ _ _ _ _ us hl => match us, hl with | [_, _, _], _ => rfl
  have F2 := fun_mk (st := s_p_picked) l2 c2 k2
  have b2 := F2.binds (ps := ["house", "stand"]) fun _ _ _ _ _ _ us hl => match us, hl with | [_, _], _ => rfl
  have F3 := fun_mk (st := s_q_feed) l3 c3 k3
  have b3 := F3.binds (ps := ["_law_script"]) fun _ _ _ _ _ _ us hl => match us, hl with | [_], _ => rfl
  have F4 := fun_mk (st := s_q_draw) l4 c4 k4
  have b4 := F4.binds (ps := ["_law_feed_here", "_law_many"]) fun _ _ _ _ _ _ us hl => match us, hl with | [_, _], _ => rfl
  have F5 := fun_mk (st := s_q_sooner) l5 c5 k5
  have b5 := F5.binds (ps := ["_law_rule", "_law_stand", "_law_one", "_law_other"]) fun _ _ _ _ _ _ us hl => match us, hl with | [_, _, _, _], _ => rfl
  have F6 := fun_mk (st := s_q_picks) l6 c6 k6
  have b6 := F6.binds (ps := ["_law_house", "_law_stand"]) fun _ _ _ _ _ _ us hl => match us, hl with | [_, _], _ => rfl
  have F7 := fun_mk (st := s_q_people) l7 c7 k7
  have b7 := F7.binds (ps := ["_law_feed_here"]) fun _ _ _ _ _ _ us hl => match us, hl with | [_], _ => rfl
  have F8 := fun_mk (st := s_q_begun) l8 c8 k8
  have b8 := F8.binds (ps := ["_law_feed_here", "_law_people_here", "_law_most"]) fun _ _ _ _ _ _ us hl => match us, hl with | [_, _, _], _ => rfl
  have F9 := fun_mk (st := s_law) l9 c9 k9
  have b9 := F9.binds (ps := ["_law_script"]) fun _ _ _ _ _ _ us hl => match us, hl with | [_], _ => rfl
  let T : Txt K mg := ⟨f0, _, F0, PySem.W.mg_of X G a0, b0, f1, _, F1, PySem.W.mg_of X G a1, b1, f2, _, F2, PySem.W.mg_of X G a2, b2, f3, _, F3, PySem.W.mg_of X G a3, b3, f4, _, F4, PySem.W.mg_of X G a4, b4, f5, _, F5, PySem.W.mg_of X G a5, b5, f6, _, F6, PySem.W.mg_of X G a6, b6, f7, _, F7, PySem.W.mg_of X G a7, b7, f8, _, F8, PySem.W.mg_of X G a8, b8, fa, _, F9, PySem.W.mg_of X G a9, b9, PySem.W.mg_none_of X G z_min, PySem.W.mg_none_of X G z_len, PySem.W.mg_none_of X G z_int, PySem.W.mg_none_of X G z_tuple, PySem.W.mg_none_of X G z_sorted, PySem.W.mg_none_of X G z_range, PySem.W.mg_none_of X G z_repr⟩
  exact ⟨T.fd_law, fun s v => .of_eq rfl, fun base _ _ => ok_law T⟩
theorem walk {l : PySem.W.OpenLaw} {q : Program} {loose : List Str} {XP : (Str → Option Value) → Heap → Prop} {YP : World → Heap → Prop} {d : DefRec} {K : Params → PySem.W.Frag} (hn : l.most = some 63) (hdf : d.params.defaults = [])
    (hY : ∀ (w : World) (h : Heap), YP w h → (K w.params).In h)
    (F : ∀ (w : World) (mg : Str → Option Value) (fa : Addr) (h : Heap), (K w.params).In h → h.Ns mainGlobals mg → mg d.name = some (.ref fa) →
      ∃ fd : FuncData, (∀ (s : Shared) (u : Value), BindsTo s fd ⟨[u], []⟩ [("_law_script", u)]) ∧ ∀ base : Heap, (K w.params).In base → base.Ns mainGlobals mg → FnG l.prog w (K w.params) mg base CX0 3 fa fd ["_law_script"] (sp_law (K w.params))) :
    PySem.W.WalkO q loose XP YP l.row.toRowW d [] (fun f vs => PySem.call f vs) :=
  walkG (n := 63) (k := 3) (x := "_law_script") (sp := fun w => sp_law (K w.params)) hn (by decide) hdf ⟨rfl, by decide, by decide⟩ hY F (fun _ _ a ns hl _ hS => ⟨a, ns, rfl, hS, hl, fun _ => rfl⟩)
end Hw
open PySem PySem.W PyProof.Rows
set_option maxRecDepth 100000 in
set_option maxHeartbeats 0 in
theorem PySem.Challenge.cw_hatchwaits_k11_who_is_picked_holds : PySem.Challenge.rw_hatchwaits_k11_who_is_picked.Holds := by
  w_on; o_law; k_head; (case hw => w_witness2)
  k_fill
  refine Hw.walk (l := PySem.Challenge.rw_hatchwaits_k11_who_is_picked) rfl rfl (fun w h Y => PySem.W.kIn_of Y) ?F
  case F =>
    intro w mg fa h KX G hmg
    refine' Hw.all_mk KX G hmg ?a0 ?l0 ?c0 ?k0 ?a1 ?l1 ?c1 ?k1 ?a2 ?l2 ?c2 ?k2 ?a3 ?l3 ?c3 ?k3 ?a4 ?l4 ?c4 ?k4 ?a5 ?l5 ?c5 ?k5 ?a6 ?l6 ?c6 ?k6 ?a7 ?l7 ?c7 ?k7 ?a8 ?l8 ?c8 ?k8 ?a9 ?l9 ?c9 ?k9 ?z_min ?z_len ?z_int ?z_tuple ?z_sorted ?z_range ?z_repr
    (case a0 => k_is); (case l0 => k_is); (case c0 => k_is); (case k0 => k_is)
    (case a1 => k_is); (case l1 => k_is); (case c1 => k_is); (case k1 => k_is)
    (case a2 => k_is); (case l2 => k_is); (case c2 => k_is); (case k2 => k_is)
    (case a3 => k_is); (case l3 => k_is); (case c3 => k_is); (case k3 => k_is)
    (case a4 => k_is); (case l4 => k_is); (case c4 => k_is); (case k4 => k_is)
    (case a5 => k_is); (case l5 => k_is); (case c5 => k_is); (case k5 => k_is)
    (case a6 => k_is); (case l6 => k_is); (case c6 => k_is); (case k6 => k_is)
    (case a7 => k_is); (case l7 => k_is); (case c7 => k_is); (case k7 => k_is)
    (case a8 => k_is); (case l8 => k_is); (case c8 => k_is); (case k8 => k_is)
    (case a9 => k_is); (case l9 => k_is); (case c9 => k_is); (case k9 => k_is)
    (case z_min => k_is)
    (case z_len => k_is)
    (case z_int => k_is)
    (case z_tuple => k_is)
    (case z_sorted => k_is)
    (case z_range => k_is)
    (case z_repr => k_is)
#print axioms PySem.Challenge.cw_hatchwaits_k11_who_is_picked_holds
