import PyProof.Rows.All
import Wide.All
import OpenK.AllK
import Wide.FinOn
import HandS.ForMost
import HandS.TupAny
import HandS.Flow
import HandS.Style
import KE.SortData
import HandS.Walk
import KE.GoesEnum
import PySem.Challenge.RW_hatchwaits_k97_whole_works_of_one
set_option Elab.async false
set_option linter.all false
set_option maxRecDepth 100000
set_option maxHeartbeats 8000000
/-! Calls made where nothing is being shown (no repr under way): the promise of a def that may show what it holds. -/
namespace Hw
open PySem PySem.Spec PyProof.Rows L2

/-- a def's promise where no repr is under way -/
structure FnG (P : Program) (w : World) (K : PySem.W.Frag) (mg : Str → Option Value) (base : Heap) (CX : CXT) (k : Nat) (f : Addr) (fd : FuncData) (ps : List Str) (sp : Sp) : Prop where
  sized : ∀ vs H Q E, sp vs H Q E → vs.length = ps.length
  goes : ∀ (A : Around) (out : List Env) (s : Shared) (H : Hp) (ar : Args) (us : List Value) (vs : List V) (Q : VK) (E : XK),
    A.guards = some [] → Room k A → Env0 P w K mg base A out s H → BindsTo s fd ar (ps.zip us) → Vals vs us → sp vs H Q E →
    codeAny (model P w) A (.call (.ref f) ar) (CR CX out P w H s Q E) s

section
variable {P : Program} {w : World} {K : PySem.W.Frag} {mg : Str → Option Value} {base : Heap} {CX : CXT} {k j : Nat}
  {f : Addr} {fd : FuncData} {ps : List Str} {sp : Sp}
theorem FnG.of (F : FnOk P w K mg base CX k f fd ps sp) : FnG P w K mg base CX k f fd ps sp :=
  ⟨F.len, fun A out s H ar us vs Q E _ hr e b r q => F.run A out s H ar us vs Q E hr e b r q⟩
theorem FnG.mono (F : FnG P w K mg base CX j f fd ps sp) (h : j ≤ k) : FnG P w K mg base CX k f fd ps sp :=
  ⟨F.sized, fun A out s H ar us vs Q E hg hr => F.goes A out s H ar us vs Q E hg (hr.mono h)⟩

/-- a def of the text by its body, where no repr is under way -/
theorem okG {x qual : Str} {st : Stmt} {N : List Str} (F : Fun K x qual st f fd) (S : FnScope N ps (defScope st))
    (sized : ∀ vs H Q E, sp vs H Q E → vs.length = ps.length)
    (body : ∀ (cdv : Value) (A : Around) (out : List Env) (s : Shared) (H : Hp) (vs : List V) (Q : VK) (E : XK),
      A.guards = some [] → Room k (A.deeper (envOfC qual (defScope st) s.heap.objs.size f cdv)) → sp vs H Q E →
      ∃ t, PSs (cxOf CX P w K mg base N qual (defScope st) f cdv A out s H E) (defBody st) t ∧
        t { nx := fun _ H' => Q .non H', rt := Q } (start N vs) H) : FnG P w K mg base CX (k + 1) f fd ps sp := by
  obtain ⟨oc, od, kV, doc, pm, an, cdv, ct, osl, rfl, lk, hcd⟩ := F.ex
  refine ⟨sized, ?_⟩
  intro A out s H ar us vs Q E hgd hr e0 hb hv hs
  have sz := sized _ _ _ _ hs
  have inK : K.In s.heap := e0.mod.kin.keeps (fun b o e => (e0.bs b o e).1)
  have nol : s.heap.NoLimit := e0.mod.nolimit.keeps (fun b o e => (e0.bs b o e).1)
  apply codeAny_call_function hr.depth (inK _ _ lk) rfl S.co S.gen rfl (PySem.W.codeRec_of inK hcd)
  apply hb
  apply wpAny_newFunctionEnv_cells S.kind
  · rintro ⟨n, v⟩ hy
    cases S.par n (List.of_mem_zip hy).1 with
    | inl q => exact Or.inl q
    | inr q => exact Or.inr ⟨q, PySem.W.cellsFrom_some _ _ _ (Or.inl q)⟩
  · intro env he s1 ic
    subst he
    refine And.intro (nol.keeps ic.toInCall.keep) (codeAny_func ?_)
    obtain ⟨t, ht, hq⟩ := body cdv A out s H vs Q E hgd (hr.deeper _) hs
    have I := inv_start (CX := CX) (E := E) S hr.hd e0 sz hv ic
    have done : ∀ {σ' : L2.St} {H' : Hp} {v : V} {u : Value}, Inv (cxOf CX P w K mg base N qual (defScope st) f cdv A out s H E) [] σ' H' s1 → True := fun _ => trivial
    refine wpAny_mono (ht.run [] s1 (start N vs) H _ I hq) ?_ (fun e s' z => z)
    intro fl s' z
    cases fl with
    | ret u =>
      obtain ⟨v, σ', H', J, rv, q⟩ := z
      exact ⟨v, H', J.os, J.bare, J.base, J.hok, rv, q⟩
    | next =>
      obtain ⟨σ', H', J, q⟩ := z
      exact ⟨V.non, H', J.os, J.bare, J.base, J.hok, rfl, q⟩
    | brk =>
      obtain ⟨_, _, _, q⟩ := z
      exact q.elim
    | cont =>
      obtain ⟨_, _, _, q⟩ := z
      exact q.elim

/-- the same for a def that no error leaves -/
theorem okG0 {x qual : Str} {st : Stmt} {N : List Str} (F : Fun K x qual st f fd) (S : FnScope N ps (defScope st))
    (sized : ∀ vs H Q E, sp vs H Q E → vs.length = ps.length)
    (body : ∀ (cdv : Value) (A : Around) (out : List Env) (s : Shared) (H : Hp) (vs : List V) (Q : VK) (E : XK),
      A.guards = some [] → Room k (A.deeper (envOfC qual (defScope st) s.heap.objs.size f cdv)) → sp vs H Q E →
      ∃ t, PSs (cxOf CX0 P w K mg base N qual (defScope st) f cdv A out s H E).nox (defBody st) t ∧
        t { nx := fun _ H' => Q .non H', rt := Q } (start N vs) H) : FnG P w K mg base CX0 (k + 1) f fd ps sp :=
  okG F S sized fun cdv A out s H vs Q E hgd hr hs => by
    obtain ⟨t, h, q⟩ := body cdv A out s H vs Q E hgd hr hs
    exact ⟨t, h.nox, q⟩

variable {X : Cx} {dvs : List V} {ds : List Value} {E : XK} {x : Str} {p pos : Pos} {e : Expr} {es : List Expr} {t : TA}
theorem runG {pins : List (Addr × Obj)} {σ : L2.St} {H : Hp} {s : Shared} {Q : VK} {us : List Value} {vs : List V}
    (F : FnG X.prog X.w X.K X.mg X.base CX k f fd ps sp) (hgd : X.A.guards = some []) (hr : Room k X.A) (hb : Binds X.K fd ps ds) (hd : Vals dvs ds)
    (hx : Passes CX X E) (I : Inv X pins σ H s) (r : Vals vs us) (h : sp (vs ++ dvs) H Q E) :
    wpAny (model X.prog X.w) X.A (call (.ref f) us) (EP X pins σ Q) X.xe s := by
  have rr := r.append hd
  have sz : (us ++ ds).length = ps.length := rr.length.symm.trans (F.sized _ _ _ _ h)
  have go := F.goes X.A X.stack s H ⟨us, []⟩ (us ++ ds) (vs ++ dvs) Q E hgd hr I.env0 (hb s us I.kIn sz) rr h
  refine wpAny_call (codeAny_mono go ?_)
  intro z s' hz
  match z, hz with
  | .error e, hz => exact hx pins σ H s e s' I hz
  | .ok (.ret u), hz => exact I.after hz
/-- f(e, ..) -/
theorem pe_callG (F : FnG X.prog X.w X.K X.mg X.base CX k f fd ps sp) (hgd : X.A.guards = some []) (hr : Room k X.A) (hg : Gl X x) (hm : X.mg x = some (.ref f))
    (hk : PySem.W.keepIn X.K (.ref f) = true) (hb : Binds X.K fd ps ds) (hd : Vals dvs ds) (hx : Passes CX X E)
    (ha : PA X (e :: es) t) (hdb : (x == ("__debug__" : Str)) = false := by decide)
    (he : starEach (e :: es) X.env = (false, eval e X.env) :: starEach es X.env := by rfl) (hpl : (backTo pos (starEach es X.env)).any (·.1) = false := by rfl) :
    PE X (.Call (.Name x p) (e :: es) [] pos) (tCall sp dvs E t) := by
  constructor
  intro pins s σ H Q I h
  apply wpAny_Call_Name_kw
  refine ld_glob I hg hm ?_ hdb
  apply PySem.W.callWith_K (h₀ := X.base) I.ok.mod.kin hk _ he hpl
  refine thn (ha.run pos pins s σ H _ I h) ?_
  rintro us s1 ⟨vs, H1, I1, r, q⟩
  exact ⟨I1.kIn, runG F hgd hr hb hd hx I1 r q⟩
theorem pe_call0G (F : FnG X.prog X.w X.K X.mg X.base CX k f fd ps sp) (hgd : X.A.guards = some []) (hr : Room k X.A) (hg : Gl X x) (hm : X.mg x = some (.ref f))
    (hk : PySem.W.keepIn X.K (.ref f) = true) (hb : Binds X.K fd ps ds) (hd : Vals dvs ds) (hx : Passes CX X E)
    (hdb : (x == ("__debug__" : Str)) = false := by decide) : PE X (.Call (.Name x p) [] [] pos) (tCall sp dvs E tNil) := by
  constructor
  intro pins s σ H Q I h
  apply wpAny_Call_Name_kw
  refine ld_glob I hg hm ?_ hdb
  exact PySem.W.callWith_K0 I.kIn hk (runG (us := []) F hgd hr hb hd hx I .nil h)

/-- repr(x) of data: what it shows -/
def rRepr (K : PySem.W.Frag) : List V → Hp → VK → Prop := fun xs H Q =>
  ∃ v d, xs = [v] ∧ Dp K H v d ∧ d.showable = true ∧ d.hasDict = false ∧ d.depth ≤ 100 ∧ d.shown.length ≤ sizeLine ∧ Q (.str d.shown) H

theorem call_repr (hgd : X.A.guards = some []) (hu : X.A.units + 160 < cLine) : CallR X (.builtin "repr") (rRepr X.K) := by
  intro pins s σ H xs us Q I r h
  obtain ⟨v, d, rfl, hd, hs, hn, hdp, hz, q⟩ := h
  cases r with
  | cons r1 r2 =>
    cases r2
    have fin : ∀ {h' : Heap} {tk : Tok} (u : Tok), (∀ b o, s.heap.get? b = some o → h'.get? b = some o) →
        EP X pins σ Q (.str d.shown u) { s with heap := h', toks := tk } := fun u hk => ⟨.str d.shown, H, I.kept hk, ⟨u, rfl⟩, q⟩
    cases hd with
    | non =>
      cases r1
      exact PySem.P.repr_of_none (fin _ fun _ _ z => z)
    | bl b =>
      cases r1
      exact PySem.P.repr_of_bool (fin _ fun _ _ z => z)
    | int i =>
      obtain ⟨u, rfl⟩ := r1
      exact PySem.P.repr_of_int (of_decide_eq_true hs) (fin _ fun _ _ z => z)
    | str x =>
      obtain ⟨u, rfl⟩ := r1
      exact PySem.P.repr_of_str (fin _ fun _ _ z => z) hz
    | lst h1 h2 =>
      cases r1
      obtain ⟨as, rd⟩ := Dp.reads I _ _ _ (Dp.lst h1 h2) rfl
      exact repr_of_reads' rd hs (fun z => by rw [hn] at z; cases z) hgd (by omega) (fun _ _ z => z) (fun h' u tk hk => fin u hk) hz
    | tup h1 h2 =>
      cases r1
      obtain ⟨as, rd⟩ := Dp.reads I _ _ _ (Dp.tup h1 h2) rfl
      exact repr_of_reads' rd hs (fun z => by rw [hn] at z; cases z) hgd (by omega) (fun _ _ z => z) (fun h' u tk hk => fin u hk) hz
end

/-! ### the law's call -/
section
variable {P : Program} {w : World} {K : PySem.W.Frag} {mg mb : Str → Option Value} {k : Nat} {fa a : Addr} {fd : FuncData} {x : Str} {sp : Sp}
  {s₁ : Shared} {vs : List Value} {ns : List Int}
/-- what the law's call ends in -/
def LawEnd (s₁ : Shared) : Result → Shared → Prop := fun r s' => r = .ok (.ret (.bool true)) ∧ OldK s₁.heap s'.heap ∧ s'.os = s₁.os ∧ AllBare s'.gens
theorem lawGoes {H : Hp} (inK : K.In s₁.heap) (gl : s₁.heap.Ns mainGlobals mg) (bl : s₁.heap.Ns builtinsNs mb)
    (bb : ∀ y : Str, y ≠ "__name__" → mb y = bootBuiltins y) (nol : s₁.heap.NoLimit) (gn : s₁.gens = #[])
    (ha : s₁.heap.get? a = some { cls := .type "list", data := .seq vs.toArray })
    (ok : HOk P w H s₁.heap)
    (what : ∀ b u, H b = some u → b = a ∧ K.lookup a = none ∧ u = .frz { cls := .type "list", data := .seq vs.toArray } (.lst (ns.map V.int)))
    (hr : Room k callerA) (F : ∀ base : Heap, K.In base → base.Ns mainGlobals mg → FnG P w K mg base CX0 k fa fd [x] sp)
    (hb : ∀ (s : Shared) (u : Value), BindsTo s fd ⟨[u], []⟩ [(x, u)])
    (hsp : sp [.ref a] H (fun v _ => v = .bl true) fun _ _ _ => False) :
    codeAny (model P w) callerA (.call (.ref fa) ⟨[.ref a], []⟩) (LawEnd s₁) s₁ := by
  have off : ∀ {b : Addr} {o : Obj}, s₁.heap.get? b = some o → (b = a → K.lookup a = none → o = { cls := .type "list", data := .seq vs.toArray } → False) → H b = none := by
    intro b o e no
    cases q : H b with
    | none => rfl
    | some u =>
      obtain ⟨e1, e2, e3⟩ := what b u q
      rw [e1, ha] at e
      exact (no e1 e2 (Option.some.inj e).symm).elim
  have nsB : ∀ {b : Addr} {m : Str → Option Value}, s₁.heap.Ns b m → (hidT s₁.heap H).Ns b m := by
    rintro b m ⟨o, es, ep, e, d, r⟩
    exact ⟨o, es, ep, hidT_get e (off e fun _ _ z => by rw [z] at d; cases d), d, r⟩
  have inB : K.In (hidT s₁.heap H) := by
    intro b o e
    exact hidT_get (inK b o e) (off (inK b o e) fun z n _ => by rw [← z, e] at n; cases n)
  have lim : (hidT s₁.heap H).NoLimit := by
    obtain ⟨mc, h1, h2⟩ := nol
    exact ⟨mc, nsB h1, h2⟩
  have M : Mod K mg (hidT s₁.heap H) := ⟨inB, nsB gl, ⟨mb, nsB bl, bb⟩, lim⟩
  have e0 : Env0 P w K mg (hidT s₁.heap H) callerA [] s₁ H :=
    ⟨rfl, M, fun b o e => of_hidT e, Nat.le_of_eq (hidT_size s₁.heap H), trivial, fun b z => (by cases z), ok, .of_eq gn⟩
  have go := (F _ inB (nsB gl)).goes callerA [] s₁ H ⟨[.ref a], []⟩ [.ref a] [.ref a] _ _ rfl hr e0 (hb s₁ (.ref a)) (.cons rfl .nil) hsp
  refine codeAny_mono go ?_
  intro r s' z
  match r, z with
  | .error e, z => exact z.elim
  | .ok (.ret u), z =>
    obtain ⟨v, H', os, bare, un, ok', rv, q⟩ := z
    have q : v = .bl true := q
    subst q
    have ru : u = Value.bool true := rv
    subst ru
    refine And.intro rfl (And.intro (OldK.of_keep ?_) (And.intro os bare))
    intro b o e
    cases q : H b with
    | none => exact un.keep b o e q (fun z => by cases z) (fun z => by cases z)
    | some u =>
      obtain ⟨e1, e2, e3⟩ := what b u q
      subst e3
      have g1 := (ok b _ q).1
      have g2 := (ok' b _ (un.frzs b _ _ q)).1
      rw [e] at g1
      rw [g2, g1]
theorem law_callG (inK : K.In s₁.heap) (gl : s₁.heap.Ns mainGlobals mg) (bl : s₁.heap.Ns builtinsNs mb)
    (bb : ∀ y : Str, y ≠ "__name__" → mb y = bootBuiltins y) (nol : s₁.heap.NoLimit) (gn : s₁.gens = #[])
    (ha : s₁.heap.get? a = some { cls := .type "list", data := .seq vs.toArray }) (hi : IntsAre vs ns) (hl : ns.length ≤ sizeLine)
    (hr : Room k callerA) (F : ∀ base : Heap, K.In base → base.Ns mainGlobals mg → FnG P w K mg base CX0 k fa fd [x] sp)
    (hb : ∀ (s : Shared) (u : Value), BindsTo s fd ⟨[u], []⟩ [(x, u)])
    (hsp : ∀ H : Hp, SqL K H a (ns.map V.int) → (∀ b o, H b = some o → b = a) → sp [.ref a] H (fun v _ => v = .bl true) fun _ _ _ => False) :
    codeAny (model P w) callerA (.call (.ref fa) ⟨[.ref a], []⟩) (LawEnd s₁) s₁ := by
  have rv := vals_ints hi
  have len : (ns.map V.int).length ≤ sizeLine := by rw [List.length_map]; exact hl
  cases hk : K.lookup a with
  | some o =>
    have e := inK a o hk
    rw [ha] at e
    obtain rfl := Option.some.inj e
    refine lawGoes (H := fun _ => none) (ns := ns) inK gl bl bb nol gn ha (fun b u z => by cases z) (fun b u z => by cases z) hr F hb (hsp _ ?_ (fun b o z => by cases z))
    exact Or.inr ⟨_, vs.toArray, _, hk, rfl, rfl, rfl, by rw [List.size_toArray, hi.length]; exact hl, by simpa using rv⟩
  | none =>
    have fz : ∀ b u, upd (fun _ => none) a (.frz { cls := .type "list", data := .seq vs.toArray } (.lst (ns.map V.int))) b = some u →
        b = a ∧ u = .frz { cls := .type "list", data := .seq vs.toArray } (.lst (ns.map V.int)) := by
      intro b u z
      by_cases e : b = a
      · subst e
        rw [upd_same] at z
        exact ⟨rfl, (Option.some.inj z).symm⟩
      · rw [upd_ne e] at z
        cases z
    refine lawGoes (H := upd (fun _ => none) a (.frz _ (.lst (ns.map V.int)))) inK gl bl bb nol gn ha ?_ (fun b u z => ⟨(fz b u z).1, hk, (fz b u z).2⟩) hr F hb
      (hsp _ (Or.inl (Or.inr ⟨_, upd_same⟩)) fun b o z => (fz b o z).1)
    intro b u z
    obtain ⟨e1, e2⟩ := fz b u z
    subst e1 e2
    exact ⟨ha, len, vs, _, rv, ha⟩
theorem walkG {l : PySem.W.OpenLaw} {n k : Nat} {q : Program} {loose : List Str} {XP : (Str → Option Value) → Heap → Prop} {YP : World → Heap → Prop} {d : DefRec}
    {K : Params → PySem.W.Frag} {sp : World → Sp} {x : Str} (hn : l.most = some n) (hn2 : n ≤ sizeLine) (hdf : d.params.defaults = []) (hr : Room k callerA)
    (hY : ∀ (w : World) (h : Heap), YP w h → (K w.params).In h)
    (F : ∀ (w : World) (mg : Str → Option Value) (fa : Addr) (h : Heap), (K w.params).In h → h.Ns mainGlobals mg → mg d.name = some (.ref fa) →
      ∃ fd : FuncData, (∀ (s : Shared) (u : Value), BindsTo s fd ⟨[u], []⟩ [(x, u)]) ∧
        ∀ base : Heap, (K w.params).In base → base.Ns mainGlobals mg → FnG l.prog w (K w.params) mg base CX0 k fa fd [x] (sp w))
    (hsp : ∀ (w : World) (H : Hp) (a : Addr) (ns : List Int), ns.length ≤ n → (∀ b o, H b = some o → b = a) → SqL (K w.params) H a (ns.map V.int) →
      sp w [.ref a] H (fun v _ => v = .bl true) fun _ _ _ => False) :
    PySem.W.WalkO q loose XP YP l.row.toRowW d [] (fun f vs => PySem.call f vs) := by
  apply Att.attach_call hn hdf
  intro w s₀ s₁ mg mb fa o pm cd doc a vs ns G Y ho hd hcd hmg hobj hints hlen hg
  obtain ⟨fd, hb, hF⟩ := F w mg fa _ (hY w _ Y) G.T.g hmg
  exact law_callG (hY w _ Y) G.T.g G.T.b G.T.builtins G.T.nolimit hg hobj hints (Nat.le_trans hlen hn2) hr hF hb (fun H hS hO => hsp w H a ns hlen hO hS)
end
end Hw
/-! Data of tuples; what stays; the feed of the laws. -/
namespace Hw
open PySem PySem.Spec PyProof.Rows L2

/-- all but the objects of S stay as they were; tuples and locked things stay in any case -/
structure Kp (S : Addr → Prop) (H H' : Hp) : Prop where
  same : ∀ a o, ¬ S a → H a = some o → H' a = some o
  tups : ∀ a xs, H a = some (.tup xs) → H' a = some (.tup xs)
  frzs : ∀ a o u, H a = some (.frz o u) → H' a = some (.frz o u)
  live : ∀ a, H' a = none → H a = none
abbrev Non : Addr → Prop := fun _ => False
abbrev At (d : Addr) : Addr → Prop := fun b => b = d
section
variable {S T : Addr → Prop} {H H1 H2 : Hp} {p d a : Addr} {o u : HO} {K : PySem.W.Frag} {xs : List V}
theorem Kp.refl : Kp S H H := ⟨fun _ _ _ h => h, fun _ _ h => h, fun _ _ _ h => h, fun _ h => h⟩
theorem Kp.trans (a : Kp S H H1) (b : Kp S H1 H2) : Kp S H H2 :=
  ⟨fun c o n h => b.same c o n (a.same c o n h), fun c xs h => b.tups c xs (a.tups c xs h), fun c o u h => b.frzs c o u (a.frzs c o u h), fun c h => a.live c (b.live c h)⟩
theorem Kp.wide (a : Kp S H H1) (h : ∀ b, S b → T b) : Kp T H H1 := ⟨fun c o n e => a.same c o (fun z => n (h c z)) e, a.tups, a.frzs, a.live⟩
theorem Kp.of (h : Same H H1) : Kp S H H1 := ⟨fun a o _ e => h a o e, fun a xs e => h a _ e, fun a o u e => h a _ e, fun a e => h.free e⟩
theorem Kp.non (h : Kp Non H H1) : Kp S H H1 := h.wide fun _ z => z.elim
theorem Kp.toSame (h : Kp Non H H1) : Same H H1 := fun a o e => h.same a o (fun z => z) e
theorem Kp.new (h : H p = none) : Kp S H (upd H p o) := Kp.of fun b x e => by
  rw [upd_ne (ne_of_none e h)]
  exact e
/-- a changed object that is neither a tuple nor locked -/
theorem Kp.put (h : H p = some u) (n1 : ∀ xs, u ≠ .tup xs) (n2 : ∀ o v, u ≠ .frz o v) : Kp (At p) H (upd H p o) := by
  refine ⟨fun a x n e => ?_, fun a xs e => ?_, fun a x y e => ?_, fun a e => ?_⟩
  · rw [upd_ne n]; exact e
  · rw [upd_ne (ne_of e h (n1 xs).symm)]; exact e
  · rw [upd_ne (ne_of e h (n2 x y).symm)]; exact e
  · by_cases z : a = p
    · rw [z, upd_same] at e; cases e
    · rw [upd_ne z] at e; exact e
theorem Kp.putL (h : H p = some (.lst xs)) : Kp (At p) H (upd H p o) := Kp.put h (fun _ z => by cases z) (fun _ _ z => by cases z)
/-- what is new to H may be forgotten -/
theorem Kp.drop (h : Kp (fun b => b = p ∨ S b) H H1) (n : H p = none) : Kp S H H1 :=
  ⟨fun a o z e => h.same a o (fun q => q.elim (fun q => by rw [q, n] at e; cases e) z) e, h.tups, h.frzs, h.live⟩
theorem Kp.rdT (h : Kp S H H1) (e : Rd H a (.tup xs)) : Rd H1 a (.tup xs) := by
  rcases e with e | ⟨o, e⟩
  · exact .inl (h.tups _ _ e)
  · exact .inr ⟨o, h.frzs _ _ _ e⟩
theorem Kp.sqT (h : Kp S H H1) (e : SqT K H a xs) : SqT K H1 a xs := by
  rcases e with e | e
  · exact .inl (h.rdT e)
  · exact .inr e
theorem Kp.lst (h : Kp S H H1) (n : ¬ S a) (e : H a = some (.lst xs)) : H1 a = some (.lst xs) := h.same _ _ n e
theorem Kp.sqL (h : Kp S H H1) (n : ¬ S a) (e : SqL K H a xs) : SqL K H1 a xs := by
  rcases e with (e | ⟨o, e⟩) | e
  · exact .inl (.inl (h.same _ _ n e))
  · exact .inl (.inr ⟨o, h.frzs _ _ _ e⟩)
  · exact .inr e
end

/-! ### data of tuples: whatever is done, it stays -/
mutual
/-- v reads as d, all tuples -/
inductive TD (K : PySem.W.Frag) (H : Hp) : V → PyData → Prop
  | non : TD K H .non .none
  | bl (b : Bool) : TD K H (.bl b) (.bool b)
  | int (i : Int) : TD K H (.int i) (.int i)
  | str (x : Str) : TD K H (.str x) (.str x)
  | tup {a : Addr} {xs : List V} {ds : List PyData} : SqT K H a xs → TDs K H xs ds → TD K H (.ref a) (.tuple ds)
inductive TDs (K : PySem.W.Frag) (H : Hp) : List V → List PyData → Prop
  | nil : TDs K H [] []
  | cons {v : V} {vs : List V} {d : PyData} {ds : List PyData} : TD K H v d → TDs K H vs ds → TDs K H (v :: vs) (d :: ds)
end
section
variable {K : PySem.W.Frag} {H H' : Hp} {S : Addr → Prop}
mutual
theorem TD.kp (k : Kp S H H') : ∀ {v : V} {d : PyData}, TD K H v d → TD K H' v d
  | _, _, .non => .non
  | _, _, .bl b => .bl b
  | _, _, .int i => .int i
  | _, _, .str x => .str x
  | _, _, .tup h r => .tup (k.sqT h) (TDs.kp k r)
theorem TDs.kp (k : Kp S H H') : ∀ {vs : List V} {ds : List PyData}, TDs K H vs ds → TDs K H' vs ds
  | _, _, .nil => .nil
  | _, _, .cons h r => .cons (TD.kp k h) (TDs.kp k r)
end
mutual
theorem TD.dp : ∀ {v : V} {d : PyData}, TD K H v d → Dp K H v d
  | _, _, .non => .non
  | _, _, .bl b => .bl b
  | _, _, .int i => .int i
  | _, _, .str x => .str x
  | _, _, .tup h r => .tup h (TDs.dp r)
theorem TDs.dp : ∀ {vs : List V} {ds : List PyData}, TDs K H vs ds → DpAll K H vs ds
  | _, _, .nil => .nil
  | _, _, .cons h r => .cons (TD.dp h) (TDs.dp r)
end
theorem TDs.length : ∀ {vs : List V} {ds : List PyData}, TDs K H vs ds → vs.length = ds.length
  | _, _, .nil => rfl
  | _, _, .cons _ r => congrArg (· + 1) (TDs.length r)
theorem TDs.get : ∀ {vs : List V} {ds : List PyData} {i : Nat} {v : V}, TDs K H vs ds → vs[i]? = some v → ∃ d, ds[i]? = some d ∧ TD K H v d
  | _, _, _, _, .nil, e => by simp at e
  | _, _, 0, _, .cons h _, e => by simp at e; subst e; exact ⟨_, rfl, h⟩
  | _, _, i + 1, v, .cons _ r, e => by
    obtain ⟨d, h1, h2⟩ := TDs.get (i := i) r (by simpa using e)
    exact ⟨d, by simpa using h1, h2⟩
theorem TDs.at : ∀ {vs : List V} {ds : List PyData} {i : Nat} {d : PyData}, TDs K H vs ds → ds[i]? = some d → ∃ v, vs[i]? = some v ∧ TD K H v d
  | _, _, _, _, .nil, e => by simp at e
  | _, _, 0, _, .cons h _, e => by simp at e; subst e; exact ⟨_, rfl, h⟩
  | _, _, i + 1, d, .cons _ r, e => by
    obtain ⟨v, h1, h2⟩ := TDs.at (i := i) r (by simpa using e)
    exact ⟨v, by simpa using h1, h2⟩
theorem TDs.append : ∀ {vs ws : List V} {ds es : List PyData}, TDs K H vs ds → TDs K H ws es → TDs K H (vs ++ ws) (ds ++ es)
  | _, _, _, _, .nil, r => r
  | _, _, _, _, .cons h q, r => .cons h (TDs.append q r)
theorem TDs.drop : ∀ {vs : List V} {ds : List PyData} (n : Nat), TDs K H vs ds → TDs K H (vs.drop n) (ds.drop n)
  | _, _, 0, r => r
  | _, _, _ + 1, .nil => .nil
  | _, _, n + 1, .cons _ r => TDs.drop n r
theorem TDs.take : ∀ {vs : List V} {ds : List PyData} (n : Nat), TDs K H vs ds → TDs K H (vs.take n) (ds.take n)
  | _, _, 0, _ => .nil
  | _, _, _ + 1, .nil => .nil
  | _, _, n + 1, .cons h r => .cons h (TDs.take n r)
theorem TDs.reverse : ∀ {vs : List V} {ds : List PyData}, TDs K H vs ds → TDs K H vs.reverse ds.reverse
  | _, _, .nil => .nil
  | _, _, .cons h r => by
    rw [List.reverse_cons, List.reverse_cons]
    exact TDs.append (TDs.reverse r) (.cons h .nil)
theorem TD.ref {v : V} {ds : List PyData} (h : TD K H v (.tuple ds)) : ∃ a xs, v = .ref a ∧ SqT K H a xs ∧ TDs K H xs ds := by
  cases h with
  | tup h r => exact ⟨_, _, rfl, h, r⟩
theorem TD.toInt {v : V} {i : Int} (h : TD K H v (.int i)) : v = .int i := by cases h; rfl
theorem TD.toStr {v : V} {i : Str} (h : TD K H v (.str i)) : v = .str i := by cases h; rfl
theorem TD.toBl {v : V} {i : Bool} (h : TD K H v (.bool i)) : v = .bl i := by cases h; rfl
theorem TD.toNon {v : V} (h : TD K H v .none) : v = .non := by cases h; rfl
end

/-! ### the feed -/
def kCells : Key := Sum.inr "cells"
def kAt : Key := Sum.inr "at"
def kLeft : Key := Sum.inr "left"
def kTurn : Key := Sum.inr "turn"
def feedKvs (c : Addr) (p l t : Int) : List (Key × V) := [(kCells, .ref c), (kAt, .int p), (kLeft, .int l), (kTurn, .int t)]
theorem valV_ne {κ : Type} [DecidableEq κ] {p : κ × V} {r : List (κ × V)} {k : κ} (e : p.1 ≠ k) : valV (p :: r) k = valV r k := by simp [valV, List.find?_cons, e]
theorem k1 : kCells ≠ kAt := by decide +kernel
theorem k2 : kCells ≠ kLeft := by decide +kernel
theorem k3 : kCells ≠ kTurn := by decide +kernel
theorem k4 : kAt ≠ kLeft := by decide +kernel
theorem k5 : kAt ≠ kTurn := by decide +kernel
theorem k6 : kLeft ≠ kTurn := by decide +kernel
section
variable {c : Addr} {p l t z : Int}
theorem fk_cells : valV (feedKvs c p l t) kCells = some (.ref c) := valV_pos rfl
theorem fk_at : valV (feedKvs c p l t) kAt = some (.int p) := (valV_ne k1).trans (valV_pos rfl)
theorem fk_left : valV (feedKvs c p l t) kLeft = some (.int l) := (valV_ne k2).trans ((valV_ne k4).trans (valV_pos rfl))
theorem fk_turn : valV (feedKvs c p l t) kTurn = some (.int t) := (valV_ne k3).trans ((valV_ne k5).trans ((valV_ne k6).trans (valV_pos rfl)))
theorem fp_at : putK (feedKvs c p l t) kAt (.int z) = feedKvs c z l t := by
  simp [putK, feedKvs, k1, k1.symm, k2, k3, k4, k4.symm, k5, k5.symm, k6]
theorem fp_left : putK (feedKvs c p l t) kLeft (.int z) = feedKvs c p z t := by
  simp [putK, feedKvs, k2, k2.symm, k4, k4.symm, k6, k6.symm]
theorem fp_turn : putK (feedKvs c p l t) kTurn (.int z) = feedKvs c p l z := by
  simp [putK, feedKvs, k3, k3.symm, k5, k5.symm, k6, k6.symm]
end
end Hw

/-! ### steps of a reading -/
namespace Hw
open PySem PySem.Spec PyProof.Rows L2
section
variable {σ : L2.St} {H : Hp} {D : Ends} {Q : VK} {QB : Bool → Hp → Prop} {QA : List V → Hp → Prop} {t u : TS} {te ta tb tc : TE} {tt tu : TT} {tr : TA} {g : TG}
theorem sSeq (h : t { D with nx := u D } σ H) : tSeq t u D σ H := h
theorem sNext (h : D.nx σ H) : tNext D σ H := h
theorem sAsg (h : te σ H fun x H1 => g x σ H1 D.nx) : tAsg te g D σ H := h
theorem sRet (h : te σ H D.rt) : tRet te D σ H := h
theorem sRetN (h : D.rt .non H) : tRetN D σ H := h
theorem sDrop (h : te σ H fun _ H1 => D.nx σ H1) : tDrop te D σ H := h
theorem sIfS (h : tt σ H fun b H1 => if b = true then t D σ H1 else u D σ H1) : tIfS tt t u D σ H := h
theorem sBreak (h : D.bk σ H) : tBreak D σ H := h
theorem sCont (h : D.ct σ H) : tCont D σ H := h
theorem sVar {i : Nat} {v : V} (e : σ[i]? = some (some v)) (h : Q v H) : tVar i σ H Q := ⟨v, e, h⟩
theorem sC {v : V} (h : Q v H) : tC v σ H Q := h
theorem sOp {r : R2} (h : ta σ H fun x H1 => tb σ H1 fun y H2 => r x y H2 Q) : tOp r ta tb σ H Q := h
theorem sUn {r : V → Hp → VK → Prop} (h : ta σ H fun x H1 => r x H1 Q) : tUn r ta σ H Q := h
theorem sU {g : Int → V} {i : Int} (h : Q (g i) H) : rU g (.int i) H Q := ⟨i, rfl, h⟩
theorem sI0 {g : Int → Int → V} {i j : Int} (h : Q (g i j) H) : rI0 g (.int i) (.int j) H Q := ⟨i, j, rfl, rfl, h⟩
theorem sI {C : Int → Int → Prop} {g : Int → Int → V} {i j : Int} (c : C i j) (h : Q (g i j) H) : rI C g (.int i) (.int j) H Q := ⟨i, j, rfl, rfl, c, h⟩
theorem sEqI {i j : Int} (h : Q (.bl (decide (i = j))) H) : rEq (.int i) (.int j) H Q := ⟨rfl, by rwa [show decide (V.int i = V.int j) = decide (i = j) from by simp]⟩
theorem sNeI {i j : Int} (h : Q (.bl (!decide (i = j))) H) : rNe (.int i) (.int j) H Q := ⟨rfl, by rwa [show decide (V.int i = V.int j) = decide (i = j) from by simp]⟩
theorem sEqS {i j : Str} (h : Q (.bl (decide (i = j))) H) : rEq (.str i) (.str j) H Q := ⟨rfl, by rwa [show decide (V.str i = V.str j) = decide (i = j) from by simp]⟩
theorem sNeS {i j : Str} (h : Q (.bl (!decide (i = j))) H) : rNe (.str i) (.str j) H Q := ⟨rfl, by rwa [show decide (V.str i = V.str j) = decide (i = j) from by simp]⟩
theorem sCB {r : List V → Hp → VK → Prop} (h : tr σ H fun vs H1 => r vs H1 Q) : tCB r tr σ H Q := h
theorem sCons (h : ta σ H fun x H1 => tr σ H1 fun xs H2 => QA (x :: xs) H2) : tCons ta tr σ H QA := h
theorem sNil (h : QA [] H) : tNil σ H QA := h
theorem sTest (h : te σ H fun x H1 => ∃ k, x = .bl k ∧ QB k H1) : tTest te σ H QB := h
theorem sB (h : te σ H fun x H1 => ∃ k, x = .bl k ∧ QB k H1) : tB te σ H QB := h
theorem sBl {b : Bool} {P : Bool → Prop} (h : P b) : ∃ k, V.bl b = V.bl k ∧ P k := ⟨b, rfl, h⟩
theorem sAnd (h : tt σ H fun c H1 => if c = true then tu σ H1 QB else QB false H1) : tAnd tt tu σ H QB := h
theorem sOr (h : tt σ H fun c H1 => if c = true then QB true H1 else tu σ H1 QB) : tOr tt tu σ H QB := h
theorem sNot (h : tt σ H fun c H1 => QB (!c) H1) : tNot tt σ H QB := h
theorem sAndV (h : ta σ H fun x H1 => ∃ c, x = .bl c ∧ if c = true then tb σ H1 Q else Q (.bl false) H1) : tAndV ta tb σ H Q := h
theorem sOrV (h : ta σ H fun x H1 => ∃ c, x = .bl c ∧ if c = true then Q (.bl true) H1 else tb σ H1 Q) : tOrV ta tb σ H Q := h
theorem sNotV (h : ta σ H fun x H1 => ∃ c, x = .bl c ∧ Q (.bl (!c)) H1) : tNotV ta σ H Q := h
theorem sIf (h : tt σ H fun c H1 => if c = true then ta σ H1 Q else tb σ H1 Q) : tIf tt ta tb σ H Q := h
theorem sName {i : Nat} {v : V} {Q : L2.St → Hp → Prop} (h : Q (σ.set i (some v)) H) : gName i v σ H Q := h
theorem sTup (h : tr σ H fun xs H1 => xs.length ≤ sizeLine ∧ ∀ p, H1 p = none → Q (.ref p) (upd H1 p (.tup xs))) : tTup tr σ H Q := h
theorem sLst (h : tr σ H fun xs H1 => xs.length ≤ sizeLine ∧ ∀ p, H1 p = none → Q (.ref p) (upd H1 p (.lst xs))) : tLst tr σ H Q := h
theorem sCall {sp : Sp} {dvs : List V} {E : XK} (h : tr σ H fun vs H1 => sp (vs ++ dvs) H1 Q E) : tCall sp dvs E tr σ H Q := h
theorem sLsts {xs : List V} {H1 : Hp} (l : xs.length ≤ sizeLine) (h : ∀ p H', Kp Non H1 H' → H1 p = none → H' p = some (.lst xs) → Q (.ref p) H') :
    xs.length ≤ sizeLine ∧ ∀ p, H1 p = none → Q (.ref p) (upd H1 p (.lst xs)) := ⟨l, fun p n => h p _ (Kp.new n) n upd_same⟩
theorem sNew {H1 : Hp} {o : HO} (h : ∀ p H', Kp Non H1 H' → H1 p = none → H' p = some o → Q (.ref p) H') :
    ∀ p, H1 p = none → Q (.ref p) (upd H1 p o) := fun p n => h p _ (Kp.new n) n upd_same
theorem ifD {p : Prop} [Decidable p] {A B : Prop} (h1 : p → A) (h2 : ¬ p → B) : if decide p = true then A else B := by
  by_cases h : p
  · rw [if_pos (decide_eq_true h)]; exact h1 h
  · rw [if_neg (by simp [h])]; exact h2 h
theorem ifN {p : Prop} [Decidable p] {A B : Prop} (h1 : ¬ p → A) (h2 : p → B) : if (!decide p) = true then A else B := by
  by_cases h : p
  · rw [if_neg (by simp [h])]; exact h2 h
  · rw [if_pos (by simp [h])]; exact h1 h
theorem sTups {xs : List V} {H1 : Hp} (l : xs.length ≤ sizeLine) (h : ∀ p H', Kp Non H1 H' → H1 p = none → H' p = some (.tup xs) → Q (.ref p) H') :
    xs.length ≤ sizeLine ∧ ∀ p, H1 p = none → Q (.ref p) (upd H1 p (.tup xs)) := ⟨l, fun p n => h p _ (Kp.new n) n upd_same⟩
end
section
variable {σ : L2.St} {H : Hp} {D : Ends} {Q : VK} {td ty tv : TE}
theorem sDPut' (h : tv σ H fun v H1 => td σ H1 fun x H2 => ty σ H2 fun y H3 => ∃ a H4, x = .ref a ∧ DPut H3 a y v H4 ∧ D.nx σ H4) : sDPut td ty tv D σ H := h
theorem sDGet (h : td σ H fun x H1 => ty σ H1 fun y H2 => ∃ a v, x = .ref a ∧ DGet H2 a y (some v) ∧ Q v H2) : tDGet td ty σ H Q := h
theorem sPar3 {i j l : Nat} {ta : TA} (h : ta σ H fun vs H1 => ∃ u v w, vs = [u, v, w] ∧ D.nx (((σ.set i (some u)).set j (some v)).set l (some w)) H1) : tPar3 i j l ta D σ H := h
theorem sThree {x y z : V} {P : V → V → V → Prop} (h : P x y z) : ∃ u v w, [x, y, z] = [u, v, w] ∧ P u v w := ⟨x, y, z, rfl, h⟩
theorem sPar {i j : Nat} {ta : TA} (h : ta σ H fun vs H1 => ∃ u v, vs = [u, v] ∧ D.nx ((σ.set i (some u)).set j (some v)) H1) : tPar i j ta D σ H := h
theorem sTwo {x y : V} {P : V → V → Prop} (h : P x y) : ∃ u v, [x, y] = [u, v] ∧ P u v := ⟨x, y, rfl, h⟩
theorem sSl {r : V → Option Int → Option Int → Hp → VK → Prop} {te : TE} {tl th : TO} (h : te σ H fun x H1 => tl σ H1 fun l H2 => th σ H2 fun u H3 => r x l u H3 Q) : tSl r te tl th σ H Q := h
theorem sPart {te : TE} {QO : Option Int → Hp → Prop} (h : te σ H fun x H1 => ∃ i, x = .int i ∧ QO (some i) H1) : tPart te σ H QO := h
theorem sNoPart {QO : Option Int → Hp → Prop} (h : QO none H) : tNoPart σ H QO := h
theorem sInt {i : Int} {P : Int → Prop} (h : P i) : ∃ k, V.int i = V.int k ∧ P k := ⟨i, rfl, h⟩
end
/-- the feed's dict and its cells, item by item -/
structure FR (H : Hp) (d c : Addr) (ns : List Int) (p l t : Int) : Prop where
  dict : H d = some (.dK (feedKvs c p l t))
  cells : H c = some (.lst (ns.map V.int))
section
variable {H : Hp} {d c : Addr} {ns : List Int} {p l t z : Int} {Q : V → Prop} {R : Hp → Prop}
theorem FR.ne (h : FR H d c ns p l t) : c ≠ d := ne_of h.cells h.dict (by intro z; cases z)
theorem FR.kp {H' : Hp} (h : FR H d c ns p l t) (k : Kp Non H H') : FR H' d c ns p l t := ⟨k.same _ _ (fun z => z) h.dict, k.same _ _ (fun z => z) h.cells⟩
theorem FR.gCells (h : FR H d c ns p l t) (q : Q (.ref c)) : ∃ a v, V.ref d = .ref a ∧ DGet H a (.str "cells") (some v) ∧ Q v :=
  ⟨d, _, rfl, by rw [← fk_cells (c := c) (p := p) (l := l) (t := t)]; exact DGet.k (k := kCells) h.dict, q⟩
theorem FR.gAt (h : FR H d c ns p l t) (q : Q (.int p)) : ∃ a v, V.ref d = .ref a ∧ DGet H a (.str "at") (some v) ∧ Q v :=
  ⟨d, _, rfl, by rw [← fk_at (c := c) (p := p) (l := l) (t := t)]; exact DGet.k (k := kAt) h.dict, q⟩
theorem FR.gLeft (h : FR H d c ns p l t) (q : Q (.int l)) : ∃ a v, V.ref d = .ref a ∧ DGet H a (.str "left") (some v) ∧ Q v :=
  ⟨d, _, rfl, by rw [← fk_left (c := c) (p := p) (l := l) (t := t)]; exact DGet.k (k := kLeft) h.dict, q⟩
theorem FR.gTurn (h : FR H d c ns p l t) (q : Q (.int t)) : ∃ a v, V.ref d = .ref a ∧ DGet H a (.str "turn") (some v) ∧ Q v :=
  ⟨d, _, rfl, by rw [← fk_turn (c := c) (p := p) (l := l) (t := t)]; exact DGet.k (k := kTurn) h.dict, q⟩
theorem FR.put (h : FR H d c ns p l t) {p' l' t' : Int} : FR (upd H d (.dK (feedKvs c p' l' t'))) d c ns p' l' t' := ⟨upd_same, by rw [upd_ne h.ne]; exact h.cells⟩
theorem FR.kput (h : FR H d c ns p l t) {o : HO} : Kp (At d) H (upd H d o) := Kp.put h.dict (fun _ z => by cases z) (fun _ _ z => by cases z)
theorem FR.pAt (h : FR H d c ns p l t) (q : ∀ H', Kp (At d) H H' → FR H' d c ns z l t → R H') : ∃ a H4, V.ref d = .ref a ∧ DPut H a (.str "at") (.int z) H4 ∧ R H4 :=
  ⟨d, _, rfl, DPut.k (k := kAt) h.dict (small1000 (Nat.le_of_ble_eq_true rfl)), by rw [fp_at]; exact q _ h.kput h.put⟩
theorem FR.pLeft (h : FR H d c ns p l t) (q : ∀ H', Kp (At d) H H' → FR H' d c ns p z t → R H') : ∃ a H4, V.ref d = .ref a ∧ DPut H a (.str "left") (.int z) H4 ∧ R H4 :=
  ⟨d, _, rfl, DPut.k (k := kLeft) h.dict (small1000 (Nat.le_of_ble_eq_true rfl)), by rw [fp_left]; exact q _ h.kput h.put⟩
theorem FR.pTurn (h : FR H d c ns p l t) (q : ∀ H', Kp (At d) H H' → FR H' d c ns p l z → R H') : ∃ a H4, V.ref d = .ref a ∧ DPut H a (.str "turn") (.int z) H4 ∧ R H4 :=
  ⟨d, _, rfl, DPut.k (k := kTurn) h.dict (small1000 (Nat.le_of_ble_eq_true rfl)), by rw [fp_turn]; exact q _ h.kput h.put⟩
end
/-- the feed at d, its cells at c, good for b draws more -/
def Feed (H : Hp) (d c : Addr) (b : Nat) : Prop := ∃ (ns : List Int) (p l t : Int), FR H d c ns p l t ∧ ns.length ≤ 63 ∧ 0 ≤ p ∧ 0 ≤ l ∧ 0 ≤ t ∧ t + b ≤ 1000000
section
variable {H H' : Hp} {d c : Addr} {b b' : Nat} {S : Addr → Prop}
theorem Feed.kp (h : Feed H d c b) (k : Kp S H H') (n : ¬ S d) (n2 : ¬ S c) : Feed H' d c b := by
  obtain ⟨ns, p, l, t, h, r⟩ := h
  exact ⟨ns, p, l, t, ⟨k.same _ _ n h.dict, k.same _ _ n2 h.cells⟩, r⟩
theorem Feed.non (h : Feed H d c b) (k : Kp Non H H') : Feed H' d c b := h.kp k (fun z => z) (fun z => z)
theorem Feed.less (h : Feed H d c b) (e : b' ≤ b) : Feed H d c b' := by
  obtain ⟨ns, p, l, t, h, r1, r2, r3, r4, r5⟩ := h
  exact ⟨ns, p, l, t, h, r1, r2, r3, r4, by omega⟩
theorem Feed.ne (h : Feed H d c b) : c ≠ d := by
  obtain ⟨ns, p, l, t, h, r⟩ := h
  exact h.ne
theorem Feed.live (h : Feed H d c b) : H d ≠ none ∧ H c ≠ none := by
  obtain ⟨ns, p, l, t, h, r⟩ := h
  exact ⟨by rw [h.dict]; simp, by rw [h.cells]; simp⟩
theorem Feed.off (h : Feed H d c b) {D : Addr} (n : H D = none) : d ≠ D ∧ c ≠ D :=
  ⟨fun e => h.live.1 (e ▸ n), fun e => h.live.2 (e ▸ n)⟩
end
theorem mergeFeed (c : Addr) (p l t : Int) : mergeK [] (feedKvs c p l t) = feedKvs c p l t := by
  simp [mergeK, feedKvs, putK, k1, k2, k3, k4, k5, k6]
theorem fmod_lt {a m : Int} (h : 0 < m) : a.fmod m < m := by rw [Int.fmod_eq_emod_of_nonneg _ (Int.le_of_lt h)]; exact Int.emod_lt_of_pos _ h
theorem fmod_ge {a m : Int} (h : 0 < m) : 0 ≤ a.fmod m := by rw [Int.fmod_eq_emod_of_nonneg _ (Int.le_of_lt h)]; exact Int.emod_nonneg _ (by omega)
theorem fdiv_ge {a m : Int} (ha : 0 ≤ a) (h : 0 < m) : 0 ≤ a.fdiv m := by rw [Int.fdiv_eq_ediv_of_nonneg _ (Int.le_of_lt h)]; exact Int.ediv_nonneg ha (by omega)
theorem dpInts (K : PySem.W.Frag) (H : Hp) : ∀ ns : List Int, DpAll K H (ns.map V.int) (ns.map PyData.int)
  | [] => .nil
  | n :: r => .cons (.int n) (dpInts K H r)
theorem canInts : ∀ ns : List Int, PyData.canLayAll0 (ns.map PyData.int) = true
  | [] => rfl
  | _ :: r => by
    show (true && PyData.canLayAll0 (r.map PyData.int)) = true
    rw [canInts r]; rfl
theorem depthInts : ∀ ns : List Int, PyData.depthAll (ns.map PyData.int) = 0
  | [] => rfl
  | _ :: r => by
    show max 0 (PyData.depthAll (r.map PyData.int)) = 0
    rw [depthInts r]; rfl
theorem shapedInts (ns : List Int) : SeqAt.shaped (.list (ns.map PyData.int)) = true := by
  show (PyData.canLayAll0 (ns.map PyData.int) && decide (PyData.depthAll (ns.map PyData.int) + 1 ≤ 64)) = true
  rw [canInts, depthInts]; rfl
end Hw
/-! Rules whose new objects come with what stays, not with the heap written out. -/
namespace Hw
open PySem PySem.Spec PyProof.Rows L2
section
variable {X : Cx}
theorem peImp {e : Expr} {t u : TE} (h : PE X e t) (i : ∀ σ H Q, u σ H Q → t σ H Q) : PE X e u := ⟨fun pins s σ H Q I q => h.run pins s σ H Q I (i σ H Q q)⟩
/-- what follows may be weakened -/
def wk (t : TA) : TA := fun σ H Q => ∃ Q0 : List V → Hp → Prop, t σ H Q0 ∧ ∀ xs H', Q0 xs H' → Q xs H'
theorem paWk {es : List Expr} {t : TA} (h : PA X es t) : PA X es (wk t) := ⟨fun pos pins s σ H Q I q => by
  obtain ⟨Q0, q0, im⟩ := q
  exact thn (h.run pos pins s σ H Q0 I q0) fun us s1 ⟨vs, H1, I1, r, z⟩ => ⟨vs, H1, I1, r, im vs H1 z⟩⟩
def tTupG (t : TA) : TE := fun σ H Q => t σ H fun xs H1 => xs.length ≤ sizeLine ∧ ∀ p H', Kp Non H1 H' → H1 p = none → H' p = some (.tup xs) → Q (.ref p) H'
def tLstG (t : TA) : TE := fun σ H Q => t σ H fun xs H1 => xs.length ≤ sizeLine ∧ ∀ p H', Kp Non H1 H' → H1 p = none → H' p = some (.lst xs) → Q (.ref p) H'
theorem pe_tupG {es : List Expr} {t : TA} {x1} {pos : Pos} (h : PA X es t) : PE X (.Tuple es x1 pos) (tTupG t) :=
  peImp (pe_tup (paWk h)) fun σ H Q q => ⟨_, q, fun xs H' z => ⟨z.1, fun p n => z.2 p _ (Kp.new n) n upd_same⟩⟩
theorem pe_lstG {es : List Expr} {t : TA} {pos : Pos} (h : PA X es t) : PE X (.List es pos) (tLstG t) :=
  peImp (pe_lst (paWk h)) fun σ H Q q => ⟨_, q, fun xs H' z => ⟨z.1, fun p n => z.2 p _ (Kp.new n) n upd_same⟩⟩
/-! slices -/
def rSlLG (K : PySem.W.Frag) : V → Option Int → Option Int → Hp → VK → Prop := fun x lo hi H Q =>
  ∃ a xs, x = .ref a ∧ SqL K H a xs ∧ ∀ p H', Kp Non H H' → H p = none → H' p = some (.lst (cutV xs lo hi)) → Q (.ref p) H'
theorem sl_listG : SlR X (rSlLG X.K) := by
  intro pins s σ H x v vl vu lo hi sl Q I rx hs pl pu ⟨a, xs, e, h, q⟩
  exact sl_list pins s σ H x v vl vu lo hi sl Q I rx hs pl pu ⟨a, xs, e, h, fun p n => q p _ (Kp.new n) n upd_same⟩
def rSlTG (K : PySem.W.Frag) : V → Option Int → Option Int → Hp → VK → Prop := fun x lo hi H Q =>
  ∃ a xs, x = .ref a ∧ SqT K H a xs ∧ ∀ p H', Kp Non H H' → SqT K H' p (cutV xs lo hi) → Q (.ref p) H'
theorem sl_tupG : SlR X (rSlTG X.K) := by
  intro pins s σ H x v vl vu lo hi sl Q I rx hs pl pu ⟨a, xs, e, h, q⟩
  refine sl_tupA pins s σ H x v vl vu lo hi sl Q I rx hs pl pu ⟨a, xs, e, h, fun w => ?_, fun w p n => q p _ (Kp.new n) (.of upd_same)⟩
  refine q a H Kp.refl ?_
  have e2 : cutV xs lo hi = xs := by
    unfold cutV
    rw [w.1, w.2, List.drop_zero, Nat.sub_zero, List.take_length]
  rw [e2]
  exact h
/-! tuple(x), list(x) -/
def rTupG (K : PySem.W.Frag) : List V → Hp → VK → Prop := fun xs H Q => ∃ p ys, xs = [.ref p] ∧ (SqL K H p ys ∨ SqT K H p ys) ∧ ∀ l H', Kp Non H H' → SqT K H' l ys → Q (.ref l) H'
theorem call_tupleG : CallR X (.type "tuple") (rTupG X.K) := by
  intro pins s σ H xs us Q I r ⟨p, ys, e, h, q⟩
  refine call_tuple_of pins s σ H xs us Q I r ⟨p, ys, e, ?_⟩
  rcases h with h | h
  · exact .inl ⟨h, fun l n => q l _ (Kp.new n) (.of upd_same)⟩
  · exact .inr ⟨h, q p H Kp.refl h⟩
def rListG (K : PySem.W.Frag) : List V → Hp → VK → Prop := fun xs H Q => ∃ p ys, xs = [.ref p] ∧ (SqL K H p ys ∨ SqT K H p ys) ∧ ∀ l H', Kp Non H H' → H l = none → H' l = some (.lst ys) → Q (.ref l) H'
theorem call_listG : CallR X (.type "list") (rListG X.K) := by
  intro pins s σ H xs us Q I r ⟨p, ys, e, h, q⟩
  exact call_list_of pins s σ H xs us Q I r ⟨p, ys, e, h, fun l n => q l _ (Kp.new n) n upd_same⟩
/-! lists changed -/
def rAppG : V → List V → Hp → VK → Prop := fun x vs H Q => ∃ l xs y, x = .ref l ∧ vs = [y] ∧ H l = some (.lst xs) ∧ xs.length < sizeLine ∧
  ∀ H', Kp (At l) H H' → H' l = some (.lst (xs ++ [y])) → Q .non H'
theorem mt_appendG : MtM X "list.append" rAppG := by
  intro pins s σ H x xs v us Q I rx rv ⟨l, ys, y, e1, e2, h, hl, q⟩
  exact mt_append pins s σ H x xs v us Q I rx rv ⟨l, ys, y, e1, e2, h, hl, q _ (Kp.putL h) upd_same⟩
def rSetLG : V → V → V → Hp → (Hp → Prop) → Prop := fun o i v H Q => ∃ p xs k j, o = .ref p ∧ i = .int k ∧ H p = some (.lst xs) ∧ ixN xs.length k = some j ∧
  ∀ H', Kp (At p) H H' → H' p = some (.lst (xs.set j v)) → Q H'
theorem set_listG : PSet X rSetLG := by
  intro pins s σ H o i v a b c Q I ro ri rv ⟨p, xs, k, j, e1, e2, h, hj, q⟩
  exact set_list pins s σ H o i v a b c Q I ro ri rv ⟨p, xs, k, j, e1, e2, h, hj, q _ (Kp.putL h) upd_same⟩
def rRepG : R2 := fun x y H Q => ∃ l k xs, x = .ref l ∧ y = .int k ∧ H l = some (.lst xs) ∧ -(2 ^ 63) ≤ k ∧ k < 2 ^ 63 ∧ xs.length * k.toNat ≤ sizeLine ∧
  ∀ p H', Kp Non H H' → H p = none → H' p = some (.lst (List.replicate k.toNat xs).flatten) → Q (.ref p) H'
theorem op_repG : OpR X (binaryOp .Mult) rRepG := by
  intro pins s σ H x y v u Q I rx ry ⟨l, k, xs, e1, e2, h, h1, h2, h3, q⟩
  exact op_rep pins s σ H x y v u Q I rx ry ⟨l, k, xs, e1, e2, h, h1, h2, h3, fun p n => q p _ (Kp.new n) n upd_same⟩
end
/-! ### comprehensions -/
section
variable {K : PySem.W.Frag} {a : Addr} {xs : List V} {g : TG} {tt : TT} {te : TE} {vs : List Nat} {σ : L2.St} {H1 : Hp} {Q : VK} {S : Addr → Prop} {P : Nat → List V → Hp → Prop}
/-- one turn: how a kept item, a left out one go on -/
abbrev LcTurn (S : Addr → Prop) (P : Nat → List V → Hp → Prop) (g : TG) (tt : TT) (te : TE) (vs : List Nat) (σ : L2.St) (H1 : Hp) (i : Nat) (x : V) : Prop :=
  ∀ (D : Addr) (ys : List V) (H : Hp) (Z : Hp → Prop), Kp S H1 H → P i ys H →
    (∀ y H4, Kp S H H4 → P (i + 1) (ys ++ [y]) H4 → ∃ acc, H4 D = some (.lst acc) ∧ acc.length < sizeLine ∧ Z (upd H4 D (.lst (acc ++ [y])))) →
    (∀ H3, Kp S H H3 → P (i + 1) ys H3 → Z H3) →
    g x (wipe σ vs) H fun σ2 H2 => wipe σ2 vs = wipe σ vs ∧ tt σ2 H2 fun b H3 =>
      if b = true then te σ2 H3 fun y H4 => ∃ acc, H4 D = some (.lst acc) ∧ acc.length < sizeLine ∧ Z (upd H4 D (.lst (acc ++ [y]))) else Z H3
abbrev LcStab (P : Nat → List V → Hp → Prop) (H1 : Hp) : Prop := ∀ D, H1 D = none → ∀ i ys H H', P i ys H → Kp (At D) H H' → P i ys H'
/-- what stands between two turns -/
def LcAt (S : Addr → Prop) (P : Nat → List V → Hp → Prop) (H1 : Hp) (D : Addr) (i : Nat) (H : Hp) : Prop := ∃ ys, H D = some (.lst ys) ∧ ys.length ≤ i ∧ Kp S H1 H ∧ P i ys H
theorem lcStart {D : Addr} (nD : H1 D = none) (h0 : ∀ H', Kp Non H1 H' → P 0 [] H') : LcAt S P H1 D 0 (upd H1 D (.lst [])) :=
  ⟨[], upd_same, Nat.le_refl _, Kp.new nD, h0 _ (Kp.new nD)⟩
theorem lcGo {D : Addr} {i n : Nat} {x : V} {H : Hp} (nD : H1 D = none) (hS : ∀ b, S b → H1 b ≠ none) (stab : LcStab P H1) (hi : i < n) (hn : n ≤ sizeLine)
    (turn : LcTurn S P g tt te vs σ H1 i x) (h : LcAt S P H1 D i H) :
    g x (wipe σ vs) H fun σ2 H2 => wipe σ2 vs = wipe σ vs ∧ tt σ2 H2 fun b H3 =>
      if b = true then te σ2 H3 fun y H4 => ∃ acc, H4 D = some (.lst acc) ∧ acc.length < sizeLine ∧ LcAt S P H1 D (i + 1) (upd H4 D (.lst (acc ++ [y]))) else LcAt S P H1 D (i + 1) H3 := by
  obtain ⟨ys, e, l, k, p⟩ := h
  have nS : ¬ S D := fun z => hS D z nD
  refine turn D ys H _ k p (fun y H4 k4 p4 => ?_) (fun H3 k3 p3 => ⟨ys, k3.same _ _ nS e, Nat.le_succ_of_le l, k.trans k3, p3⟩)
  have e4 := k4.same _ _ nS e
  refine ⟨ys, e4, by omega, ys ++ [y], upd_same, by rw [List.length_append]; exact Nat.add_le_add_right l 1, ?_, stab D nD _ _ _ _ p4 (Kp.putL e4)⟩
  refine Kp.drop (p := D) (((k.trans k4).wide fun b z => .inr z).trans ((Kp.putL e4).wide fun b z => .inl z)) nD
/-- a comprehension over a tuple, a list, a range: what its reading asks of the thing walked -/
def LcT (K : PySem.W.Frag) (g : TG) (tt : TT) (te : TE) (vs : List Nat) (σ : L2.St) (Q : VK) (x : V) (H1 : Hp) : Prop := iTup K (tC x) σ H1 fun J H1 => ∀ D, H1 D = none → ∃ W : Nat → Nat → Hp → Prop, (∃ m, W 0 m (upd H1 D (.lst []))) ∧ ∀ i m H, W i m H →
  (J.stop i H ∧ Q (.ref D) H) ∨ (J.go i H ∧ ∃ Nx : Hp → Prop, (∀ H', Nx H' → ∃ m', m' < m ∧ W (i + 1) m' H') ∧ ∀ x H', J.yld i H x H' → g x (wipe σ vs) H' fun σ2 H2 => wipe σ2 vs = wipe σ vs ∧ tt σ2 H2 fun b H3 =>
    if b = true then te σ2 H3 fun y H4 => ∃ acc, H4 D = some (.lst acc) ∧ acc.length < sizeLine ∧ Nx (upd H4 D (.lst (acc ++ [y]))) else Nx H3)
def LcL (K : PySem.W.Frag) (g : TG) (tt : TT) (te : TE) (vs : List Nat) (σ : L2.St) (Q : VK) (x : V) (H1 : Hp) : Prop := iList K (tC x) σ H1 fun J H1 => ∀ D, H1 D = none → ∃ W : Nat → Nat → Hp → Prop, (∃ m, W 0 m (upd H1 D (.lst []))) ∧ ∀ i m H, W i m H →
  (J.stop i H ∧ Q (.ref D) H) ∨ (J.go i H ∧ ∃ Nx : Hp → Prop, (∀ H', Nx H' → ∃ m', m' < m ∧ W (i + 1) m' H') ∧ ∀ x H', J.yld i H x H' → g x (wipe σ vs) H' fun σ2 H2 => wipe σ2 vs = wipe σ vs ∧ tt σ2 H2 fun b H3 =>
    if b = true then te σ2 H3 fun y H4 => ∃ acc, H4 D = some (.lst acc) ∧ acc.length < sizeLine ∧ Nx (upd H4 D (.lst (acc ++ [y]))) else Nx H3)
def LcR (g : TG) (tt : TT) (te : TE) (vs : List Nat) (σ : L2.St) (Q : VK) (ta : TA) (H1 : Hp) : Prop := iRng1 ta σ H1 fun J H1 => ∀ D, H1 D = none → ∃ W : Nat → Nat → Hp → Prop, (∃ m, W 0 m (upd H1 D (.lst []))) ∧ ∀ i m H, W i m H →
  (J.stop i H ∧ Q (.ref D) H) ∨ (J.go i H ∧ ∃ Nx : Hp → Prop, (∀ H', Nx H' → ∃ m', m' < m ∧ W (i + 1) m' H') ∧ ∀ x H', J.yld i H x H' → g x (wipe σ vs) H' fun σ2 H2 => wipe σ2 vs = wipe σ vs ∧ tt σ2 H2 fun b H3 =>
    if b = true then te σ2 H3 fun y H4 => ∃ acc, H4 D = some (.lst acc) ∧ acc.length < sizeLine ∧ Nx (upd H4 D (.lst (acc ++ [y]))) else Nx H3)
theorem lcTup (hn : xs.length ≤ sizeLine) (src : SqT K H1 a xs) (hS : ∀ b, S b → H1 b ≠ none) (h0 : ∀ H', Kp Non H1 H' → P 0 [] H') (stab : LcStab P H1)
    (turn : ∀ i x, xs[i]? = some x → LcTurn S P g tt te vs σ H1 i x)
    (hd : ∀ D ys H', P xs.length ys H' → ys.length ≤ xs.length → Kp S H1 H' → H1 D = none → H' D = some (.lst ys) → Q (.ref D) H') :
    LcT K g tt te vs σ Q (.ref a) H1 :=
  ⟨a, rfl, ⟨xs, src⟩, fun D nD => lc_tup (K := K) (a := a) (xs := xs) (LcAt S P H1 D) (lcStart nD h0) (fun i H _ ⟨ys, _, _, k, _⟩ => k.sqT src)
    (fun i x H hx h => lcGo nD hS stab (List.getElem?_eq_some_iff.mp hx).1 hn (turn i x hx) h) (fun H ⟨ys, e, l, k, p⟩ => hd D ys H p l k nD e)⟩
theorem lcList (hn : xs.length ≤ sizeLine) (src : SqL K H1 a xs) (nSa : ¬ S a) (hS : ∀ b, S b → H1 b ≠ none) (h0 : ∀ H', Kp Non H1 H' → P 0 [] H') (stab : LcStab P H1)
    (turn : ∀ i x, xs[i]? = some x → LcTurn S P g tt te vs σ H1 i x)
    (hd : ∀ D ys H', P xs.length ys H' → ys.length ≤ xs.length → Kp S H1 H' → H1 D = none → H' D = some (.lst ys) → Q (.ref D) H') :
    LcL K g tt te vs σ Q (.ref a) H1 :=
  ⟨a, rfl, ⟨xs, src⟩, fun D nD => lc_list (K := K) (a := a) (xs := xs) (LcAt S P H1 D) (lcStart nD h0) (fun i H _ ⟨ys, _, _, k, _⟩ => k.sqL nSa src)
    (fun i x H hx h => lcGo nD hS stab (List.getElem?_eq_some_iff.mp hx).1 hn (turn i x hx) h) (fun H ⟨ys, e, l, k, p⟩ => hd D ys H p l k nD e)⟩
/-- one value, ready -/
def tC1 (v : V) : TA := fun _ H Q => Q [v] H
theorem lcRange {hi : Int} {n : Nat} (h0i : 0 ≤ hi) (en : hi.toNat = n) (hn : n ≤ 1000000) (hS : ∀ b, S b → H1 b ≠ none) (h0 : ∀ H', Kp Non H1 H' → P 0 [] H') (stab : LcStab P H1)
    (turn : ∀ i : Nat, i < n → LcTurn S P g tt te vs σ H1 i (.int (0 + i)))
    (hd : ∀ D ys H', P n ys H' → ys.length ≤ n → Kp S H1 H' → H1 D = none → H' D = some (.lst ys) → Q (.ref D) H') :
    LcR g tt te vs σ Q (tC1 (.int hi)) H1 :=
  ⟨hi, rfl, by omega, by omega, fun D nD => by
    subst en
    exact lc_range (LcAt S P H1 D) (lcStart nD h0) (fun i H hi h => lcGo nD hS stab hi (Nat.le_trans hn (by decide)) (turn i hi) h) (fun H ⟨ys, e, l, k, p⟩ => hd D ys H p l k nD e)⟩
end
section
variable {σ : L2.St} {H : Hp} {Q : VK} {tr : TA}
theorem sTupG (h : tr σ H fun xs H1 => xs.length ≤ sizeLine ∧ ∀ p H', Kp Non H1 H' → H1 p = none → H' p = some (.tup xs) → Q (.ref p) H') : tTupG tr σ H Q := h
theorem sLstG (h : tr σ H fun xs H1 => xs.length ≤ sizeLine ∧ ∀ p H', Kp Non H1 H' → H1 p = none → H' p = some (.lst xs) → Q (.ref p) H') : tLstG tr σ H Q := h
theorem sLen {xs : List V} {C : Prop} (l : xs.length ≤ sizeLine) (h : C) : xs.length ≤ sizeLine ∧ C := ⟨l, h⟩
theorem sLcL {K : PySem.W.Frag} {tl : TE} {g : TG} {tt : TT} {te : TE} {vs : List Nat} (h : tl σ H fun x H1 => LcL K g tt te vs σ Q x H1) : tLc (iList K tl) g tt te vs σ H Q := h
theorem sLcT {K : PySem.W.Frag} {tl : TE} {g : TG} {tt : TT} {te : TE} {vs : List Nat} (h : tl σ H fun x H1 => LcT K g tt te vs σ Q x H1) : tLc (iTup K tl) g tt te vs σ H Q := h
theorem sLcR {tl : TE} {g : TG} {tt : TT} {te : TE} {vs : List Nat} (h : tl σ H fun x H1 => LcR g tt te vs σ Q (tC1 x) H1) : tLc (iRng1 (tCons tl tNil)) g tt te vs σ H Q := h
/-- a for over a tuple, a list, a range -/
def ForL (K : PySem.W.Frag) (g : TG) (tb : TS) (D : Ends) (σ : L2.St) (x : V) (H1 : Hp) : Prop := tFor (iList K (tC x)) g tb D σ H1
def ForT (K : PySem.W.Frag) (g : TG) (tb : TS) (D : Ends) (σ : L2.St) (x : V) (H1 : Hp) : Prop := tFor (iTup K (tC x)) g tb D σ H1
def ForR (g : TG) (tb : TS) (D : Ends) (σ : L2.St) (x : V) (H1 : Hp) : Prop := tFor (iRng1 (tC1 x)) g tb D σ H1
theorem sForL {K : PySem.W.Frag} {tl : TE} {g : TG} {tb : TS} {D : Ends} (h : tl σ H fun x H1 => ForL K g tb D σ x H1) : tFor (iList K tl) g tb D σ H := h
theorem sForT {K : PySem.W.Frag} {tl : TE} {g : TG} {tb : TS} {D : Ends} (h : tl σ H fun x H1 => ForT K g tb D σ x H1) : tFor (iTup K tl) g tb D σ H := h
theorem sForR {tl : TE} {g : TG} {tb : TS} {D : Ends} (h : tl σ H fun x H1 => ForR g tb D σ x H1) : tFor (iRng1 (tCons tl tNil)) g tb D σ H := h
section
variable {K : PySem.W.Frag} {a : Addr} {xs : List V} {g : TG} {tb : TS} {D : Ends} (P : Nat → L2.St → Hp → Prop)
theorem forList (src : ∀ i σ H, P i σ H → SqL K H a xs) (h0 : P 0 σ H)
    (hs : ∀ i x σ H, xs[i]? = some x → P i σ H → g x σ H fun σ2 H2 => tb { D with nx := P (i + 1), ct := P (i + 1), bk := D.nx } σ2 H2) (hd : ∀ σ H, P xs.length σ H → D.nx σ H) : ForL K g tb D σ (.ref a) H :=
  ⟨a, rfl, ⟨xs, src 0 σ H h0⟩, for_list P h0 (fun i σ H _ p => src i σ H p) hs hd⟩
theorem forTup (src : ∀ i σ H, P i σ H → SqT K H a xs) (h0 : P 0 σ H)
    (hs : ∀ i x σ H, xs[i]? = some x → P i σ H → g x σ H fun σ2 H2 => tb { D with nx := P (i + 1), ct := P (i + 1), bk := D.nx } σ2 H2) (hd : ∀ σ H, P xs.length σ H → D.nx σ H) : ForT K g tb D σ (.ref a) H :=
  ⟨a, rfl, ⟨xs, src 0 σ H h0⟩, for_tup P h0 (fun i σ H _ p => src i σ H p) hs hd⟩
theorem forRange {hi : Int} {n : Nat} (en : hi.toNat = n) (l1 : -1000000 ≤ hi) (l2 : hi ≤ 1000000) (h0 : P 0 σ H)
    (hs : ∀ (i : Nat) σ H, i < n → P i σ H → g (.int (0 + i)) σ H fun σ2 H2 => tb { D with nx := P (i + 1), ct := P (i + 1), bk := D.nx } σ2 H2) (hd : ∀ σ H, P n σ H → D.nx σ H) : ForR g tb D σ (.int hi) H := by
  subst en
  exact ⟨hi, rfl, by omega, by omega, for_range P h0 hs hd⟩
end
theorem sYes {QB : Bool → Hp → Prop} (h : QB true H) : tYes σ H QB := h
theorem sGTup {K : PySem.W.Frag} {n : Nat} {t : TGs} {a : Addr} {xs : List V} {Qs : L2.St → Hp → Prop} (h : SqT K H a xs) (l : xs.length = n) (q : t xs σ H Qs) : gTup K n t (.ref a) σ H Qs := ⟨a, xs, rfl, h, l, q⟩
theorem sGCons {t : TG} {u : TGs} {v : V} {r : List V} {Qs : L2.St → Hp → Prop} (h : t v σ H fun σ' H' => u r σ' H' Qs) : gCons t u (v :: r) σ H Qs := ⟨v, r, rfl, h⟩
theorem sGNil {Qs : L2.St → Hp → Prop} (h : Qs σ H) : gNil [] σ H Qs := ⟨rfl, h⟩
theorem sGSub {to ti : TE} {t : TSet} {v : V} {Qs : L2.St → Hp → Prop} (h : to σ H fun o H1 => ti σ H1 fun i H2 => t o i v H2 fun H3 => Qs σ H3) : gSub to ti t v σ H Qs := h
end
/-- both branches of a conditional expression go on alike -/
theorem sIfE {b : Bool} {ta tb : TE} {σ : L2.St} {H : Hp} {F : VK} (P : V → Prop) (k : ∀ F' : VK, (∀ v, P v → F' v H) → if b = true then ta σ H F' else tb σ H F') (h : ∀ v, P v → F v H) :
    if b = true then ta σ H F else tb σ H F := k F h
/-- both branches of an if go on alike -/
theorem sAndJ {b : Bool} {tu : TT} {σ : L2.St} {H : Hp} {QB : Bool → Hp → Prop} (P : Bool → Prop) (k : ∀ F : Bool → Hp → Prop, (∀ c, P c → F c H) → if b = true then tu σ H F else F false H) (h : ∀ c, P c → QB c H) :
    if b = true then tu σ H QB else QB false H := k QB h
theorem sAndK {b : Bool} {tu : TT} {σ : L2.St} {H : Hp} {QB : Bool → Hp → Prop} (P : Bool → Hp → Prop) (k : ∀ F : Bool → Hp → Prop, (∀ c H', P c H' → F c H') → if b = true then tu σ H F else F false H) (h : ∀ c H', P c H' → QB c H') :
    if b = true then tu σ H QB else QB false H := k QB h
theorem sOrK {b : Bool} {tu : TT} {σ : L2.St} {H : Hp} {QB : Bool → Hp → Prop} (P : Bool → Hp → Prop) (k : ∀ F : Bool → Hp → Prop, (∀ c H', P c H' → F c H') → if b = true then F true H else tu σ H F) (h : ∀ c H', P c H' → QB c H') :
    if b = true then QB true H else tu σ H QB := k QB h
theorem sIfJ {b : Bool} {t u : TS} {D : Ends} {σ : L2.St} {H : Hp} (P : L2.St → Hp → Prop) (k : ∀ F' : L2.St → Hp → Prop, (∀ σ H, P σ H → F' σ H) → if b = true then t { D with nx := F' } σ H else u { D with nx := F' } σ H) (h : ∀ σ H, P σ H → D.nx σ H) :
    if b = true then t D σ H else u D σ H := k D.nx h
def rLenG (K : PySem.W.Frag) : List V → Hp → VK → Prop := fun xs H Q => ∃ x n, xs = [x] ∧ LenV K x H n ∧ Q (.int n) H
theorem call_lenG {X : Cx} : CallR X (.builtin "len") (rLenG X.K) := call_len
def rMinG : List V → Hp → VK → Prop := fun xs H Q => ∃ i j, xs = [.int i, .int j] ∧ Q (.int (if j < i then j else i)) H
theorem call_min2G {X : Cx} (hc : X.calm = true) : CallR X (.builtin "min") rMinG := call_min2 hc
def rMaxG : List V → Hp → VK → Prop := fun xs H Q => ∃ i j, xs = [.int i, .int j] ∧ Q (.int (if i < j then j else i)) H
theorem call_max2G {X : Cx} (hc : X.calm = true) : CallR X (.builtin "max") rMaxG := call_max2 hc
section
variable {K : PySem.W.Frag} {H : Hp} {a : Addr} {xs : List V} {Q : VK}
theorem sLenL (h : SqL K H a xs) (q : Q (.int xs.length) H) : rLenG K [V.ref a] H Q := ⟨_, xs.length, rfl, .inl ⟨xs, h, rfl⟩, q⟩
theorem sLenT (h : SqT K H a xs) (q : Q (.int xs.length) H) : rLenG K [V.ref a] H Q := ⟨_, xs.length, rfl, .inr ⟨xs, h, rfl⟩, q⟩
theorem sMin {i j : Int} (q : Q (.int (if j < i then j else i)) H) : rMinG [.int i, .int j] H Q := ⟨i, j, rfl, q⟩
theorem sMax {i j : Int} (q : Q (.int (if i < j then j else i)) H) : rMaxG [.int i, .int j] H Q := ⟨i, j, rfl, q⟩
theorem sIxL {v : V} {n : Int} (h : SqL K H a xs) (e : atI xs n = some v) (q : Q v H) : rIxL K (.ref a) (.int n) H Q := ⟨a, xs, n, v, rfl, rfl, h, e, q⟩
theorem sIxT {v : V} {n : Int} (h : SqT K H a xs) (e : atI xs n = some v) (q : Q v H) : rIxT K (.ref a) (.int n) H Q := ⟨a, xs, n, v, rfl, rfl, h, e, q⟩
theorem sSlL {lo hi : Option Int} (h : SqL K H a xs) (q : ∀ p H', Kp Non H H' → H p = none → H' p = some (.lst (cutV xs lo hi)) → Q (.ref p) H') : rSlLG K (.ref a) lo hi H Q := ⟨a, xs, rfl, h, q⟩
theorem sSlT {lo hi : Option Int} (h : SqT K H a xs) (q : ∀ p H', Kp Non H H' → SqT K H' p (cutV xs lo hi) → Q (.ref p) H') : rSlTG K (.ref a) lo hi H Q := ⟨a, xs, rfl, h, q⟩
theorem sTupL (h : SqL K H a xs) (q : ∀ l H', Kp Non H H' → SqT K H' l xs → Q (.ref l) H') : rTupG K [.ref a] H Q := ⟨a, xs, rfl, .inl h, q⟩
theorem sListL (h : SqL K H a xs) (q : ∀ l H', Kp Non H H' → H l = none → H' l = some (.lst xs) → Q (.ref l) H') : rListG K [.ref a] H Q := ⟨a, xs, rfl, .inl h, q⟩
theorem sListT (h : SqT K H a xs) (q : ∀ l H', Kp Non H H' → H l = none → H' l = some (.lst xs) → Q (.ref l) H') : rListG K [.ref a] H Q := ⟨a, xs, rfl, .inr h, q⟩
theorem sApp {y : V} (h : H a = some (.lst xs)) (hl : xs.length < sizeLine) (q : ∀ H', Kp (At a) H H' → H' a = some (.lst (xs ++ [y])) → Q .non H') : rAppG (.ref a) [y] H Q := ⟨a, xs, y, rfl, rfl, h, hl, q⟩
theorem sSum {ns : List Int} (h : SqL K H a (ns.map V.int)) (q : Q (.int ns.sum) H) : rSum K [.ref a] H Q := ⟨a, ns, rfl, h, q⟩
theorem sAll {bs : List Bool} (h : SqL K H a (bs.map V.bl)) (q : Q (.bl (bs.all id)) H) : rAll K [.ref a] H Q := ⟨a, bs, rfl, h, q⟩
theorem sAny {bs : List Bool} (h : SqL K H a (bs.map V.bl)) (q : Q (.bl (bs.any id)) H) : rAny K [.ref a] H Q := ⟨a, bs, rfl, h, q⟩
theorem sInL {x : V} (h : SqL K H a xs) (f : flatV x = true) (fs : xs.all flatV = true) (q : Q (.bl (inV x xs)) H) : rIn K false x (.ref a) H Q := ⟨a, xs, rfl, .inl h, f, fs, q⟩
theorem sInT {x : V} (h : SqT K H a xs) (f : flatV x = true) (fs : xs.all flatV = true) (q : Q (.bl (inV x xs)) H) : rIn K false x (.ref a) H Q := ⟨a, xs, rfl, .inr h, f, fs, q⟩
theorem sNiL {x : V} (h : SqL K H a xs) (f : flatV x = true) (fs : xs.all flatV = true) (q : Q (.bl (!inV x xs)) H) : rIn K true x (.ref a) H Q := ⟨a, xs, rfl, .inl h, f, fs, q⟩
theorem sNiT {x : V} (h : SqT K H a xs) (f : flatV x = true) (fs : xs.all flatV = true) (q : Q (.bl (!inV x xs)) H) : rIn K true x (.ref a) H Q := ⟨a, xs, rfl, .inr h, f, fs, q⟩
theorem sRepr {v : V} {d : PyData} (h : Dp K H v d) (s : d.showable = true) (n : d.hasDict = false) (dp : d.depth ≤ 100) (z : d.shown.length ≤ sizeLine) (q : Q (.str d.shown) H) : rRepr K [v] H Q := ⟨v, d, rfl, h, s, n, dp, z, q⟩
theorem sNeD {x y : V} {d e : PyData} (h : Dp K H x d) (h2 : Dp K H y e) (s : SeqAt.shaped d = true) (s2 : SeqAt.shaped e = true) (q : Q (.bl (!PyData.eqv d e)) H) : rNeD K x y H Q := ⟨d, e, h, h2, s, s2, q⟩
theorem sEqD {x y : V} {d e : PyData} (h : Dp K H x d) (h2 : Dp K H y e) (s : SeqAt.shaped d = true) (s2 : SeqAt.shaped e = true) (q : Q (.bl (PyData.eqv d e)) H) : rEqD K x y H Q := ⟨d, e, h, h2, s, s2, q⟩
theorem sRep {k : Int} (h : H a = some (.lst xs)) (h1 : 0 ≤ k) (h2 : k ≤ 10000) (h3 : xs.length ≤ 1) (q : ∀ p H', Kp Non H H' → H p = none → H' p = some (.lst (List.replicate k.toNat xs).flatten) → Q (.ref p) H') : rRepG (.ref a) (.int k) H Q :=
  ⟨a, k, xs, rfl, rfl, h, by omega, by omega, Nat.le_of_lt (Nat.lt_of_le_of_lt (Nat.mul_le_mul h3 (by omega : k.toNat ≤ 10000)) (by decide)), q⟩
theorem sSetL {k : Int} {v : V} {j : Nat} {R : Hp → Prop} (h : H a = some (.lst xs)) (e : ixN xs.length k = some j) (q : ∀ H', Kp (At a) H H' → H' a = some (.lst (xs.set j v)) → R H') : rSetLG (.ref a) (.int k) v H R := ⟨a, xs, k, j, rfl, rfl, h, e, q⟩
end
/-! ### is None -/
def rIsNG : R2 := fun x y H Q => y = .non ∧ Q (.bl (decide (x = .non))) H
def rNotNG : R2 := fun x y H Q => y = .non ∧ Q (.bl (!decide (x = .non))) H
theorem op_isNG {X : Cx} : OpR X (compareOp .Is) rIsNG := op_isN
theorem op_notNG {X : Cx} : OpR X (compareOp .IsNot) rNotNG := op_notN
theorem sIsN {x : V} {H : Hp} {Q : VK} (q : Q (.bl (decide (x = .non))) H) : rIsNG x .non H Q := ⟨rfl, q⟩
theorem sNotN {x : V} {H : Hp} {Q : VK} (q : Q (.bl (!decide (x = .non))) H) : rNotNG x .non H Q := ⟨rfl, q⟩
/-- a range's bounds, walked -/
theorem sRng1 {j : Int} {R : It → Hp → Prop} {H : Hp} (h1 : -1000000 ≤ j) (h2 : j ≤ 1000000) (q : R (Itr 0 j.toNat) H) : ∃ k : Int, [V.int j] = [.int k] ∧ -(2 ^ 62) ≤ k ∧ k < 2 ^ 62 ∧ R (Itr 0 k.toNat) H :=
  ⟨j, rfl, by omega, by omega, q⟩
theorem inV_strs (w : Str) (ws : List Str) : inV (.str w) (ws.map V.str) = decide (w ∈ ws) := by
  unfold inV
  induction ws with
  | nil => simp
  | cons x r ih =>
    rw [List.map_cons, List.any_cons, ih]
    by_cases e : x = w
    · subst e; simp [eqV]
    · simp [eqV, e, Ne.symm e]
theorem flat_strs (ws : List Str) : (ws.map V.str).all flatV = true := by
  induction ws with
  | nil => rfl
  | cons x r ih => rw [List.map_cons, List.all_cons, ih]; rfl
theorem inV_ints (w : Int) (ws : List Int) : inV (.int w) (ws.map V.int) = decide (w ∈ ws) := by
  unfold inV
  induction ws with
  | nil => simp
  | cons x r ih =>
    rw [List.map_cons, List.any_cons, ih]
    by_cases e : x = w
    · subst e; simp [eqV]
    · simp [eqV, e, Ne.symm e]
theorem flat_ints (ws : List Int) : (ws.map V.int).all flatV = true := by
  induction ws with
  | nil => rfl
  | cons x r ih => rw [List.map_cons, List.all_cons, ih]; rfl
section
variable {K : PySem.W.Frag} {H : Hp} {a : Addr} {Q : VK}
theorem sInTS {w : Str} {ws : List Str} (h : SqT K H a (ws.map V.str)) (q : Q (.bl (decide (w ∈ ws))) H) : rIn K false (.str w) (.ref a) H Q := sInT h rfl (flat_strs _) (by rw [inV_strs]; exact q)
theorem sInLS {w : Str} {ws : List Str} (h : SqL K H a (ws.map V.str)) (q : Q (.bl (decide (w ∈ ws))) H) : rIn K false (.str w) (.ref a) H Q := sInL h rfl (flat_strs _) (by rw [inV_strs]; exact q)
theorem sInTI {w : Int} {ws : List Int} (h : SqT K H a (ws.map V.int)) (q : Q (.bl (decide (w ∈ ws))) H) : rIn K false (.int w) (.ref a) H Q := sInT h rfl (flat_ints _) (by rw [inV_ints]; exact q)
theorem sInLI {w : Int} {ws : List Int} (h : SqL K H a (ws.map V.int)) (q : Q (.bl (decide (w ∈ ws))) H) : rIn K false (.int w) (.ref a) H Q := sInL h rfl (flat_ints _) (by rw [inV_ints]; exact q)
theorem sNiTI {w : Int} {ws : List Int} (h : SqT K H a (ws.map V.int)) (q : Q (.bl (!decide (w ∈ ws))) H) : rIn K true (.int w) (.ref a) H Q := sNiT h rfl (flat_ints _) (by rw [inV_ints]; exact q)
theorem sNiLI {w : Int} {ws : List Int} (h : SqL K H a (ws.map V.int)) (q : Q (.bl (!decide (w ∈ ws))) H) : rIn K true (.int w) (.ref a) H Q := sNiL h rfl (flat_ints _) (by rw [inV_ints]; exact q)
end
theorem cutTake (xs : List V) (n : Nat) : cutV xs none (some (n : Int)) = xs.take n := by
  unfold cutV
  rw [HT.sIx_none, HT.sIx_nat, List.drop_zero, Nat.sub_zero]
  by_cases h : n ≤ xs.length
  · rw [Nat.min_eq_left h]
  · rw [Nat.min_eq_right (by omega), List.take_of_length_le (Nat.le_refl _), List.take_of_length_le (by omega)]
theorem cutDrop (xs : List V) (n : Nat) : cutV xs (some (n : Int)) none = xs.drop n := by
  unfold cutV
  rw [HT.sIx_none, HT.sIx_nat]
  by_cases h : n ≤ xs.length
  · rw [Nat.min_eq_left h, List.take_of_length_le (by rw [List.length_drop]; exact Nat.le_refl _)]
  · rw [Nat.min_eq_right (by omega), List.drop_of_length_le (Nat.le_refl _), List.drop_of_length_le (by omega), List.take_nil]
theorem sBM {K : PySem.W.Frag} {T : String} {r : V → List V → Hp → VK → Prop} {to : TE} {t : TA} {σ : L2.St} {H : Hp} {Q : VK} (h : to σ H fun x H1 => tyV K T x H1 ∧ t σ H1 fun xs H2 => r x xs H2 Q) : tBM K T r to t σ H Q := h
theorem sBM0 {K : PySem.W.Frag} {T : String} {r : V → List V → Hp → VK → Prop} {to : TE} {σ : L2.St} {H : Hp} {Q : VK} (h : to σ H fun x H1 => tyV K T x H1 ∧ r x [] H1 Q) : tBM0 K T r to σ H Q := h
theorem sTy {K : PySem.W.Frag} {H : Hp} {a : Addr} {xs : List V} {C : Prop} (h : H a = some (.lst xs)) (q : C) : tyV K "list" (.ref a) H ∧ C := ⟨.inl ⟨rfl, _, .of h⟩, q⟩
/-- t + u of tuples -/
def rCatG (K : PySem.W.Frag) : R2 := fun x y H Q => ∃ a b xs ys, x = .ref a ∧ y = .ref b ∧ SqT K H a xs ∧ SqT K H b ys ∧ xs.length + ys.length ≤ sizeLine ∧ ∀ p H', Kp Non H H' → SqT K H' p (xs ++ ys) → Q (.ref p) H'
theorem op_catG {X : Cx} : OpR X (binaryOp .Add) (rCatG X.K) := by
  intro pins s σ H x y v u Q I rx ry ⟨a, b, xs, ys, e1, e2, ha, hb, hz, q⟩
  refine op_catA pins s σ H x y v u Q I rx ry ⟨a, b, xs, ys, e1, e2, ha, hb, hz, fun e => ?_, fun _ e => ?_, fun _ _ p n => q p _ (Kp.new n) (.of upd_same)⟩
  · subst e; exact q b H Kp.refl hb
  · subst e; exact q a H Kp.refl (by rw [List.append_nil]; exact ha)
theorem sCat {K : PySem.W.Frag} {H : Hp} {Q : VK} {a b : Addr} {xs ys : List V} (h : SqT K H a xs) (h2 : SqT K H b ys) (z : xs.length + ys.length ≤ 1000) (q : ∀ p H', Kp Non H H' → SqT K H' p (xs ++ ys) → Q (.ref p) H') : rCatG K (.ref a) (.ref b) H Q :=
  ⟨a, b, xs, ys, rfl, rfl, h, h2, Nat.le_of_lt (small1000 z), q⟩
/-- xs + ys of lists -/
def rCatLG : R2 := fun x y H Q => ∃ a b xs ys, x = .ref a ∧ y = .ref b ∧ H a = some (.lst xs) ∧ H b = some (.lst ys) ∧ xs.length + ys.length ≤ sizeLine ∧ ∀ p H', Kp Non H H' → H p = none → H' p = some (.lst (xs ++ ys)) → Q (.ref p) H'
theorem op_catLG {X : Cx} : OpR X (binaryOp .Add) rCatLG := by
  intro pins s σ H x y v u Q I rx ry ⟨a, b, xs, ys, e1, e2, ha, hb, hz, q⟩
  exact op_cat pins s σ H x y v u Q I rx ry ⟨a, b, xs, ys, e1, e2, ha, hb, by omega, fun p n => q p _ (Kp.new n) n upd_same⟩
theorem sCatL {H : Hp} {Q : VK} {a b : Addr} {xs ys : List V} (h : H a = some (.lst xs)) (h2 : H b = some (.lst ys)) (z : xs.length + ys.length ≤ 1000) (q : ∀ p H', Kp Non H H' → H p = none → H' p = some (.lst (xs ++ ys)) → Q (.ref p) H') : rCatLG (.ref a) (.ref b) H Q :=
  ⟨a, b, xs, ys, rfl, rfl, h, h2, Nat.le_of_lt (small1000 z), q⟩
theorem sIfEK {b : Bool} {ta tb : TE} {σ : L2.St} {H : Hp} {F : VK} (P : V → Hp → Prop) (k : ∀ F' : VK, (∀ v H', P v H' → F' v H') → if b = true then ta σ H F' else tb σ H F') (h : ∀ v H', P v H' → F v H') :
    if b = true then ta σ H F else tb σ H F := k F h
theorem sNeB {a b : Bool} {H : Hp} {Q : VK} (h : Q (.bl (!decide (a = b))) H) : rNe (.bl a) (.bl b) H Q := ⟨by cases a <;> cases b <;> rfl, by rwa [show decide (V.bl a = V.bl b) = decide (a = b) from by simp]⟩
theorem sEqB {a b : Bool} {H : Hp} {Q : VK} (h : Q (.bl (decide (a = b))) H) : rEq (.bl a) (.bl b) H Q := ⟨by cases a <;> cases b <;> rfl, by rwa [show decide (V.bl a = V.bl b) = decide (a = b) from by simp]⟩
/-- xs * k of lists -/
theorem sRepS {k : Int} {H : Hp} {Q : VK} {a : Addr} {xs : List V} (h : H a = some (.lst xs)) (h1 : 0 ≤ k) (h2 : k ≤ 100) (h3 : xs.length ≤ 100) (q : ∀ p H', Kp Non H H' → H p = none → H' p = some (.lst (List.replicate k.toNat xs).flatten) → Q (.ref p) H') : rRepG (.ref a) (.int k) H Q :=
  ⟨a, k, xs, rfl, rfl, h, by omega, by omega, Nat.le_of_lt (Nat.lt_of_le_of_lt (Nat.mul_le_mul h3 (by omega : k.toNat ≤ 100)) (by decide)), q⟩
theorem sIntB {H : Hp} {Q : VK} {k : Bool} (q : Q (.int (if k then 1 else 0)) H) : (∃ i, [V.bl k] = [.int i] ∧ Q (.int i) H) ∨ ∃ k', [V.bl k] = [.bl k'] ∧ Q (.int (if k' then 1 else 0)) H := .inr ⟨k, rfl, q⟩
theorem sw_false {elt : Expr} {gs : List Comprehension} {scope : Scope} {pos py : Pos} {y : Str} {l : Nat} {env : Env} (hy : env.scope.names.lookup y = some .cell) : swapsWith (.ListComp elt gs scope pos) (some (.Name y py)) l env = pure false := by
  have ky : env.kindOf y = some .cell := hy
  have e : (some NameKind.cell == some NameKind.local) = false := by decide
  unfold swapsWith
  simp only [ky, e, Bool.and_false, Bool.false_and]
/-! range(a, b) -/
/-- two values, ready -/
def tC2 (v w : V) : TA := fun _ H Q => Q [v, w] H
def LcR2 (g : TG) (tt : TT) (te : TE) (vs : List Nat) (σ : L2.St) (Q : VK) (v w : V) (H1 : Hp) : Prop := tLc (iRng2 (tC2 v w)) g tt te vs σ H1 Q
def ForR2 (g : TG) (tb : TS) (D : Ends) (σ : L2.St) (v w : V) (H1 : Hp) : Prop := tFor (iRng2 (tC2 v w)) g tb D σ H1
section
variable {g : TG} {tt : TT} {te : TE} {tb : TS} {D : Ends} {vs : List Nat} {σ : L2.St} {H1 : Hp} {Q : VK} {S : Addr → Prop} {P : Nat → List V → Hp → Prop}
theorem sLcR2 {tl th : TE} (h : tl σ H1 fun x H2 => th σ H2 fun y H3 => LcR2 g tt te vs σ Q x y H3) : tLc (iRng2 (tCons tl (tCons th tNil))) g tt te vs σ H1 Q := h
theorem sForR2 {tl th : TE} (h : tl σ H1 fun x H2 => th σ H2 fun y H3 => ForR2 g tb D σ x y H3) : tFor (iRng2 (tCons tl (tCons th tNil))) g tb D σ H1 := h
theorem lcRange2 {lo hi : Int} {n : Nat} (en : (hi - lo).toNat = n) (b1 : 0 ≤ lo) (b2 : lo ≤ 1000000) (b3 : 0 ≤ hi) (b4 : hi ≤ 1000000) (hS : ∀ b, S b → H1 b ≠ none) (h0 : ∀ H', Kp Non H1 H' → P 0 [] H') (stab : LcStab P H1)
    (turn : ∀ i : Nat, i < n → LcTurn S P g tt te vs σ H1 i (.int (lo + i)))
    (hd : ∀ D ys H', P n ys H' → ys.length ≤ n → Kp S H1 H' → H1 D = none → H' D = some (.lst ys) → Q (.ref D) H') :
    LcR2 g tt te vs σ Q (.int lo) (.int hi) H1 :=
  ⟨lo, hi, rfl, ⟨by omega, by omega, by omega, by omega⟩, fun D nD => by
    subst en
    have big : (hi - lo).toNat ≤ 1000000 := by omega
    exact lc_range (LcAt S P H1 D) (lcStart nD h0) (fun i H hi' h => lcGo nD hS stab hi' (Nat.le_trans big (by decide)) (turn i hi') h) (fun H ⟨ys, e, l, k, p⟩ => hd D ys H p l k nD e)⟩
theorem forRange2 {lo hi : Int} {n : Nat} (P : Nat → L2.St → Hp → Prop) (en : (hi - lo).toNat = n) (b1 : -1000000 ≤ lo) (b2 : lo ≤ 1000000) (b3 : -1000000 ≤ hi) (b4 : hi ≤ 1000000) (h0 : P 0 σ H1)
    (hs : ∀ (i : Nat) σ H, i < n → P i σ H → g (.int (lo + i)) σ H fun σ2 H2 => tb { D with nx := P (i + 1), ct := P (i + 1), bk := D.nx } σ2 H2) (hd : ∀ σ H, P n σ H → D.nx σ H) : ForR2 g tb D σ (.int lo) (.int hi) H1 := by
  subst en
  exact ⟨lo, hi, rfl, ⟨by omega, by omega, by omega, by omega⟩, for_range P h0 hs hd⟩
end
theorem atI_last {xs : List V} {v : V} : atI (xs ++ [v]) (-1) = some v := by
  have e : ixN (xs ++ [v]).length (-1) = some xs.length := by
    unfold ixN
    rw [if_neg (by decide), if_pos (by rw [List.length_append, List.length_singleton]; omega)]
    congr 1
    rw [List.length_append, List.length_singleton]
    omega
  unfold atI
  rw [e]
  simp
/-! comprehensions whose items are new lists: what stays when the item is appended is asked with the list known -/
section
variable {K : PySem.W.Frag} {a : Addr} {xs : List V} {g : TG} {tt : TT} {te : TE} {vs : List Nat} {σ : L2.St} {H1 : Hp} {Q : VK} {S : Addr → Prop} {P : Nat → List V → Hp → Prop}
abbrev LcStabM (P : Nat → List V → Hp → Prop) (H1 : Hp) : Prop := ∀ D, H1 D = none → ∀ i ys y H H', H D = some (.lst ys) → P (i + 1) (ys ++ [y]) H → Kp (At D) H H' → P (i + 1) (ys ++ [y]) H'
theorem lcGoM {D : Addr} {i n : Nat} {x : V} {H : Hp} (nD : H1 D = none) (hS : ∀ b, S b → H1 b ≠ none) (stab : LcStabM P H1) (hi : i < n) (hn : n ≤ sizeLine)
    (turn : LcTurn S P g tt te vs σ H1 i x) (h : LcAt S P H1 D i H) :
    g x (wipe σ vs) H fun σ2 H2 => wipe σ2 vs = wipe σ vs ∧ tt σ2 H2 fun b H3 =>
      if b = true then te σ2 H3 fun y H4 => ∃ acc, H4 D = some (.lst acc) ∧ acc.length < sizeLine ∧ LcAt S P H1 D (i + 1) (upd H4 D (.lst (acc ++ [y]))) else LcAt S P H1 D (i + 1) H3 := by
  obtain ⟨ys, e, l, k, p⟩ := h
  have nS : ¬ S D := fun z => hS D z nD
  refine turn D ys H _ k p (fun y H4 k4 p4 => ?_) (fun H3 k3 p3 => ⟨ys, k3.same _ _ nS e, Nat.le_succ_of_le l, k.trans k3, p3⟩)
  have e4 := k4.same _ _ nS e
  refine ⟨ys, e4, by omega, ys ++ [y], upd_same, by rw [List.length_append]; exact Nat.add_le_add_right l 1, ?_, stab D nD _ _ _ _ _ e4 p4 (Kp.putL e4)⟩
  exact Kp.drop (p := D) (((k.trans k4).wide fun b z => .inr z).trans ((Kp.putL e4).wide fun b z => .inl z)) nD
theorem lcTupM (hn : xs.length ≤ sizeLine) (src : SqT K H1 a xs) (hS : ∀ b, S b → H1 b ≠ none) (h0 : ∀ H', Kp Non H1 H' → P 0 [] H') (stab : LcStabM P H1)
    (turn : ∀ i x, xs[i]? = some x → LcTurn S P g tt te vs σ H1 i x)
    (hd : ∀ D ys H', P xs.length ys H' → ys.length ≤ xs.length → Kp S H1 H' → H1 D = none → H' D = some (.lst ys) → Q (.ref D) H') :
    LcT K g tt te vs σ Q (.ref a) H1 :=
  ⟨a, rfl, ⟨xs, src⟩, fun D nD => lc_tup (K := K) (a := a) (xs := xs) (LcAt S P H1 D) (lcStart nD h0) (fun i H _ ⟨ys, _, _, k, _⟩ => k.sqT src)
    (fun i x H hx h => lcGoM nD hS stab (List.getElem?_eq_some_iff.mp hx).1 hn (turn i x hx) h) (fun H ⟨ys, e, l, k, p⟩ => hd D ys H p l k nD e)⟩
theorem lcRangeM {hi : Int} {n : Nat} (h0i : 0 ≤ hi) (en : hi.toNat = n) (hn : n ≤ 1000000) (hS : ∀ b, S b → H1 b ≠ none) (h0 : ∀ H', Kp Non H1 H' → P 0 [] H') (stab : LcStabM P H1)
    (turn : ∀ i : Nat, i < n → LcTurn S P g tt te vs σ H1 i (.int (0 + i)))
    (hd : ∀ D ys H', P n ys H' → ys.length ≤ n → Kp S H1 H' → H1 D = none → H' D = some (.lst ys) → Q (.ref D) H') :
    LcR g tt te vs σ Q (tC1 (.int hi)) H1 :=
  ⟨hi, rfl, by omega, by omega, fun D nD => by
    subst en
    exact lc_range (LcAt S P H1 D) (lcStart nD h0) (fun i H hi h => lcGoM nD hS stab hi (Nat.le_trans hn (by decide)) (turn i hi) h) (fun H ⟨ys, e, l, k, p⟩ => hd D ys H p l k nD e)⟩
end
end Hw
/-! Houses, persons, stands as data. -/
namespace Hw
open PySem PySem.Spec PyProof.Rows L2
def words8 : List Str := ["first", "last", "short", "front", "lastoff", "shortoff", "frontoff", "turns"]
def keep4 : List Str := ["first", "last", "short", "front"]
structure House where
  hands : Nat
  places : Option Nat
  rule : Str
structure Person where
  rank : Nat
  left : Nat
  begun : Bool
deriving DecidableEq
def optD : Option Nat → PyData
  | none => .none
  | some n => .int n
def optV : Option Nat → V
  | none => .non
  | some n => .int n
def House.d (h : House) : PyData := .tuple [.int h.hands, optD h.places, .str h.rule]
def Person.d (p : Person) : PyData := .tuple [.int p.rank, .int p.left, .bool p.begun]
def standD (st : List Person) : PyData := .tuple (st.map Person.d)
def House.keeps (h : House) : Bool := decide (h.rule ∈ keep4)
structure HouseOk (h : House) : Prop where
  h1 : 1 ≤ h.hands
  h3 : h.hands ≤ 3
  pl : ∀ n, h.places = some n → n ≤ 6
  rl : h.rule ∈ words8
def begunIn (st : List Person) : Nat := (st.filter (·.begun)).length
structure PersonOk (p : Person) : Prop where
  rk : p.rank < 2
  l1 : 1 ≤ p.left
  l6 : p.left ≤ 6
structure StandOk (h : House) (most : Nat) (st : List Person) : Prop where
  len : st.length ≤ most
  pl : ∀ n, h.places = some n → st.length ≤ n
  all : ∀ p ∈ st, PersonOk p
  bg : begunIn st ≤ if h.keeps then h.hands else 0
section
variable {K : PySem.W.Frag} {H : Hp} {v : V}
theorem tdOpt (o : Option Nat) : TD K H (optV o) (optD o) := by
  cases o with
  | none => exact .non
  | some n => exact .int n
theorem TD.toOpt {o : Option Nat} (h : TD K H v (optD o)) : v = optV o := by
  cases o with
  | none => exact h.toNon
  | some n => exact h.toInt
theorem TDs.nil' {vs : List V} (h : TDs K H vs []) : vs = [] := by cases h; rfl
theorem TDs.cons' {vs : List V} {d : PyData} {ds : List PyData} (h : TDs K H vs (d :: ds)) : ∃ v r, vs = v :: r ∧ TD K H v d ∧ TDs K H r ds := by
  cases h with
  | cons a b => exact ⟨_, _, rfl, a, b⟩
theorem TD.three {a b c : PyData} (h : TD K H v (.tuple [a, b, c])) : ∃ t x y z, v = .ref t ∧ SqT K H t [x, y, z] ∧ TD K H x a ∧ TD K H y b ∧ TD K H z c := by
  obtain ⟨t, xs, rfl, ht, h⟩ := h.ref
  obtain ⟨x, r, rfl, h1, h⟩ := h.cons'
  obtain ⟨y, r, rfl, h2, h⟩ := h.cons'
  obtain ⟨z, r, rfl, h3, h⟩ := h.cons'
  obtain rfl := h.nil'
  exact ⟨t, x, y, z, rfl, ht, h1, h2, h3⟩
theorem TD.two {a b : PyData} (h : TD K H v (.tuple [a, b])) : ∃ t x y, v = .ref t ∧ SqT K H t [x, y] ∧ TD K H x a ∧ TD K H y b := by
  obtain ⟨t, xs, rfl, ht, h⟩ := h.ref
  obtain ⟨x, r, rfl, h1, h⟩ := h.cons'
  obtain ⟨y, r, rfl, h2, h⟩ := h.cons'
  obtain rfl := h.nil'
  exact ⟨t, x, y, rfl, ht, h1, h2⟩
theorem TD.house {h : House} (e : TD K H v h.d) : ∃ t, v = .ref t ∧ SqT K H t [.int h.hands, optV h.places, .str h.rule] := by
  obtain ⟨t, x, y, z, rfl, ht, h1, h2, h3⟩ := e.three
  rw [h1.toInt, h2.toOpt, h3.toStr] at ht
  exact ⟨t, rfl, ht⟩
theorem TD.mkHouse {h : House} {t : Addr} (e : SqT K H t [.int h.hands, optV h.places, .str h.rule]) : TD K H (.ref t) h.d :=
  .tup e (.cons (.int _) (.cons (tdOpt _) (.cons (.str _) .nil)))
theorem TD.person {p : Person} (e : TD K H v p.d) : ∃ t, v = .ref t ∧ SqT K H t [.int p.rank, .int p.left, .bl p.begun] := by
  obtain ⟨t, x, y, z, rfl, ht, h1, h2, h3⟩ := e.three
  rw [h1.toInt, h2.toInt, h3.toBl] at ht
  exact ⟨t, rfl, ht⟩
theorem TD.mkPerson {p : Person} {t : Addr} (e : SqT K H t [.int p.rank, .int p.left, .bl p.begun]) : TD K H (.ref t) p.d :=
  .tup e (.cons (.int _) (.cons (.int _) (.cons (.bl _) .nil)))
theorem TD.stand {st : List Person} (e : TD K H v (standD st)) : ∃ t xs, v = .ref t ∧ SqT K H t xs ∧ TDs K H xs (st.map Person.d) := e.ref
theorem TDs.person {st : List Person} {xs : List V} {i : Nat} {x : V} (e : TDs K H xs (st.map Person.d)) (h : xs[i]? = some x) : ∃ p, st[i]? = some p ∧ TD K H x p.d := by
  obtain ⟨d, h1, h2⟩ := e.get h
  rw [List.getElem?_map] at h1
  cases q : st[i]? with
  | none => rw [q] at h1; cases h1
  | some p => rw [q] at h1; cases h1; exact ⟨p, rfl, h2⟩
theorem TDs.lenMap {α : Type} {f : α → PyData} {st : List α} {xs : List V} (e : TDs K H xs (st.map f)) : xs.length = st.length := by rw [e.length, List.length_map]
theorem TDs.of {α : Type} {f : α → PyData} {st : List α} {xs : List V} {i : Nat} {x : V} (e : TDs K H xs (st.map f)) (h : xs[i]? = some x) : ∃ p, st[i]? = some p ∧ TD K H x (f p) := by
  obtain ⟨d, h1, h2⟩ := e.get h
  rw [List.getElem?_map] at h1
  cases q : st[i]? with
  | none => rw [q] at h1; cases h1
  | some p => rw [q] at h1; cases h1; exact ⟨p, rfl, h2⟩
end
theorem atI_of {xs : List V} {n : Int} (h0 : 0 ≤ n) (h1 : n < xs.length) : ∃ h : n.toNat < xs.length, atI xs n = some xs[n.toNat] := by
  have h : n.toNat < xs.length := by omega
  refine ⟨h, ?_⟩
  have e := atI_nat (xs := xs) (j := n.toNat) (v := xs[n.toNat]) (List.getElem?_eq_getElem h)
  rwa [Int.toNat_of_nonneg h0] at e
theorem atI_strs {ws : List Str} {n : Int} (h0 : 0 ≤ n) (h1 : n < ws.length) : ∃ w ∈ ws, atI (ws.map V.str) n = some (.str w) := by
  obtain ⟨h, e⟩ := atI_of (xs := ws.map V.str) h0 (by rw [List.length_map]; exact h1)
  rw [List.getElem_map] at e
  exact ⟨_, List.getElem_mem _, e⟩
theorem atI_ints {ws : List Int} {n : Int} (h0 : 0 ≤ n) (h1 : n < ws.length) : ∃ w ∈ ws, atI (ws.map V.int) n = some (.int w) := by
  obtain ⟨h, e⟩ := atI_of (xs := ws.map V.int) h0 (by rw [List.length_map]; exact h1)
  rw [List.getElem_map] at e
  exact ⟨_, List.getElem_mem _, e⟩
theorem filterSet : ∀ (bs : List Bool) (j : Nat), ((bs.set j true).filter id).length ≤ (bs.filter id).length + 1
  | [], j => by simp
  | x :: r, 0 => by
    cases x <;> simp
  | x :: r, j + 1 => by
    have ih := filterSet r j
    cases x <;> simp [List.filter_cons] <;> omega
theorem begunMap (st : List Person) : begunIn st = ((st.map (·.begun)).filter id).length := by
  unfold begunIn
  induction st with
  | nil => rfl
  | cons p r ih =>
    rw [List.map_cons, List.filter_cons, List.filter_cons]
    cases p.begun <;> simp [ih]
def workOf (st : List Person) : Nat := (st.map (·.left)).sum
theorem sumCast {α : Type} (f : α → Nat) (l : List α) : (l.map fun p => ((f p : Nat) : Int)).sum = ((l.map f).sum : Nat) := by
  induction l with
  | nil => rfl
  | cons x r ih => rw [List.map_cons, List.sum_cons, ih, List.map_cons, List.sum_cons, Int.natCast_add]
structure Comer where
  rank : Nat
  work : Nat
deriving DecidableEq
def Comer.d (c : Comer) : PyData := .tuple [.int c.rank, .int c.work]
def beatD (b : List Comer) : PyData := .tuple (b.map Comer.d)
def Comer.p (c : Comer) : Person := ⟨c.rank, c.work, false⟩
structure ComerOk (c : Comer) : Prop where
  rk : c.rank < 2
  w1 : 1 ≤ c.work
  w6 : c.work ≤ 6
/-- of i comers how many are let in, where n persons stand ahead -/
def cap (pl : Option Nat) (n i : Nat) : Nat := match pl with
  | none => i
  | some m => min i (m - n)
theorem cap_le (pl : Option Nat) (n i : Nat) : cap pl n i ≤ i := by
  cases pl with
  | none => exact Nat.le_refl _
  | some m => exact Nat.min_le_left _ _
/-- the stand behind a beat's comers, and how many are lost -/
def letIn (pl : Option Nat) (st : List Person) (bt : List Comer) : List Person × Nat :=
  (st ++ (bt.take (cap pl st.length bt.length)).map Comer.p, bt.length - cap pl st.length bt.length)
section
variable {K : PySem.W.Frag} {H : Hp} {v : V}
theorem TD.comer {p : Comer} (e : TD K H v p.d) : ∃ t, v = .ref t ∧ SqT K H t [.int p.rank, .int p.work] := by
  obtain ⟨t, x, y, rfl, ht, h1, h2⟩ := e.two
  rw [h1.toInt, h2.toInt] at ht
  exact ⟨t, rfl, ht⟩
theorem TD.mkComer {p : Comer} {t : Addr} (e : SqT K H t [.int p.rank, .int p.work]) : TD K H (.ref t) p.d := .tup e (.cons (.int _) (.cons (.int _) .nil))
end
end Hw
/-! The feeds that are lists. -/
namespace Hw
open PySem PySem.Spec PyProof.Rows L2
/-- cells, which one comes, what is left of a great one -/
structure F2 (H : Hp) (d c : Addr) (ns : List Int) (p l : Int) : Prop where
  lst : H d = some (.lst [.ref c, .int p, .int l])
  cells : H c = some (.lst (ns.map V.int))
  ne : c ≠ d
def Feed2 (H : Hp) (d c : Addr) (b : Nat) : Prop := ∃ (ns : List Int) (p l : Int), F2 H d c ns p l ∧ ns.length ≤ 63 ∧ 0 ≤ p ∧ 0 ≤ l ∧ p + b ≤ 1000000
section
variable {H H' : Hp} {d c : Addr} {b b' : Nat} {S : Addr → Prop} {ns : List Int} {p l z : Int}
theorem F2.kp (h : F2 H d c ns p l) (k : Kp Non H H') : F2 H' d c ns p l := ⟨k.same _ _ (fun z => z) h.lst, k.same _ _ (fun z => z) h.cells, h.ne⟩
theorem F2.set {xs : List V} (h : F2 H d c ns p l) (k : Kp (At d) H H') {p' l' : Int} (e : H' d = some (.lst xs)) (ex : xs = [.ref c, .int p', .int l']) : F2 H' d c ns p' l' := ⟨by rw [e, ex], k.same _ _ h.ne h.cells, h.ne⟩
theorem Feed2.kp (h : Feed2 H d c b) (k : Kp S H H') (n : ¬ S d) (n2 : ¬ S c) : Feed2 H' d c b := by
  obtain ⟨ns, p, l, h, r⟩ := h
  exact ⟨ns, p, l, ⟨k.same _ _ n h.lst, k.same _ _ n2 h.cells, h.ne⟩, r⟩
theorem Feed2.non (h : Feed2 H d c b) (k : Kp Non H H') : Feed2 H' d c b := h.kp k (fun z => z) (fun z => z)
theorem Feed2.less (h : Feed2 H d c b) (e : b' ≤ b) : Feed2 H d c b' := by
  obtain ⟨ns, p, l, h, r1, r2, r3, r4⟩ := h
  exact ⟨ns, p, l, h, r1, r2, r3, by omega⟩
theorem Feed2.live (h : Feed2 H d c b) : H d ≠ none ∧ H c ≠ none := by
  obtain ⟨ns, p, l, h, r⟩ := h
  exact ⟨by rw [h.lst]; simp, by rw [h.cells]; simp⟩
theorem Feed2.off (h : Feed2 H d c b) {D : Addr} (n : H D = none) : d ≠ D ∧ c ≠ D :=
  ⟨fun e => h.live.1 (e ▸ n), fun e => h.live.2 (e ▸ n)⟩
end
/-- cells, which one comes, what is left of a great one, how many draws there were -/
structure F3 (H : Hp) (d c : Addr) (ns : List Int) (p l t : Int) : Prop where
  lst : H d = some (.lst [.ref c, .int p, .int l, .int t])
  cells : H c = some (.lst (ns.map V.int))
  ne : c ≠ d
def Feed3 (H : Hp) (d c : Addr) (b : Nat) : Prop := ∃ (ns : List Int) (p l t : Int), F3 H d c ns p l t ∧ ns.length ≤ 63 ∧ 0 ≤ p ∧ 0 ≤ l ∧ 0 ≤ t ∧ t + b ≤ 1000000
section
variable {H H' : Hp} {d c : Addr} {b b' : Nat} {S : Addr → Prop} {ns : List Int} {p l t z : Int}
theorem F3.kp (h : F3 H d c ns p l t) (k : Kp Non H H') : F3 H' d c ns p l t := ⟨k.same _ _ (fun z => z) h.lst, k.same _ _ (fun z => z) h.cells, h.ne⟩
theorem F3.set {xs : List V} (h : F3 H d c ns p l t) (k : Kp (At d) H H') {p' l' t' : Int} (e : H' d = some (.lst xs)) (ex : xs = [.ref c, .int p', .int l', .int t']) : F3 H' d c ns p' l' t' := ⟨by rw [e, ex], k.same _ _ h.ne h.cells, h.ne⟩
theorem Feed3.kp (h : Feed3 H d c b) (k : Kp S H H') (n : ¬ S d) (n2 : ¬ S c) : Feed3 H' d c b := by
  obtain ⟨ns, p, l, t, h, r⟩ := h
  exact ⟨ns, p, l, t, ⟨k.same _ _ n h.lst, k.same _ _ n2 h.cells, h.ne⟩, r⟩
theorem Feed3.non (h : Feed3 H d c b) (k : Kp Non H H') : Feed3 H' d c b := h.kp k (fun z => z) (fun z => z)
theorem Feed3.less (h : Feed3 H d c b) (e : b' ≤ b) : Feed3 H d c b' := by
  obtain ⟨ns, p, l, t, h, r1, r2, r3, r4, r5⟩ := h
  exact ⟨ns, p, l, t, h, r1, r2, r3, r4, by omega⟩
theorem Feed3.live (h : Feed3 H d c b) : H d ≠ none ∧ H c ≠ none := by
  obtain ⟨ns, p, l, t, h, r⟩ := h
  exact ⟨by rw [h.lst]; simp, by rw [h.cells]; simp⟩
theorem Feed3.off (h : Feed3 H d c b) {D : Addr} (n : H D = none) : d ≠ D ∧ c ≠ D :=
  ⟨fun e => h.live.1 (e ▸ n), fun e => h.live.2 (e ▸ n)⟩
end
theorem cut63 {ns : List Int} (h : ns.length ≤ 63) : cutV (ns.map V.int) none (some 63) = ns.map V.int := by
  unfold cutV
  rw [HT.sIx_none, show HT.sIx (ns.map V.int).length (ns.map V.int).length (some 63) = min 63 (ns.map V.int).length from HT.sIx_nat _ _ 63, List.drop_zero, List.length_map,
    Nat.min_eq_right h, Nat.sub_zero, List.take_of_length_le (by rw [List.length_map]; exact Nat.le_refl _)]
theorem small2 {a m : Int} (h0 : 0 ≤ a) (h : a < 4294967296) : -(2 ^ 64) ≤ a ∧ a ≤ 2 ^ 64 := ⟨by omega, by omega⟩
end Hw
/-! sorted and < of data of tuples; who is picked. -/
namespace Hw
open PySem PySem.Spec PyProof.Rows L2
section
variable {K : PySem.W.Frag} {H : Hp}
theorem eachOf {β : Type} {enc : β → PyData} : ∀ {bs : List β} {xs : List V} {us : List Value}, Vals xs us → TDs K H xs (bs.map enc) →
    PySem.W.EachIs (fun u b => ∃ v, RelV v u ∧ TD K H v (enc b)) us bs
  | [], _, _, r, h => by
    have e := h.nil'
    subst e
    cases r
    exact .nil
  | b :: bs, _, _, r, h => by
    obtain ⟨v, q, rfl, h1, h2⟩ := h.cons'
    cases r with
    | cons r1 r2 => exact .cons ⟨v, r1, h1⟩ (eachOf r2 h2)
theorem eachBack {β : Type} {enc : β → PyData} : ∀ {us : List Value} {bs : List β}, PySem.W.EachIs (fun u b => ∃ v, RelV v u ∧ TD K H v (enc b)) us bs → ∃ ys, Vals ys us ∧ TDs K H ys (bs.map enc)
  | _, _, .nil => ⟨[], .nil, .nil⟩
  | _, _, .cons ⟨v, r, h⟩ t => by
    obtain ⟨ys, h1, h2⟩ := eachBack t
    exact ⟨v :: ys, .cons r h1, .cons h h2⟩
/-- sorted(xs) of data of tuples -/
def rSortD (K : PySem.W.Frag) : List V → Hp → VK → Prop := fun vs H Q =>
  ∃ (a : Addr) (xs : List V) (β : Type) (enc : β → PyData) (bs : List β), vs = [.ref a] ∧ SqL K H a xs ∧ TDs K H xs (bs.map enc) ∧ PySem.W.AllAlike (bs.map enc) ∧ PySem.W.Sortable (bs.map enc) ∧ (∀ b ∈ bs, (enc b).depth ≤ 60) ∧
    ∀ p H' ys, Kp Non H H' → H p = none → H' p = some (.lst ys) → TDs K H' ys ((bs.mergeSort (PySem.W.dataLe false enc)).map enc) → Q (.ref p) H'
theorem cr_sortD {X : Cx} (hu : X.A.units + 160 < cLine) : CallR X (.builtin "sorted") (rSortD X.K) := by
  intro pins s σ H vs us Q I r ⟨a, xs, β, enc, bs, e, hs, hd, hal, hk, hdp, q⟩
  subst e
  obtain ⟨its, rv, hl, hz⟩ := I.list hs
  obtain ⟨u, rfl, ru⟩ := vals1 r
  obtain rfl : u = Value.ref a := ru
  have ea := eachOf rv hd
  have len : xs.length = bs.length := by rw [hd.length, List.length_map]
  refine PySem.W.sorted_data hl.isList ea (ea.mono fun u b ⟨v, r, h⟩ => Dp.reads I _ _ _ h.dp r) hal hk (by rw [← len]; exact hz) (fun b hb => by have := hdp b hb; omega) fun out ho eo => ?_
  obtain ⟨ys, h1, h2⟩ := eachBack eo
  have hn : H (s.heap.objs.size + 1) = none := I.hok.fresh (Nat.le_succ _)
  refine ⟨.ref (s.heap.objs.size + 1), upd H (s.heap.objs.size + 1) (.lst ys), I.laid (t' := s.toks) (fun b o e => sortedAll_old e) (Nat.le_succ _) ⟨?_, out, ?_⟩, rfl, q _ _ ys (Kp.new hn) hn upd_same (h2.kp (Kp.new (S := Non) hn))⟩
  · rw [h1.length, ho, ← len]; exact hz
  · obtain ⟨n, hn2⟩ := sortedAll_at s.heap its out.toArray
    exact ⟨n, h1, hn2⟩
theorem sSortD {β : Type} (enc : β → PyData) (bs : List β) {a : Addr} {xs : List V} {Q : VK} (hs : SqL K H a xs) (hd : TDs K H xs (bs.map enc)) (hal : PySem.W.AllAlike (bs.map enc)) (hk : PySem.W.Sortable (bs.map enc)) (hdp : ∀ b ∈ bs, (enc b).depth ≤ 60)
    (q : ∀ p H' ys, Kp Non H H' → H p = none → H' p = some (.lst ys) → TDs K H' ys ((bs.mergeSort (PySem.W.dataLe false enc)).map enc) → Q (.ref p) H') : rSortD K [.ref a] H Q :=
  ⟨a, xs, β, enc, bs, rfl, hs, hd, hal, hk, hdp, q⟩
/-- sorted(xs) of whole numbers -/
theorem sSortN (ns : List Nat) {a : Addr} {xs : List V} {Q : VK} (hs : SqL K H a xs) (hd : TDs K H xs (ns.map fun n : Nat => PyData.int n))
    (q : ∀ p H' ys, Kp Non H H' → H p = none → H' p = some (.lst ys) → TDs K H' ys ((ns.mergeSort fun a b => decide (a ≤ b)).map fun n : Nat => PyData.int n) → Q (.ref p) H') : rSortD K [.ref a] H Q :=
  sSortD (fun n : Nat => PyData.int n) ns hs hd (PySem.W.AllAlike.of fun b b' => by simp [PySem.W.alike]) (PySem.W.Sortable.others fun b => ⟨(fun h => nomatch h), (fun xs h => nomatch h)⟩) (fun b _ => Nat.zero_le _) fun p H' ys k n e h => by
    have q := q p H' ys k n e
    refine q ?_
    rw [PySem.W.dataLe_int (fun n : Nat => (n : Int))] at h
    simpa using h
end
/-! ### the order of a rule -/
def key2 (rule : Str) (p : Person) (i : Nat) : Int × Int :=
  if rule = "front" ∨ rule = "frontoff" then (p.rank, i) else if rule = "short" ∨ rule = "shortoff" then (p.left, i) else if rule = "last" ∨ rule = "lastoff" then (0 - i, 0) else (i, 0)
/-- whether i goes ahead of j -/
def aheadOf (rule : Str) (st : List Person) (i j : Nat) : Bool := match st[i]?, st[j]? with
  | some p, some q => if p.begun ≠ q.begun then p.begun else decide ((key2 rule p i).1 < (key2 rule q j).1 ∨ ((key2 rule p i).1 = (key2 rule q j).1 ∧ (key2 rule p i).2 < (key2 rule q j).2))
  | _, _ => false
/-- who is picked: those ahead of whom there are fewer than hands -/
def picks (hands : Nat) (rule : Str) (st : List Person) : List Nat :=
  (List.range st.length).filter fun i => decide (((List.range st.length).filter fun j => aheadOf rule st j i).length < hands)
def keyD (rule : Str) (p : Person) (i : Nat) : PyData := .tuple [.tuple [.int (if p.begun then 0 else 1), .int (key2 rule p i).1, .int (key2 rule p i).2], .int i]
theorem takeRank {α : Type} [DecidableEq α] (lt : α → α → Bool) (irr : ∀ a, lt a a = false) (asy : ∀ a b, lt a b = true → lt b a = false) : ∀ (M : List α), M.Pairwise (fun a b => lt a b = true) → ∀ (p : α), p ∈ M → ∀ k,
    (p ∈ M.take k ↔ (M.filter fun q => lt q p).length < k)
  | [], _, p, hp, _ => by cases hp
  | x :: r, h, p, hp, k => by
    obtain ⟨h1, h2⟩ := List.pairwise_cons.mp h
    cases k with
    | zero => simp
    | succ k =>
      rw [List.take_succ_cons, List.mem_cons]
      rcases List.mem_cons.mp hp with rfl | hp
      · have e : (p :: r).filter (fun q => lt q p) = [] := by
          rw [List.filter_eq_nil_iff]
          intro q hq
          rcases List.mem_cons.mp hq with rfl | hq
          · rw [irr]; decide
          · rw [asy _ _ (h1 q hq)]; decide
        rw [e]
        simp
      · have hx := h1 p hp
        have ne : p ≠ x := fun z => by rw [z, irr] at hx; cases hx
        rw [List.filter_cons_of_pos (by exact hx), List.length_cons]
        have := takeRank lt irr asy r h2 p hp k
        constructor
        · rintro (z | z)
          · exact absurd z ne
          · have := this.mp z; omega
        · intro z
          exact .inr (this.mpr (by omega))
abbrev LexP (b b' x x' y y' : Int) (i j : Nat) : Prop := b < b' ∨ (b = b' ∧ (x < x' ∨ (x = x' ∧ (y < y' ∨ (y = y' ∧ i < j)))))
theorem beqD (x y : Int) : (x == y) = decide (x = y) := by
  rw [Bool.eq_iff_iff]
  simp
theorem eqv_ints (x y : Int) : PyData.eqv (.int x) (.int y) = decide (x = y) := by
  simp [PyData.eqv, beqD]
theorem dataLt_key (b b' x x' y y' : Int) (i j : Nat) :
    PySem.W.dataLt (.tuple [.tuple [.int b, .int x, .int y], .int i]) (.tuple [.tuple [.int b', .int x', .int y'], .int j]) = decide (LexP b b' x x' y y' i j) := by
  have al : ∀ u v : Int, PySem.W.alike (.int u) (.int v) = true := fun u v => by simp [PySem.W.alike]
  rw [PySem.W.dataLt_pair (by simp [PySem.W.alike, PySem.W.alikeAll]) (al _ _), PySem.W.dataLt_tuple, PySem.W.dataLt_cons (al _ _), PySem.W.dataLt_cons (al _ _), PySem.W.dataLt_cons (al _ _),
    PySem.W.dataLt_int, PySem.W.dataLt_int, PySem.W.dataLt_int, PySem.W.dataLt_int, eqv_ints, eqv_ints, eqv_ints, eqv_ints]
  have e : PyData.eqv (.tuple [.int b, .int x, .int y]) (.tuple [.int b', .int x', .int y']) = decide (b = b' ∧ x = x' ∧ y = y') := by
    simp [PyData.eqv, PyData.eqvAll, beqD]
  have e0 : PyProof.Rows.lexLt itemOrd (PySem.W.keyToksAll []) (PySem.W.keyToksAll []) = false := lex_irrefl _
  rw [e, e0]
  unfold LexP
  by_cases h1 : b = b'
  · by_cases h2 : x = x'
    · by_cases h3 : y = y'
      · subst h1 h2 h3
        by_cases h4 : i = j
        · subst h4; simp
        · have h5 : ¬ ((i : Int) = j) := by omega
          simp [h5]
      · subst h1 h2
        simp [h3]
    · subst h1
      simp [h2]
  · simp [h1]
def bn (p : Person) : Int := if p.begun then 0 else 1
theorem ltKey (rule : Str) (p q : Person) (i j : Nat) : PySem.W.dataLt (keyD rule p i) (keyD rule q j) = decide (LexP (bn p) (bn q) (key2 rule p i).1 (key2 rule q j).1 (key2 rule p i).2 (key2 rule q j).2 i j) := dataLt_key _ _ _ _ _ _ _ _
abbrev p0 : Person := ⟨0, 0, false⟩
def ltN (rule : Str) (st : List Person) (i j : Nat) : Bool := PySem.W.dataLt (keyD rule (st.getD i p0) i) (keyD rule (st.getD j p0) j)
theorem ltN_irr (rule : Str) (st : List Person) (i : Nat) : ltN rule st i i = false := by
  unfold ltN
  rw [ltKey]
  refine decide_eq_false fun h => ?_
  unfold LexP at h
  omega
theorem ltN_asy (rule : Str) (st : List Person) (i j : Nat) (h : ltN rule st i j = true) : ltN rule st j i = false := by
  unfold ltN at h ⊢
  rw [ltKey, decide_eq_true_eq] at h
  rw [ltKey]
  refine decide_eq_false fun z => ?_
  unfold LexP at h z
  omega
theorem ltN_tot (rule : Str) (st : List Person) (i j : Nat) (n : i ≠ j) (h : ltN rule st j i = false) : ltN rule st i j = true := by
  unfold ltN at h ⊢
  rw [ltKey, decide_eq_false_iff_not] at h
  rw [ltKey, decide_eq_true_eq]
  unfold LexP at h ⊢
  omega
theorem key2_inj (rule : Str) (p q : Person) (i j : Nat) (h1 : (key2 rule p i).1 = (key2 rule q j).1) (h2 : (key2 rule p i).2 = (key2 rule q j).2) : i = j := by
  unfold key2 at h1 h2
  split at h1
  · rename_i c
    rw [if_pos c, if_pos c] at h2
    exact Int.ofNat.inj h2
  · rename_i c
    rw [if_neg c, if_neg c] at h2
    split at h1
    · rename_i c2
      rw [if_pos c2, if_pos c2] at h2
      exact Int.ofNat.inj h2
    · split at h1
      · have h1 : (0 : Int) - i = 0 - j := h1
        omega
      · exact Int.ofNat.inj h1
theorem ahead_ltN (rule : Str) (st : List Person) (i j : Nat) (hi : i < st.length) (hj : j < st.length) : aheadOf rule st i j = ltN rule st i j := by
  unfold aheadOf ltN
  rw [ltKey, List.getElem?_eq_getElem hi, List.getElem?_eq_getElem hj, List.getD_eq_getElem?_getD, List.getD_eq_getElem?_getD, List.getElem?_eq_getElem hi, List.getElem?_eq_getElem hj]
  dsimp only [Option.getD_some]
  generalize st[i] = p
  generalize st[j] = q
  have inj := key2_inj rule p q i j
  unfold LexP bn
  rcases Bool.eq_false_or_eq_true p.begun with h1 | h1 <;> rcases Bool.eq_false_or_eq_true q.begun with h2 | h2 <;> simp only [h1, h2, ne_eq, not_true_eq_false, if_false, if_true, Bool.false_eq_true, not_false_eq_true, Bool.true_eq_false]
  · refine decide_eq_decide.mpr ⟨fun z => .inr ⟨trivial, by omega⟩, fun z => ?_⟩
    by_cases e1 : (key2 rule p i).1 = (key2 rule q j).1
    · by_cases e2 : (key2 rule p i).2 = (key2 rule q j).2
      · have := inj e1 e2
        omega
      · omega
    · omega
  · simp
  · simp
  · refine decide_eq_decide.mpr ⟨fun z => .inr ⟨trivial, by omega⟩, fun z => ?_⟩
    by_cases e1 : (key2 rule p i).1 = (key2 rule q j).1
    · by_cases e2 : (key2 rule p i).2 = (key2 rule q j).2
      · have := inj e1 e2
        omega
      · omega
    · omega
theorem filterCongr {α : Type} {f g : α → Bool} : ∀ {l : List α}, (∀ x ∈ l, f x = g x) → l.filter f = l.filter g
  | [], _ => rfl
  | x :: r, h => by
    rw [List.filter_cons, List.filter_cons, h x List.mem_cons_self, filterCongr fun y hy => h y (List.mem_cons_of_mem _ hy)]
/-- the first ones in line, in the order of places, are those who are picked -/
theorem picks_sorted (hands : Nat) (rule : Str) (st : List Person) :
    (((List.range st.length).mergeSort (PySem.W.dataLe false fun i => keyD rule (st.getD i p0) i)).take hands).mergeSort (fun a b => decide (a ≤ b)) = picks hands rule st := by
  have le_eq : ∀ a b, PySem.W.dataLe false (fun i => keyD rule (st.getD i p0) i) a b = !ltN rule st b a := fun a b => rfl
  generalize hM : (List.range st.length).mergeSort (PySem.W.dataLe false fun i => keyD rule (st.getD i p0) i) = M
  have perm : M.Perm (List.range st.length) := by rw [← hM]; exact List.mergeSort_perm _ _
  have nd : M.Nodup := perm.nodup_iff.mpr List.nodup_range
  have pw : M.Pairwise fun a b => ltN rule st a b = true := by
    have h1 : M.Pairwise fun a b => PySem.W.dataLe false (fun i => keyD rule (st.getD i p0) i) a b = true := by
      rw [← hM]
      refine List.pairwise_mergeSort (fun a b c h1 h2 => ?_) (fun a b => ?_) _
      · rw [le_eq] at h1 h2 ⊢
        rw [Bool.not_eq_true'] at h1 h2 ⊢
        unfold ltN at h1 h2 ⊢
        rw [ltKey, decide_eq_false_iff_not] at h1 h2 ⊢
        unfold LexP at h1 h2 ⊢
        omega
      · rw [le_eq, le_eq]
        cases h : ltN rule st b a with
        | false => rfl
        | true => rw [ltN_asy _ _ _ _ h]; rfl
    refine (List.Pairwise.and h1 nd).imp fun {a b} h => ?_
    obtain ⟨h1, h2⟩ := h
    rw [le_eq, Bool.not_eq_true'] at h1
    exact ltN_tot _ _ _ _ h2 h1
  have mem : ∀ p, p ∈ M.take hands ↔ p ∈ picks hands rule st := by
    intro p
    unfold picks
    rw [List.mem_filter, decide_eq_true_eq]
    have cnt : p < st.length → ((List.range st.length).filter fun j => aheadOf rule st j p).length = (M.filter fun q => ltN rule st q p).length := by
      intro hp
      rw [filterCongr (g := fun q => ltN rule st q p) fun x hx => ahead_ltN rule st x p (List.mem_range.mp hx) hp]
      exact ((perm.filter _).length_eq).symm
    constructor
    · intro h
      have hm : p ∈ M := List.mem_of_mem_take h
      have hr := perm.mem_iff.mp hm
      refine ⟨hr, ?_⟩
      rw [cnt (List.mem_range.mp hr)]
      exact (takeRank (ltN rule st) (ltN_irr _ _) (fun a b => ltN_asy _ _ a b) M pw p hm hands).mp h
    · rintro ⟨hr, h⟩
      rw [cnt (List.mem_range.mp hr)] at h
      exact (takeRank (ltN rule st) (ltN_irr _ _) (fun a b => ltN_asy _ _ a b) M pw p (perm.mem_iff.mpr hr) hands).mpr h
  have pr : (M.take hands).Perm (picks hands rule st) :=
    (List.perm_ext_iff_of_nodup (nd.sublist (List.take_sublist _ _)) (List.nodup_range.sublist List.filter_sublist)).mpr mem
  refine List.Perm.eq_of_pairwise (le := (· ≤ ·)) (fun a b _ _ h1 h2 => Nat.le_antisymm h1 h2) ?_ ?_ ((List.mergeSort_perm _ _).trans pr)
  · have := List.pairwise_mergeSort (le := fun a b : Nat => decide (a ≤ b)) (fun a b c h1 h2 => by simp at *; omega) (fun a b => by simp; omega) (M.take hands)
    exact this.imp fun {a b} h => by simpa using h
  · exact (List.pairwise_lt_range (n := st.length)).filter _ |>.imp fun {a b} h => Nat.le_of_lt h
theorem picks_length (hands : Nat) (rule : Str) (st : List Person) : (picks hands rule st).length = min hands st.length := by
  rw [← picks_sorted, List.length_mergeSort, List.length_take, List.length_mergeSort, List.length_range]
theorem picks_lt {hands : Nat} {rule : Str} {st : List Person} {i : Nat} (h : i ∈ picks hands rule st) : i < st.length := List.mem_range.mp (List.mem_filter.mp h).1
end Hw
/-! enumerate of a tuple, and walks over enumerate. -/
namespace Hw
open PySem PySem.Spec PyProof.Rows L2
theorem enumNewT (t : Addr) (its : Array Value) :
    Meets (Builtin.«enumerate.__new__» ⟨[.type "enumerate", .ref t], []⟩) (fun _ R s => s.heap.IsTuple t its ∧
      R (.ok (.ret (.ref (s.heap.objs.size + 1))))
        { s with heap := (s.heap.push { cls := .type "tuple_iterator", data := .fields #[.ref t, .int 0 0] }).push { cls := .type "enumerate", data := .fields #[.none, .bool false, .ref s.heap.objs.size, rawInt 0, .none, .none] } }) :=
  .of_wp fun pg wd Ar Re sh hyp => by
    rcases sh with ⟨hh, ge, di, tk, st⟩
    rcases hyp with ⟨isT, fin⟩
    have sub := sub_enumerate
    have sz : (hh.push { cls := .type "tuple_iterator", data := .fields #[.ref t, .int 0 0] }).objs.size = hh.objs.size + 1 := Heap.size_push ..
    rw [← sz] at fin
    have it1 : ∀ {B : Around} {E : Value → Shared → Prop} {Q : Value → Shared → Prop}, Q (.ref hh.objs.size) ⟨hh.push { cls := .type "tuple_iterator", data := .fields #[.ref t, .int 0 0] }, ge, di, tk, st⟩ →
        wpAny (model pg wd) B (pyIter (.ref t)) Q E ⟨hh, ge, di, tk, st⟩ := fun z => wpAny_pyIter_tuple (s := ⟨hh, ge, di, tk, st⟩) isT z
    wp_walk using it1
    refine wpAny_stack_any fun kk => wpAny_pure ?_
    split
    · rename_i cc _ _ _ _ _
      cases (cc == Value.type "enumerate")
      all_goals
        wp_walk using it1
        exact ⟨_, rfl, fin⟩
    · wp_walk using it1
      exact ⟨_, rfl, fin⟩
section
variable {prog : Program} {w : World} {A : Around} {E : Value → Shared → Prop} {s : Shared}
theorem callEnumT {t : Addr} {its : Array Value} {Q : Value → Shared → Prop} (isT : s.heap.IsTuple t its)
    (fin : ∀ h', IsEnum h' (s.heap.objs.size + 1) s.heap.objs.size 0 .none → h'.IsTupleIter s.heap.objs.size t 0 → (∀ b o, s.heap.get? b = some o → h'.get? b = some o) → Q (.ref (s.heap.objs.size + 1)) { s with heap := h' }) :
    wpAny (model prog w) A (call (.type "enumerate") [.ref t]) Q E s := by
  have sz : (s.heap.push { cls := .type "tuple_iterator", data := .fields #[.ref t, .int 0 0] }).objs.size = s.heap.objs.size + 1 := Heap.size_push ..
  have g1 := Heap.get?_push_size (s.heap.push { cls := .type "tuple_iterator", data := .fields #[.ref t, .int 0 0] }) (o := { cls := .type "enumerate", data := .fields #[.none, .bool false, .ref s.heap.objs.size, rawInt 0, .none, .none] }) rfl
  rw [sz] at g1
  refine callType_new F.called_enumerate (by decide) (F.typeCall_enumerate_1 _) (F.newCall_enumerate_1 _) (fun ob => F.args_object_init_2 ob _) F.entry_enumerate_new (enumNewT t its) ⟨isT, ⟨_, g1, rfl⟩, fin _ g1 ?_ ?_⟩
  · exact ⟨_, Heap.get?_push_of_some _ (Heap.get?_push_size _ rfl), rfl, rfl⟩
  · exact fun b o z => Heap.get?_push_of_some _ (Heap.get?_push_of_some _ z)
end
/-- the tuple at a, each item in a new pair with its number -/
def IteT (K : PySem.W.Frag) (a : Addr) : It :=
  ⟨fun i H => ∃ (xs : List V) (x : V), SqT K H a xs ∧ xs[i]? = some x,
   fun i H v H' => ∃ T x, v = .ref T ∧ H T = none ∧ H' = upd H T (.tup [.int (i : Nat), x]) ∧ ∀ xs, SqT K H a xs → xs[i]? = some x,
   fun i H => ∃ xs : List V, SqT K H a xs ∧ xs.length ≤ i⟩
theorem apartT {h : Heap} {a it : Addr} {its : Array Value} {k : Nat} (p : IsTup h a its) (q : h.IsTupleIter it a k) : a ≠ it := by
  rintro rfl
  obtain ⟨o, g, c, _⟩ := p
  obtain ⟨o', g', c', _⟩ := q
  rw [g] at g'
  cases g'
  rw [c] at c'
  exact absurd (Value.type.inj c') (by decide)
theorem apartE {h : Heap} {a e it : Addr} {its : Array Value} {k : Int} {old : Value} (p : IsTup h a its) (q : IsEnum h e it k old) : e ≠ a := by
  rintro rfl
  obtain ⟨o, g, c, _⟩ := p
  rw [q] at g
  cases g
  exact absurd (Value.type.inj c) (by decide)
theorem drawsEnd {prog : Program} {w : World} {A : Around} (hh : A.handled = none) (it a : Addr) (k : Nat) {its : Array Value} (hx : its[k]? = none) :
    Draws prog w A it [it, a] k (fun _ _ => True) (fun i h => i = k ∧ h.IsTupleIter it a k ∧ h.IsTuple a its) where
  live := by
    rintro _ _ ⟨_, ⟨o, g, _⟩, _⟩
    exact ⟨o, g⟩
  frame := by
    rintro i h h' ⟨e, g, p⟩ hk
    exact ⟨e, g.at fun o z => hk it (by simp) o z, p.at fun o z => hk a (by simp) o z⟩
  item := by
    rintro i s Q E hi ⟨e, _⟩
    exact absurd e (Nat.ne_of_lt hi)
  done := by
    rintro s Q E ⟨_, g, p⟩ hE
    exact wpAny_nextOf_tuple_end hh g p hx hE
theorem turnEnumT {P : Program} {w : World} {K : PySem.W.Frag} {elts : List Expr} {kk : Nat} {tpos : Pos} (a e it : Addr) :
    Turn P w K (.Tuple elts kk tpos) (IteT K a) [e, it] e (fun i h => (∃ old, IsEnum h e it ((i : Nat) : Int) old) ∧ h.IsTupleIter it a i ∧ e ≠ it) where
  mem := by simp
  obj := by
    rintro i h ⟨⟨old, he⟩, ⟨o, ho, _, dt⟩, _⟩ b hb
    rcases (show b = e ∨ b = it by simpa using hb) with rfl | rfl
    · exact ⟨_, he, fun v q => nomatch q⟩
    · exact ⟨o, ho, fun v q => by rw [dt] at q; cases q⟩
  keep := by
    rintro i h h' ⟨⟨old, he⟩, hi, ne⟩ k
    exact ⟨⟨old, k e (by simp) _ he⟩, hi.at fun o q => k it (by simp) o q, ne⟩
  item := by
    intro Y y1 y2 y3 calm i pn sh slots G EE fr Ex stt gg
    subst y1 y2 y3
    obtain ⟨⟨old, he⟩, hit, ne⟩ := stt
    obtain ⟨xs, x, hq, hx⟩ := gg
    obtain ⟨its, rv, p, hz⟩ := fr.tuple hq
    obtain ⟨u, hu, ru⟩ := rv.get hx
    have n1 := apartT p hit
    have n2 := apartE p he
    have le : e < sh.heap.objs.size := Heap.lt_size he
    have li : it < sh.heap.objs.size := by
      obtain ⟨_, q, _⟩ := hit
      exact Heap.lt_size q
    have hi : i < its.toArray.size := by
      have := (List.getElem?_eq_some_iff.mp hu).1
      simpa using this
    have off : ∀ b : Addr, b ∉ [e, it] → b ≠ e ∧ b ≠ it := fun b hb => ⟨fun z => hb (by simp [z]), fun z => hb (by simp [z])⟩
    refine wpAny_pyNext_enum_itemD (Draws.tuple (A := Y.A.in1) (show Y.A.in1.handled = none from fr.ok.hd calm) it a n1 its.toArray) he ⟨hit, p⟩ hi ne (by simp [ne, n2]) fun u' h1 tk e1 ho st1 hT hs hk => ?_
    have eu : u' = u := by
      have e1 : its.toArray[i]? = some u' := e1
      have e2 : its.toArray[i]? = some u := by simpa using hu
      exact Option.some.inj (e1.symm.trans e2)
    subst eu
    refine ⟨_, rfl, wpAny_letOwnedTupleGo_enum (s := { sh with heap := h1, toks := tk + 1 }) ho fun h2 he2 sb => ?_⟩
    have hT2 : h2.get? sh.heap.objs.size = some { cls := .type "tuple", data := .seq #[.int i tk, u'] } := (sb.2 _ (Nat.ne_of_gt le)).trans hT
    have nw : ObjOk Y.prog Y.w (upd G sh.heap.objs.size (.tup [.int (i : Nat), x])) h2 sh.heap.objs.size (.tup [.int (i : Nat), x]) := by
      refine ⟨?_, [.int i tk, u'], .cons ⟨_, rfl⟩ (.cons ru .nil), _, hT2, rfl, _, rfl⟩
      show 2 ≤ sizeLine
      decide
    have J : Inv Y pn slots (upd G sh.heap.objs.size (.tup [.int (i : Nat), x])) { sh with heap := h2, toks := tk + 1 } := by
      refine fr.turnedNew (ch := [e, it]) (fun b o hb q => ?_) Ex (Nat.le_refl _) nw
      exact (sb.2 b (off b hb).1).trans (hk b o (off b hb).1 (off b hb).2 q)
    refine ⟨.ref sh.heap.objs.size, _, J, rfl, ⟨_, x, rfl, fr.hok.fresh (Nat.le_refl _), rfl, fun ys hy => by rw [fr.tuple_inj hy hq]; exact hx⟩, ⟨⟨u', ?_⟩, st1.1.at fun o q => (sb.2 it (Ne.symm ne)).trans q, ne⟩, fun b hb => ?_⟩
    · rw [show ((i + 1 : Nat) : Int) = (i : Int) + 1 by omega]
      exact he2
    · have hlt : b < sh.heap.objs.size := by
        rcases (show b = e ∨ b = it by simpa using hb) with rfl | rfl
        · exact le
        · exact li
      rw [upd_ne (Nat.ne_of_lt hlt)]
      exact (Ex b hb).1
  done := by
    intro Y y1 y2 y3 calm i pn sh slots G EE fr Ex stt gg
    subst y1 y2 y3
    obtain ⟨⟨old, he⟩, hit, ne⟩ := stt
    obtain ⟨xs, hq, hx⟩ := gg
    obtain ⟨its, rv, p, hz⟩ := fr.tuple hq
    have n1 := apartT p hit
    have hl := rv.length
    obtain ⟨f0, f1, f2, f3, f4, f5⟩ := Ex it (by simp)
    have hk : its.toArray[i]? = none := by
      rw [List.getElem?_toArray]
      exact List.getElem?_eq_none (by omega)
    refine wpAny_pyNext_enum_endD (drawsEnd (A := Y.A.in1) (show Y.A.in1.handled = none from fr.ok.hd calm) it a i hk) he ⟨rfl, hit, p⟩ fun h2 ext => ⟨rfl, fr.turned (t' := sh.toks) (fun b o hb q => ext b o hb q) f0 f1 f3 f4 f5⟩
  self := by
    rintro B i sh Q Ex ⟨⟨_, he⟩, _⟩ q
    exact wpAny_pyIter_enum he q
def iEnumT (K : PySem.W.Frag) (ta : TA) : TI := fun σ H R => ta σ H fun vs H1 => ∃ a xs, vs = [.ref a] ∧ SqT K H1 a xs ∧ R (IteT K a) H1
theorem pi_enumT {X : Cx} {e : Expr} {ta : TA} {p pos tpos : Pos} {elts : List Expr} {kk : Nat} (hg : Gl X "enumerate") (hm : X.mg "enumerate" = none) (ha : PA X [e] ta) (st : starEach [e] X.env = [(false, eval e X.env)] := by rfl) :
    PI X (.Tuple elts kk tpos) (.Call (.Name "enumerate" p) [e] [] pos) (iEnumT X.K ta) := by
  refine ⟨fun pn sh slots G R fr h => ?_⟩
  refine Call_ (ld_blt fr hg hm boot_enumerate (PyProof.Rows.callWith_type1 (thn (ha.run pos pn sh slots G _ fr h) fun us s1 ⟨vs, H1, I1, r1, q1⟩ => ?_) st rfl))
  obtain ⟨a, xs, rfl, hq, q⟩ := q1
  obtain ⟨u, rfl, ru⟩ := vals1 r1
  obtain rfl : u = Value.ref a := ru
  obtain ⟨its, rv, p', hz⟩ := I1.tuple hq
  refine callEnumT p' fun h2 he2 hit hk => wpAny_pyIter_enum he2 ?_
  have I2 : Inv X pn slots H1 { s1 with heap := h2 } := I1.kept (t' := s1.toks) hk
  refine ⟨s1.heap.objs.size + 1, [s1.heap.objs.size + 1, s1.heap.objs.size], _, _, H1, rfl, I2, turnEnumT a (s1.heap.objs.size + 1) s1.heap.objs.size, ⟨⟨.none, he2⟩, hit, Nat.succ_ne_self _⟩, fun b hb => ?_, q⟩
  have hle : s1.heap.objs.size ≤ b := by
    rcases (show b = s1.heap.objs.size + 1 ∨ b = s1.heap.objs.size by simpa using hb) with rfl | rfl
    · exact Nat.le_add_right _ _
    · exact Nat.le_refl _
  exact I1.fpOk hle (I1.hok.fresh hle)
theorem walkEnumT {K : PySem.W.Frag} {a : Addr} {xs : List V} : Walk (IteT K a) xs.length (fun H => SqT K H a xs) (YPair (fun i => some (.int (i : Nat))) (fun i => xs[i]?)) := by
  refine ⟨fun i _ hi q => ⟨xs, xs[i], q, by simp [hi]⟩, fun _ q => ⟨xs, q, Nat.le_refl _⟩, ?_⟩
  rintro i H v H' _ q ⟨T, x, h1, h2, h3, h4⟩
  exact ⟨T, .int (i : Nat), x, h1, h2, h3, rfl, h4 xs q⟩
/-- a for over enumerate of a tuple, of a list -/
def ForET (K : PySem.W.Frag) (g : TG) (tb : TS) (D : Ends) (σ : L2.St) (vs : List V) (H1 : Hp) : Prop := tFor (iEnumT K (fun _ H Q => Q vs H)) g tb D σ H1
def ForEL (K : PySem.W.Frag) (g : TG) (tb : TS) (D : Ends) (σ : L2.St) (vs : List V) (H1 : Hp) : Prop := tFor (iEnum K (fun _ H Q => Q vs H)) g tb D σ H1
section
variable {K : PySem.W.Frag} {a : Addr} {xs : List V} {g : TG} {tb : TS} {D : Ends} {σ : L2.St} {H : Hp}
theorem sForET {ta : TA} (h : ta σ H fun vs H1 => ForET K g tb D σ vs H1) : tFor (iEnumT K ta) g tb D σ H := h
theorem sForEL {ta : TA} (h : ta σ H fun vs H1 => ForEL K g tb D σ vs H1) : tFor (iEnum K ta) g tb D σ H := h
theorem forEnumT (P : Nat → L2.St → Hp → Prop) (src : ∀ i σ H, P i σ H → SqT K H a xs) (h0 : P 0 σ H)
    (hs : ∀ i x T σ H H', xs[i]? = some x → P i σ H → Kp Non H H' → H' T = some (.tup [.int (i : Nat), x]) → g (.ref T) σ H' fun σ2 H2 => tb { D with nx := P (i + 1), ct := P (i + 1), bk := D.nx } σ2 H2) (hd : ∀ σ H, P xs.length σ H → D.nx σ H) :
    ForET K g tb D σ [.ref a] H :=
  ⟨a, xs, rfl, src 0 σ H h0, for_it walkEnumT P h0 (fun i σ H _ p => src i σ H p) (by
    rintro i v σ H H' hi p ⟨T, y1, y2, rfl, nT, rfl, e1, e2⟩
    cases e1
    exact hs i y2 T σ H _ e2 p (Kp.new nT) upd_same) hd⟩
theorem forEnumL (P : Nat → L2.St → Hp → Prop) (src : ∀ i σ H, P i σ H → SqL K H a xs) (h0 : P 0 σ H)
    (hs : ∀ i x T σ H H', xs[i]? = some x → P i σ H → Kp Non H H' → H' T = some (.tup [.int (i : Nat), x]) → g (.ref T) σ H' fun σ2 H2 => tb { D with nx := P (i + 1), ct := P (i + 1), bk := D.nx } σ2 H2) (hd : ∀ σ H, P xs.length σ H → D.nx σ H) :
    ForEL K g tb D σ [.ref a] H :=
  ⟨a, xs, rfl, src 0 σ H h0, for_it walk_enum P h0 (fun i σ H _ p => src i σ H p) (by
    rintro i v σ H H' hi p ⟨T, y1, y2, rfl, nT, rfl, e1, e2⟩
    cases e1
    exact hs i y2 T σ H _ e2 p (Kp.new nT) upd_same) hd⟩
end
/-- a comprehension over enumerate -/
def LcEL (K : PySem.W.Frag) (g : TG) (tt : TT) (te : TE) (vs : List Nat) (σ : L2.St) (Q : VK) (ws : List V) (H1 : Hp) : Prop := tLc (iEnum K (fun _ H Q => Q ws H)) g tt te vs σ H1 Q
def LcET (K : PySem.W.Frag) (g : TG) (tt : TT) (te : TE) (vs : List Nat) (σ : L2.St) (Q : VK) (ws : List V) (H1 : Hp) : Prop := tLc (iEnumT K (fun _ H Q => Q ws H)) g tt te vs σ H1 Q
section
variable {K : PySem.W.Frag} {a : Addr} {xs : List V} {g : TG} {tt : TT} {te : TE} {vs : List Nat} {σ : L2.St} {H1 : Hp} {Q : VK} {S : Addr → Prop} {P : Nat → List V → Hp → Prop}
theorem sLcEL {ta : TA} (h : ta σ H1 fun ws H2 => LcEL K g tt te vs σ Q ws H2) : tLc (iEnum K ta) g tt te vs σ H1 Q := h
theorem sLcET {ta : TA} (h : ta σ H1 fun ws H2 => LcET K g tt te vs σ Q ws H2) : tLc (iEnumT K ta) g tt te vs σ H1 Q := h
theorem lcEnumL (hn : xs.length ≤ sizeLine) (src : SqL K H1 a xs) (nSa : ¬ S a) (hS : ∀ b, S b → H1 b ≠ none) (h0 : ∀ H', Kp Non H1 H' → P 0 [] H') (stab : LcStab P H1) (ext : ∀ i ys H H', P i ys H → Kp Non H H' → P i ys H')
    (turn : ∀ i x, xs[i]? = some x → ∀ T (D : Addr) (ys : List V) (H : Hp) (Z : Hp → Prop), Kp S H1 H → H T = some (.tup [.int (i : Nat), x]) → P i ys H →
      (∀ y H4, Kp S H H4 → P (i + 1) (ys ++ [y]) H4 → ∃ acc, H4 D = some (.lst acc) ∧ acc.length < sizeLine ∧ Z (upd H4 D (.lst (acc ++ [y])))) →
      (∀ H3, Kp S H H3 → P (i + 1) ys H3 → Z H3) →
      g (.ref T) (wipe σ vs) H fun σ2 H2 => wipe σ2 vs = wipe σ vs ∧ tt σ2 H2 fun b H3 =>
        if b = true then te σ2 H3 fun y H4 => ∃ acc, H4 D = some (.lst acc) ∧ acc.length < sizeLine ∧ Z (upd H4 D (.lst (acc ++ [y]))) else Z H3)
    (hd : ∀ D ys H', P xs.length ys H' → ys.length ≤ xs.length → Kp S H1 H' → H1 D = none → H' D = some (.lst ys) → Q (.ref D) H') :
    LcEL K g tt te vs σ Q [.ref a] H1 :=
  ⟨a, xs, rfl, src, fun D nD => lc_it walk_enum (LcAt S P H1 D) (lcStart nD h0) (fun i H _ ⟨ys, _, _, k, _⟩ => k.sqL nSa src) (by
    rintro i v H H' hi ⟨ys, e, l, k, p⟩ ⟨T, y1, x, rfl, nT, rfl, e1, e2⟩
    cases e1
    have nS : ¬ S D := fun z => hS D z nD
    have kT : Kp S H (upd H T (.tup [.int (i : Nat), x])) := Kp.new nT
    have eD := kT.same _ _ nS e
    refine turn i x e2 T D ys _ _ (k.trans kT) upd_same (ext _ _ _ _ p (Kp.new nT)) (fun y H4 k4 p4 => ?_) (fun H3 k3 p3 => ⟨ys, k3.same _ _ nS eD, Nat.le_succ_of_le l, (k.trans kT).trans k3, p3⟩)
    have e4 := k4.same _ _ nS eD
    refine ⟨ys, e4, by omega, ys ++ [y], upd_same, by rw [List.length_append]; exact Nat.add_le_add_right l 1, ?_, stab D nD _ _ _ _ p4 (Kp.putL e4)⟩
    exact Kp.drop (p := D) ((((k.trans kT).trans k4).wide fun b z => .inr z).trans ((Kp.putL e4).wide fun b z => .inl z)) nD)
    (fun H ⟨ys, e, l, k, p⟩ => hd D ys H p l k nD e)⟩
end
end Hw
/-! What can be shown: data whose text has room. -/
namespace Hw
open PySem PySem.Spec PyProof.Rows L2
/-- data without dicts, at most dp deep, of weight at most n, its numbers of at most 220 signs -/
structure Sh (dp n : Nat) (d : PyData) : Prop where
  s : d.showable = true
  nd : d.hasDict = false
  dep : d.depth ≤ dp
  lv : d.leavesShort 220 = true
  wt : d.weight ≤ n
structure ShAll (dp n : Nat) (ds : List PyData) : Prop where
  s : PyData.showableAll ds = true
  nd : PyData.hasDictAll ds = false
  dep : PyData.depthAll ds ≤ dp
  lv : PyData.leavesShortAll 220 ds = true
  wt : PyData.weightAll ds ≤ n
section
variable {dp n m : Nat} {d : PyData} {ds : List PyData}
theorem Sh.mono {dp' n' : Nat} (h : Sh dp n d) (h1 : dp ≤ dp') (h2 : n ≤ n') : Sh dp' n' d := ⟨h.s, h.nd, Nat.le_trans h.dep h1, h.lv, Nat.le_trans h.wt h2⟩
theorem Sh.non : Sh dp n .none := ⟨rfl, rfl, Nat.zero_le _, rfl, Nat.zero_le _⟩
theorem Sh.bl (b : Bool) : Sh dp n (.bool b) := ⟨rfl, rfl, Nat.zero_le _, rfl, Nat.zero_le _⟩
theorem Sh.int {i : Int} (h : i.natAbs < 10 ^ 12) : Sh dp 40 (.int i) := by
  have hl : i.natAbs.log2 < 40 ∨ i.natAbs = 0 := by
    by_cases z : i.natAbs = 0
    · exact .inr z
    · exact .inl ((Nat.log2_lt z).mpr (by omega))
  refine ⟨?_, rfl, Nat.zero_le _, ?_, ?_⟩
  · show decide (i.natAbs.log2 < 1920) = true
    refine decide_eq_true ?_
    rcases hl with z | z
    · omega
    · rw [z]; decide
  · show decide ((PyData.shown (.int i)).length ≤ 220) = true
    exact decide_eq_true (Nat.le_trans (PyData.shown_int_le h) (by decide))
  · show (if i == 0 then 0 else i.natAbs.log2 + 1) ≤ 40
    split
    · exact Nat.zero_le _
    · rename_i z
      rcases hl with y | y
      · omega
      · exact absurd (Int.natAbs_eq_zero.mp y) (by simpa using z)
theorem Sh.str {x : Str} (h : x.cps.toList.all (fun c => decide (c < 16 ^ 8)) = true) : Sh dp x.cps.size (.str x) := ⟨rfl, rfl, Nat.zero_le _, h, Nat.le_refl _⟩
theorem ShAll.nil : ShAll dp n [] := ⟨rfl, rfl, Nat.zero_le _, rfl, Nat.zero_le _⟩
theorem ShAll.cons (h : Sh dp n d) (r : ShAll dp m ds) : ShAll dp (n + 1 + m) (d :: ds) :=
  ⟨by rw [PyData.showableAll, h.s, r.s]; rfl, by rw [PyData.hasDictAll, h.nd, r.nd]; rfl, by rw [PyData.depthAll]; exact Nat.max_le.mpr ⟨h.dep, r.dep⟩,
    by rw [PyData.leavesShortAll, h.lv, r.lv]; rfl, by rw [PyData.weightAll]; have := h.wt; have := r.wt; omega⟩
theorem ShAll.of : ∀ {ds : List PyData}, (∀ x ∈ ds, Sh dp n x) → ShAll dp (ds.length * (n + 1)) ds
  | [], _ => .nil
  | d :: r, h => by
    have e : (d :: r).length * (n + 1) = n + 1 + r.length * (n + 1) := by rw [List.length_cons, Nat.add_mul, Nat.one_mul, Nat.add_comm]
    rw [e]
    exact .cons (h d List.mem_cons_self) (ShAll.of fun x hx => h x (List.mem_cons_of_mem _ hx))
theorem Sh.tup (h : ShAll dp n ds) : Sh (dp + 1) n (.tuple ds) := ⟨h.s, h.nd, Nat.succ_le_succ h.dep, h.lv, h.wt⟩
theorem Sh.lst (h : ShAll dp n ds) : Sh (dp + 1) n (.list ds) := ⟨h.s, h.nd, Nat.succ_le_succ h.dep, h.lv, h.wt⟩
theorem Sh.room (h : Sh dp n d) (hn : n ≤ 70000) : d.shown.length ≤ sizeLine := by
  have h1 := PyData.shown_le 220 (by decide) d h.lv
  have h2 : (220 + 2) * d.weight ≤ 222 * 70000 := Nat.mul_le_mul (by decide) (Nat.le_trans h.wt hn)
  rw [sizeLine_eq]
  omega
end
theorem sReprS {K : PySem.W.Frag} {H : Hp} {Q : VK} {v : V} {d : PyData} {dp n : Nat} (h : Dp K H v d) (s : Sh dp n d) (h1 : dp ≤ 100) (h2 : n ≤ 70000) (q : Q (.str d.shown) H) : rRepr K [v] H Q :=
  sRepr h s.s s.nd (Nat.le_trans s.dep h1) (s.room h2) q
theorem shWord {w : Str} (h : w ∈ words8) : Sh 0 8 (.str w) := by
  have e : ∀ w ∈ words8, w.cps.toList.all (fun c => decide (c < 16 ^ 8)) = true ∧ w.cps.size ≤ 8 := by decide +kernel
  exact (Sh.str (e w h).1).mono (Nat.le_refl _) (e w h).2
theorem shHouse {h : House} (k : HouseOk h) : Sh 1 92 h.d := by
  refine (Sh.tup (dp := 0) (.cons (Sh.int ?_) (.cons (n := 40) ?_ (.cons (shWord k.rl) (.nil (n := 0)))))).mono (by omega) (by omega)
  · have := k.h3; omega
  · cases e : h.places with
    | none => exact Sh.non
    | some n => exact Sh.int (by have := k.pl n e; omega)
theorem shPerson {p : Person} (k : PersonOk p) : Sh 1 123 p.d := by
  refine (Sh.tup (dp := 0) (.cons (Sh.int ?_) (.cons (Sh.int ?_) (.cons (n := 40) (Sh.bl _) (.nil (n := 0)))))).mono (by omega) (by omega)
  · have := k.rk; omega
  · have := k.l6; omega
theorem shStand {st : List Person} (k : ∀ p ∈ st, PersonOk p) : Sh 2 (st.length * 124) (standD st) := by
  have := ShAll.of (dp := 1) (n := 123) (ds := st.map Person.d) (fun x hx => by
    obtain ⟨p, hp, rfl⟩ := List.mem_map.mp hx
    exact shPerson (k p hp))
  rw [List.length_map] at this
  exact .tup this
theorem shNats {ns : List Nat} (k : ∀ n ∈ ns, n < 10 ^ 12) : Sh 1 (ns.length * 41) (.tuple (ns.map fun n : Nat => PyData.int n)) := by
  have := ShAll.of (dp := 0) (n := 40) (ds := ns.map fun n : Nat => PyData.int n) (fun x hx => by
    obtain ⟨p, hp, rfl⟩ := List.mem_map.mp hx
    exact Sh.int (by have := k p hp; omega))
  rw [List.length_map] at this
  exact .tup this
end Hw
/-! One beat, as it is reckoned. -/
namespace Hw
open PySem PySem.Spec PyProof.Rows L2
def keepW (w : Str) : Bool := decide (w ∈ keep4)
def natsD (ns : List Nat) : PyData := .tuple (ns.map fun n : Nat => PyData.int n)
/-- who stays in his place, who goes behind all, who is gone -/
def keptAt (w : Str) (sm : List Nat) (ins : List Person) (i : Nat) : List Person := match ins[i]? with
  | none => []
  | some p => if i ∈ sm then (if p.left = 1 then [] else if w = "turns" then [] else [⟨p.rank, p.left - 1, keepW w⟩]) else [p]
def behindAt (w : Str) (sm : List Nat) (ins : List Person) (i : Nat) : List Person := match ins[i]? with
  | none => []
  | some p => if i ∈ sm then (if p.left = 1 then [] else if w = "turns" then [⟨p.rank, p.left - 1, false⟩] else []) else []
def goneAt (sm : List Nat) (ins : List Person) (i : Nat) : List Nat := match ins[i]? with
  | none => []
  | some p => if i ∈ sm then (if p.left = 1 then [i] else []) else []
structure Told where
  stand : List Person
  lost : Nat
  gone : List Nat
def workedOf (h : House) (ins : List Person) : List Person × List Nat :=
  let sm := picks h.hands h.rule ins
  ((List.range ins.length).flatMap (keptAt h.rule sm ins) ++ (List.range ins.length).flatMap (behindAt h.rule sm ins), (List.range ins.length).flatMap (goneAt sm ins))
def stepOf (h : House) (st : List Person) (bt : List Comer) : Told :=
  let ins := (letIn h.places st bt).1
  ⟨(workedOf h ins).1, (letIn h.places st bt).2, (workedOf h ins).2⟩
def Told.d (t : Told) : PyData := .tuple [standD t.stand, .int t.lost, natsD t.gone]
theorem flatSnoc {α : Type} (f : Nat → List α) (i : Nat) : (List.range (i + 1)).flatMap f = (List.range i).flatMap f ++ f i := by
  rw [List.range_succ, List.flatMap_append]
  simp
section
variable {K : PySem.W.Frag} {H : Hp} {v : V}
theorem TDs.nats : ∀ {ns : List Nat} {vs : List V}, TDs K H vs (ns.map fun n : Nat => PyData.int n) → vs = ns.map fun n : Nat => V.int n
  | [], _, h => h.nil'
  | n :: r, _, h => by
    obtain ⟨v, q, rfl, h1, h2⟩ := h.cons'
    rw [h1.toInt, TDs.nats h2]
    rfl
theorem TDs.mkNats (K : PySem.W.Frag) (H : Hp) : ∀ ns : List Nat, TDs K H (ns.map fun n : Nat => V.int n) (ns.map fun n : Nat => PyData.int n)
  | [] => .nil
  | _ :: r => .cons (.int _) (TDs.mkNats K H r)
theorem natsCast (ns : List Nat) : (ns.map fun n : Nat => V.int n) = (ns.map fun n : Nat => (n : Int)).map V.int := by
  rw [List.map_map]; rfl
theorem memCast (ns : List Nat) (i : Nat) : ((i : Int) ∈ ns.map fun n : Nat => (n : Int)) ↔ i ∈ ns := by
  rw [List.mem_map]
  constructor
  · rintro ⟨a, ha, e⟩
    rw [show i = a by omega]; exact ha
  · exact fun h => ⟨i, h, rfl⟩
theorem TD.nats {ns : List Nat} (h : TD K H v (natsD ns)) : ∃ t, v = .ref t ∧ SqT K H t (ns.map fun n : Nat => V.int n) := by
  obtain ⟨t, xs, rfl, h1, h2⟩ := h.ref
  rw [h2.nats] at h1
  exact ⟨t, rfl, h1⟩
/-- whether a place is among such -/
theorem sNiN {a : Addr} {ns : List Nat} {i : Nat} {Q : VK} (h : SqT K H a (ns.map fun n : Nat => V.int n)) (q : Q (.bl (!decide (i ∈ ns))) H) : rIn K true (.int i) (.ref a) H Q := by
  rw [natsCast] at h
  refine sNiTI h ?_
  rw [show decide ((i : Int) ∈ ns.map fun n : Nat => (n : Int)) = decide (i ∈ ns) from decide_eq_decide.mpr (memCast ns i)]
  exact q
theorem sInN {a : Addr} {ns : List Nat} {i : Nat} {Q : VK} (h : SqT K H a (ns.map fun n : Nat => V.int n)) (q : Q (.bl (decide (i ∈ ns))) H) : rIn K false (.int i) (.ref a) H Q := by
  rw [natsCast] at h
  refine sInTI h ?_
  rw [show decide ((i : Int) ∈ ns.map fun n : Nat => (n : Int)) = decide (i ∈ ns) from decide_eq_decide.mpr (memCast ns i)]
  exact q
theorem sNiNL {a : Addr} {ns : List Nat} {i : Nat} {Q : VK} (h : SqL K H a (ns.map fun n : Nat => V.int n)) (q : Q (.bl (!decide (i ∈ ns))) H) : rIn K true (.int i) (.ref a) H Q := by
  rw [natsCast] at h
  refine sNiLI h ?_
  rw [show decide ((i : Int) ∈ ns.map fun n : Nat => (n : Int)) = decide (i ∈ ns) from decide_eq_decide.mpr (memCast ns i)]
  exact q
theorem sInNL {a : Addr} {ns : List Nat} {i : Nat} {Q : VK} (h : SqL K H a (ns.map fun n : Nat => V.int n)) (q : Q (.bl (decide (i ∈ ns))) H) : rIn K false (.int i) (.ref a) H Q := by
  rw [natsCast] at h
  refine sInLI h ?_
  rw [show decide ((i : Int) ∈ ns.map fun n : Nat => (n : Int)) = decide (i ∈ ns) from decide_eq_decide.mpr (memCast ns i)]
  exact q
end
theorem flatLen {α : Type} (f : Nat → List α) (h : ∀ i, (f i).length ≤ 1) : ∀ n, ((List.range n).flatMap f).length ≤ n
  | 0 => by simp
  | n + 1 => by
    rw [flatSnoc, List.length_append]
    have := flatLen f h n
    have := h n
    omega
theorem keptLen (w : Str) (sm : List Nat) (ins : List Person) (i : Nat) : (keptAt w sm ins i).length ≤ 1 := by
  unfold keptAt
  split
  · simp
  · split
    · split
      · simp
      · split <;> simp
    · simp
theorem behindLen (w : Str) (sm : List Nat) (ins : List Person) (i : Nat) : (behindAt w sm ins i).length ≤ 1 := by
  unfold behindAt
  split
  · simp
  · split
    · split
      · simp
      · split <;> simp
    · simp
theorem goneLen (sm : List Nat) (ins : List Person) (i : Nat) : (goneAt sm ins i).length ≤ 1 := by
  unfold goneAt
  split
  · simp
  · split
    · split <;> simp
    · simp
theorem bothLen (w : Str) (sm : List Nat) (ins : List Person) : ∀ n, ((List.range n).flatMap (keptAt w sm ins)).length + ((List.range n).flatMap (behindAt w sm ins)).length ≤ n
  | 0 => by simp
  | n + 1 => by
    rw [flatSnoc, flatSnoc, List.length_append, List.length_append]
    have := bothLen w sm ins n
    have : (keptAt w sm ins n).length + (behindAt w sm ins n).length ≤ 1 := by
      unfold keptAt behindAt
      split
      · simp
      · split
        · split
          · simp
          · split <;> simp
        · simp
    omega
theorem memFlat {α : Type} {f : Nat → List α} {n : Nat} {x : α} (h : x ∈ (List.range n).flatMap f) : ∃ i, i < n ∧ x ∈ f i := by
  obtain ⟨i, hi, hx⟩ := List.mem_flatMap.mp h
  exact ⟨i, List.mem_range.mp hi, hx⟩
theorem keptOk {w : Str} {sm : List Nat} {ins : List Person} (hk : ∀ p ∈ ins, PersonOk p) {i : Nat} {q : Person} (h : q ∈ keptAt w sm ins i) : PersonOk q := by
  unfold keptAt at h
  cases e : ins[i]? with
  | none => rw [e] at h; cases h
  | some p =>
    rw [e] at h
    have k := hk p (List.mem_of_getElem? e)
    have k1 := k.l1
    have k6 := k.l6
    dsimp only at h
    split at h
    · split at h
      · cases h
      · split at h
        · cases h
        · rw [List.mem_singleton.mp h]
          exact ⟨k.rk, by show 1 ≤ p.left - 1; omega, by show p.left - 1 ≤ 6; omega⟩
    · rw [List.mem_singleton.mp h]; exact k
theorem behindOk {w : Str} {sm : List Nat} {ins : List Person} (hk : ∀ p ∈ ins, PersonOk p) {i : Nat} {q : Person} (h : q ∈ behindAt w sm ins i) : PersonOk q := by
  unfold behindAt at h
  cases e : ins[i]? with
  | none => rw [e] at h; cases h
  | some p =>
    rw [e] at h
    have k := hk p (List.mem_of_getElem? e)
    have k1 := k.l1
    have k6 := k.l6
    dsimp only at h
    split at h
    · split at h
      · cases h
      · split at h
        · rw [List.mem_singleton.mp h]
          exact ⟨k.rk, by show 1 ≤ p.left - 1; omega, by show p.left - 1 ≤ 6; omega⟩
        · cases h
    · cases h
theorem goneLt {sm : List Nat} {ins : List Person} {n q : Nat} (h : q ∈ (List.range n).flatMap (goneAt sm ins)) : q < n := by
  obtain ⟨i, hi, h⟩ := memFlat h
  unfold goneAt at h
  split at h
  · cases h
  · split at h
    · split at h
      · rw [List.mem_singleton.mp h]; exact hi
      · cases h
    · cases h
theorem workedOk {h : House} {ins : List Person} (hk : ∀ p ∈ ins, PersonOk p) : ∀ p ∈ (workedOf h ins).1, PersonOk p := by
  intro p hp
  rcases List.mem_append.mp hp with z | z
  · obtain ⟨i, _, z⟩ := memFlat z
    exact keptOk hk z
  · obtain ⟨i, _, z⟩ := memFlat z
    exact behindOk hk z
theorem workedLen (h : House) (ins : List Person) : (workedOf h ins).1.length ≤ ins.length := by
  unfold workedOf
  dsimp only
  rw [List.length_append]
  exact bothLen _ _ _ _
theorem goneLen2 (h : House) (ins : List Person) : (workedOf h ins).2.length ≤ ins.length := flatLen _ (goneLen _ _) _
theorem letInOk {pl : Option Nat} {st : List Person} {bt : List Comer} (h1 : ∀ p ∈ st, PersonOk p) (h2 : ∀ x ∈ bt, ComerOk x) : ∀ p ∈ (letIn pl st bt).1, PersonOk p := by
  intro p hp
  rcases List.mem_append.mp hp with z | z
  · exact h1 p z
  · obtain ⟨x, hx, rfl⟩ := List.mem_map.mp z
    have k := h2 x (List.mem_of_mem_take hx)
    exact ⟨k.rk, k.w1, k.w6⟩
theorem letInLen (pl : Option Nat) (st : List Person) (bt : List Comer) : (letIn pl st bt).1.length ≤ st.length + bt.length := by
  show (st ++ _).length ≤ _
  rw [List.length_append, List.length_map, List.length_take]
  omega
theorem letInPl {pl : Option Nat} {st : List Person} {bt : List Comer} (h : ∀ n, pl = some n → st.length ≤ n) : ∀ n, pl = some n → (letIn pl st bt).1.length ≤ n := by
  rintro n rfl
  have := h n rfl
  show (st ++ _).length ≤ _
  rw [List.length_append, List.length_map, List.length_take]
  show st.length + min (min bt.length (n - st.length)) bt.length ≤ n
  omega
theorem stepOk {h : House} {st : List Person} {bt : List Comer} (h1 : ∀ p ∈ st, PersonOk p) (h2 : ∀ x ∈ bt, ComerOk x) : ∀ p ∈ (stepOf h st bt).stand, PersonOk p := workedOk (letInOk h1 h2)
theorem stepLen (h : House) (st : List Person) (bt : List Comer) : (stepOf h st bt).stand.length ≤ st.length + bt.length := Nat.le_trans (workedLen _ _) (letInLen _ _ _)
theorem stepPl {h : House} {st : List Person} {bt : List Comer} (k : ∀ n, h.places = some n → st.length ≤ n) : ∀ n, h.places = some n → (stepOf h st bt).stand.length ≤ n := fun n e => Nat.le_trans (workedLen _ _) (letInPl k n e)
theorem stepGone (h : House) (st : List Person) (bt : List Comer) : (stepOf h st bt).gone.length ≤ st.length + bt.length ∧ ∀ i ∈ (stepOf h st bt).gone, i < st.length + bt.length := by
  have := letInLen h.places st bt
  refine ⟨Nat.le_trans (goneLen2 _ _) this, fun i hi => Nat.lt_of_lt_of_le (goneLt hi) this⟩
theorem shComer {x : Comer} (k : ComerOk x) : Sh 1 82 x.d := by
  refine (Sh.tup (dp := 0) (.cons (Sh.int ?_) (.cons (Sh.int ?_) (.nil (n := 0))))).mono (by omega) (by omega)
  · have := k.rk; omega
  · have := k.w6; omega
theorem shBeat {bt : List Comer} (k : ∀ x ∈ bt, ComerOk x) : Sh 2 (bt.length * 83) (beatD bt) := by
  have := ShAll.of (dp := 1) (n := 82) (ds := bt.map Comer.d) (fun x hx => by
    obtain ⟨p, hp, rfl⟩ := List.mem_map.mp hx
    exact shComer (k p hp))
  rw [List.length_map] at this
  exact .tup this
theorem shTold {h : House} {st : List Person} {bt : List Comer} (h1 : ∀ p ∈ st, PersonOk p) (h2 : ∀ x ∈ bt, ComerOk x) (hl : st.length + bt.length ≤ 200) : Sh 3 40000 (stepOf h st bt).d := by
  have l1 := stepLen h st bt
  have g := stepGone h st bt
  have l2 : (stepOf h st bt).lost ≤ bt.length := Nat.sub_le _ _
  refine (Sh.tup (dp := 2) (.cons ((shStand (stepOk h1 h2)).mono (Nat.le_refl _) (by omega : _ ≤ 24800)) (.cons (Sh.int ?_) (.cons ((shNats (ns := (stepOf h st bt).gone) fun n hn => ?_).mono (by omega) (by omega : _ ≤ 8200)) (.nil (n := 0)))))).mono (by omega) (by omega)
  · omega
  · have := g.2 n hn; omega
/-! ### names in the place of places -/
section
variable {names : List Nat} {F : Nat → Person} {q : Nat → Bool}
theorem seg {f : Nat → List Person} (st : ∀ k m, names[k]? = some m → (if q m = true then [F m] else []) = f k) : ∀ k, k ≤ names.length → ((names.take k).filter q).map F = (List.range k).flatMap f
  | 0, _ => rfl
  | k + 1, h => by
    have hm : names[k]? = some names[k] := List.getElem?_eq_getElem (by omega)
    rw [List.take_add_one, hm, List.filter_append, List.map_append, seg st k (by omega), flatSnoc, ← st k _ hm]
    congr 1
    by_cases c : q names[k] = true
    · simp [c]
    · simp [c]
end
end Hw
/-! Ways and runs; data that can be compared. -/
namespace Hw
open PySem PySem.Spec PyProof.Rows L2
/-! ### data that can be compared -/
structure Ly (dp : Nat) (d : PyData) : Prop where
  s : d.canLay0 = true
  dep : d.depth ≤ dp
structure LyAll (dp : Nat) (ds : List PyData) : Prop where
  s : PyData.canLayAll0 ds = true
  dep : PyData.depthAll ds ≤ dp
section
variable {dp n : Nat} {d : PyData} {ds : List PyData}
theorem Ly.non : Ly dp .none := ⟨rfl, Nat.zero_le _⟩
theorem Ly.bl (b : Bool) : Ly dp (.bool b) := ⟨rfl, Nat.zero_le _⟩
theorem Ly.int (i : Int) : Ly dp (.int i) := ⟨rfl, Nat.zero_le _⟩
theorem Ly.mono {dp' : Nat} (h : Ly dp d) (e : dp ≤ dp') : Ly dp' d := ⟨h.s, Nat.le_trans h.dep e⟩
theorem LyAll.nil : LyAll dp [] := ⟨rfl, Nat.zero_le _⟩
theorem LyAll.cons (h : Ly dp d) (r : LyAll dp ds) : LyAll dp (d :: ds) :=
  ⟨by rw [PyData.canLayAll0, h.s, r.s]; rfl, by rw [PyData.depthAll]; exact Nat.max_le.mpr ⟨h.dep, r.dep⟩⟩
theorem LyAll.of : ∀ {ds : List PyData}, (∀ x ∈ ds, Ly dp x) → LyAll dp ds
  | [], _ => .nil
  | d :: r, h => .cons (h d List.mem_cons_self) (LyAll.of fun x hx => h x (List.mem_cons_of_mem _ hx))
theorem LyAll.map {α : Type} {f : α → PyData} {l : List α} (h : ∀ x ∈ l, Ly dp (f x)) : LyAll dp (l.map f) := .of fun x hx => by
  obtain ⟨y, hy, rfl⟩ := List.mem_map.mp hx
  exact h y hy
theorem Ly.tup (h : LyAll dp ds) : Ly (dp + 1) (.tuple ds) := ⟨h.s, Nat.succ_le_succ h.dep⟩
theorem Ly.lst (h : LyAll dp ds) : Ly (dp + 1) (.list ds) := ⟨h.s, Nat.succ_le_succ h.dep⟩
theorem Ly.shaped (h : Ly dp d) (e : dp ≤ 64) : SeqAt.shaped d = true := by
  show (d.canLay0 && decide (d.depth ≤ 64)) = true
  rw [h.s, decide_eq_true (Nat.le_trans h.dep e)]
  rfl
theorem lyPerson (p : Person) : Ly 1 p.d := .tup (.cons (.int _) (.cons (.int _) (.cons (.bl _) .nil)))
theorem lyStand (st : List Person) : Ly 2 (standD st) := .tup (.map fun p _ => lyPerson p)
theorem lyComer (c : Comer) : Ly 1 c.d := .tup (.cons (.int _) (.cons (.int _) .nil))
theorem lyBeat (b : List Comer) : Ly 2 (beatD b) := .tup (.map fun p _ => lyComer p)
theorem eqvNil (ds : List PyData) : PyData.eqv (.tuple ds) (.tuple []) = decide (ds = []) := by
  cases ds with
  | nil => simp [PyData.eqv, PyData.eqvAll]
  | cons a r => simp [PyData.eqv, PyData.eqvAll]
theorem eqvAllRefl : ∀ {ds : List PyData}, (∀ d ∈ ds, PyData.eqv d d = true) → PyData.eqvAll ds ds = true
  | [], _ => by simp [PyData.eqvAll]
  | d :: r, h => by
    rw [PyData.eqvAll, h d List.mem_cons_self, eqvAllRefl fun x hx => h x (List.mem_cons_of_mem _ hx)]
    rfl
theorem eqvListRefl {ds : List PyData} (h : ∀ d ∈ ds, PyData.eqv d d = true) : PyData.eqv (.list ds) (.list ds) = true := by
  rw [PyData.eqv]
  exact eqvAllRefl h
theorem eqvInt (i : Int) : PyData.eqv (.int i) (.int i) = true := by simp [PyData.eqv]
theorem eqvBool (i : Bool) : PyData.eqv (.bool i) (.bool i) = true := by simp [PyData.eqv]
end
/-! ### ways -/
def wayD (way : List (List Comer)) : PyData := .tuple (way.map beatD)
def manyIn (way : List (List Comer)) : Nat := (way.map List.length).sum
structure WayOk (w : Nat) (way : List (List Comer)) : Prop where
  rk : ∀ b ∈ way, ∀ c ∈ b, c.rank < 2
  w1 : ∀ b ∈ way, ∀ c ∈ b, 1 ≤ c.work
  wm : ∀ b ∈ way, ∀ c ∈ b, c.work ≤ w
/-- the stand ahead of beat i -/
def stAt (h : House) (way : List (List Comer)) (st : List Person) : Nat → List Person
  | 0 => st
  | i + 1 => (stepOf h (stAt h way st i) (way.getD i [])).stand
def toldAt (h : House) (way : List (List Comer)) (st : List Person) (i : Nat) : Told := stepOf h (stAt h way st i) (way.getD i [])
def standsOf (h : House) (way : List (List Comer)) (st : List Person) : List (List Person) := (List.range (way.length + 1)).map (stAt h way st)
def lostOf (h : House) (way : List (List Comer)) (st : List Person) : List Nat := (List.range way.length).map fun i => (toldAt h way st i).lost
def goneOf (h : House) (way : List (List Comer)) (st : List Person) : List Nat := (List.range way.length).map fun i => (toldAt h way st i).gone.length
def runD (h : House) (way : List (List Comer)) (st : List Person) : PyData := .tuple [.tuple ((standsOf h way st).map standD), natsD (lostOf h way st), natsD (goneOf h way st)]
def cameBy (way : List (List Comer)) (i : Nat) : Nat := ((way.take i).map List.length).sum
theorem cameSucc (way : List (List Comer)) (i : Nat) : cameBy way (i + 1) = cameBy way i + (way.getD i []).length := by
  unfold cameBy
  rw [List.take_add_one, List.map_append, List.sum_append, List.getD_eq_getElem?_getD]
  cases way[i]? <;> simp
theorem cameLe (way : List (List Comer)) : ∀ i, cameBy way i ≤ manyIn way := by
  intro i
  unfold cameBy manyIn
  have : (way.map List.length).sum = ((way.take i).map List.length).sum + ((way.drop i).map List.length).sum := by
    rw [← List.sum_append, ← List.map_append, List.take_append_drop]
  omega
theorem stAtLen (h : House) (way : List (List Comer)) (st : List Person) : ∀ i, (stAt h way st i).length ≤ st.length + cameBy way i
  | 0 => Nat.le_add_right _ _
  | i + 1 => by
    have h1 := stAtLen h way st i
    have h2 := stepLen h (stAt h way st i) (way.getD i [])
    rw [cameSucc]
    show (stepOf h (stAt h way st i) (way.getD i [])).stand.length ≤ _
    omega
theorem getBeat {P : List Comer → Prop} {way : List (List Comer)} (h0 : P []) (h : ∀ b ∈ way, P b) (i : Nat) : P (way.getD i []) := by
  rw [List.getD_eq_getElem?_getD]
  cases e : way[i]? with
  | none => exact h0
  | some b => exact h b (List.mem_of_getElem? e)
/-! left above nought -/
theorem keptPos {w : Str} {sm : List Nat} {ins : List Person} (hk : ∀ p ∈ ins, 1 ≤ p.left) {i : Nat} {q : Person} (h : q ∈ keptAt w sm ins i) : 1 ≤ q.left := by
  unfold keptAt at h
  cases e : ins[i]? with
  | none => rw [e] at h; cases h
  | some p =>
    rw [e] at h
    have k := hk p (List.mem_of_getElem? e)
    dsimp only at h
    split at h
    · split at h
      · cases h
      · split at h
        · cases h
        · rw [List.mem_singleton.mp h]; show 1 ≤ p.left - 1; omega
    · rw [List.mem_singleton.mp h]; exact k
theorem behindPos {w : Str} {sm : List Nat} {ins : List Person} (hk : ∀ p ∈ ins, 1 ≤ p.left) {i : Nat} {q : Person} (h : q ∈ behindAt w sm ins i) : 1 ≤ q.left := by
  unfold behindAt at h
  cases e : ins[i]? with
  | none => rw [e] at h; cases h
  | some p =>
    rw [e] at h
    have k := hk p (List.mem_of_getElem? e)
    dsimp only at h
    split at h
    · split at h
      · cases h
      · split at h
        · rw [List.mem_singleton.mp h]; show 1 ≤ p.left - 1; omega
        · cases h
    · cases h
theorem workedPos {h : House} {ins : List Person} (hk : ∀ p ∈ ins, 1 ≤ p.left) : ∀ p ∈ (workedOf h ins).1, 1 ≤ p.left := by
  intro p hp
  rcases List.mem_append.mp hp with z | z
  · obtain ⟨i, _, z⟩ := memFlat z
    exact keptPos hk z
  · obtain ⟨i, _, z⟩ := memFlat z
    exact behindPos hk z
theorem letInPos {pl : Option Nat} {st : List Person} {bt : List Comer} (h1 : ∀ p ∈ st, 1 ≤ p.left) (h2 : ∀ x ∈ bt, 1 ≤ x.work) : ∀ p ∈ (letIn pl st bt).1, 1 ≤ p.left := by
  intro p hp
  rcases List.mem_append.mp hp with z | z
  · exact h1 p z
  · obtain ⟨x, hx, rfl⟩ := List.mem_map.mp z
    exact h2 x (List.mem_of_mem_take hx)
theorem stAtPos {h : House} {way : List (List Comer)} {st : List Person} (h1 : ∀ p ∈ st, 1 ≤ p.left) (h2 : ∀ b ∈ way, ∀ c ∈ b, 1 ≤ c.work) : ∀ i, ∀ p ∈ stAt h way st i, 1 ≤ p.left
  | 0 => h1
  | i + 1 => workedPos (letInPos (stAtPos h1 h2 i) (getBeat (P := fun b => ∀ c ∈ b, 1 ≤ c.work) (fun c hc => by cases hc) h2 i))
theorem stAtPl {h : House} {way : List (List Comer)} {st : List Person} (k : ∀ n, h.places = some n → st.length ≤ n) : ∀ i, ∀ n, h.places = some n → (stAt h way st i).length ≤ n
  | 0 => k
  | i + 1 => stepPl (stAtPl k i)
theorem stAtOk {h : House} {way : List (List Comer)} {st : List Person} (h1 : ∀ p ∈ st, PersonOk p) (h2 : ∀ b ∈ way, ∀ c ∈ b, ComerOk c) : ∀ i, ∀ p ∈ stAt h way st i, PersonOk p
  | 0 => h1
  | i + 1 => stepOk (stAtOk h1 h2 i) (getBeat (P := fun b => ∀ c ∈ b, ComerOk c) (fun c hc => by cases hc) h2 i)
/-! ### the work -/
def workIn (b : List Comer) : Nat := (b.map (·.work)).sum
theorem workApp (a b : List Person) : workOf (a ++ b) = workOf a + workOf b := by
  unfold workOf
  rw [List.map_append, List.sum_append]
theorem workOne (sm : List Nat) (w : Str) (ins : List Person) (i : Nat) (p : Person) (e : ins[i]? = some p) (hp : 1 ≤ p.left) :
    workOf (keptAt w sm ins i) + workOf (behindAt w sm ins i) + (if i ∈ sm then 1 else 0) = p.left := by
  unfold keptAt behindAt
  rw [e]
  dsimp only
  by_cases c1 : i ∈ sm
  · simp only [c1, if_true]
    by_cases c2 : p.left = 1
    · simp [c2, workOf]
    · by_cases c3 : w = "turns"
      · simp [c2, c3, workOf]; omega
      · simp [c2, c3, workOf]; omega
  · simp [c1, workOf]
theorem workSeg (sm : List Nat) (w : Str) (ins : List Person) (hp : ∀ p ∈ ins, 1 ≤ p.left) : ∀ k, k ≤ ins.length →
    workOf ((List.range k).flatMap (keptAt w sm ins)) + workOf ((List.range k).flatMap (behindAt w sm ins)) + ((List.range k).filter fun i => decide (i ∈ sm)).length = workOf (ins.take k)
  | 0, _ => rfl
  | k + 1, h => by
    have e : ins[k]? = some ins[k] := List.getElem?_eq_getElem (by omega)
    have ih := workSeg sm w ins hp k (by omega)
    have one := workOne sm w ins k _ e (hp _ (List.getElem_mem _))
    rw [flatSnoc, flatSnoc, workApp, workApp, List.take_add_one, e, workApp, List.range_succ, List.filter_append, List.length_append]
    have e2 : workOf (some ins[k]).toList = ins[k].left := by simp [workOf]
    have e3 : (([k]).filter fun i => decide (i ∈ sm)).length = if k ∈ sm then 1 else 0 := by
      by_cases c : k ∈ sm <;> simp [c]
    rw [e2, e3]
    omega
/-- who is picked has one less -/
theorem workWorked (h : House) (ins : List Person) (hp : ∀ p ∈ ins, 1 ≤ p.left) : workOf (workedOf h ins).1 + min h.hands ins.length = workOf ins := by
  have e := workSeg (picks h.hands h.rule ins) h.rule ins hp ins.length (Nat.le_refl _)
  rw [List.take_length] at e
  unfold workedOf
  dsimp only
  rw [workApp, ← e]
  congr 1
  rw [← picks_length h.hands h.rule ins]
  unfold picks
  congr 1
  refine filterCongr fun x hx => ?_
  have hx := List.mem_range.mp hx
  refine Bool.eq_iff_iff.mpr ?_
  simp [List.mem_filter, hx]
theorem workLetIn (st : List Person) (bt : List Comer) : workOf (letIn none st bt).1 = workOf st + workIn bt := by
  show workOf (st ++ (bt.take bt.length).map Comer.p) = _
  rw [workApp, List.take_length]
  unfold workOf workIn
  rw [List.map_map]
  rfl
theorem workNil {st : List Person} (hp : ∀ p ∈ st, 1 ≤ p.left) : workOf st = 0 ↔ st = [] := by
  constructor
  · intro e
    cases st with
    | nil => rfl
    | cons p r =>
      have := hp p List.mem_cons_self
      unfold workOf at e
      rw [List.map_cons, List.sum_cons] at e
      omega
  · rintro rfl
    rfl
/-! ### stretches -/
def endsOf (empty : Nat → Bool) (n b : Nat) : List Nat := ((List.range (n - b)).map fun j => b + 1 + j).filter empty
def stretches (empty on : Nat → Bool) (n : Nat) : List (Nat × Option Nat) := (List.range n).flatMap fun b => if empty b = true ∧ on b = true then [(b, (endsOf empty n b).head?)] else []
def strD (s : Nat × Option Nat) : PyData := .tuple [.int s.1, optD s.2]
theorem stretchLen (empty on : Nat → Bool) (n : Nat) : (stretches empty on n).length ≤ n := flatLen _ (fun i => by split <;> simp) n
theorem WayOk.comer {w : Nat} {way : List (List Comer)} (k : WayOk w way) (hw : w ≤ 6) : ∀ b ∈ way, ∀ c ∈ b, ComerOk c := fun b hb c hc => ⟨k.rk b hb c hc, k.w1 b hb c hc, Nat.le_trans (k.wm b hb c hc) hw⟩
/-- the work at moment i, of one hand without bound -/
def wAt (way : List (List Comer)) (w : Nat) : Nat → Nat
  | 0 => w
  | i + 1 => wAt way w i + workIn (way.getD i []) - 1
theorem workStep (h : House) (hh : h.hands = 1) (hp : h.places = none) (st : List Person) (bt : List Comer) (h1 : ∀ p ∈ st, 1 ≤ p.left) (h2 : ∀ x ∈ bt, 1 ≤ x.work) : workOf (stepOf h st bt).stand = workOf st + workIn bt - 1 := by
  have pos := letInPos (pl := h.places) h1 h2
  have e := workWorked h (letIn h.places st bt).1 pos
  have e2 := workNil pos
  have e3 : workOf (letIn h.places st bt).1 = workOf st + workIn bt := by rw [hp]; exact workLetIn st bt
  show workOf (workedOf h (letIn h.places st bt).1).1 = _
  rw [hh] at e
  by_cases c : (letIn h.places st bt).1 = []
  · rw [c] at e e2 e3 ⊢
    have : workOf ([] : List Person) = 0 := rfl
    simp at e
    omega
  · have : 1 ≤ (letIn h.places st bt).1.length := by
      cases hq : (letIn h.places st bt).1 with
      | nil => exact absurd hq c
      | cons a r => simp
    omega
theorem workAt (h : House) (hh : h.hands = 1) (hp : h.places = none) (way : List (List Comer)) (st : List Person) (h1 : ∀ p ∈ st, 1 ≤ p.left) (h2 : ∀ b ∈ way, ∀ c ∈ b, 1 ≤ c.work) : ∀ i, workOf (stAt h way st i) = wAt way (workOf st) i
  | 0 => rfl
  | i + 1 => by
    show workOf (stepOf h (stAt h way st i) (way.getD i [])).stand = wAt way (workOf st) i + _ - 1
    rw [workStep h hh hp _ _ (stAtPos h1 h2 i) (getBeat (P := fun b => ∀ c ∈ b, 1 ≤ c.work) (fun c hc => by cases hc) h2 i), workAt h hh hp way st h1 h2 i]
theorem lostNone {h : House} (hp : h.places = none) (st : List Person) (bt : List Comer) : (stepOf h st bt).lost = 0 := by
  show (letIn h.places st bt).2 = 0
  rw [hp]
  exact Nat.sub_self _
/-! ### works of one -/
def capAll (pl : Option Nat) (m : Nat) : Nat := match pl with
  | none => m
  | some p => min m p
/-- how many are in at moment i, how many were lost so far, where all works are one -/
def insAt (hands : Nat) (pl : Option Nat) (way : List (List Comer)) : Nat → Nat
  | 0 => 0
  | i + 1 => capAll pl (insAt hands pl way i + (way.getD i []).length) - hands
def lossAt (hands : Nat) (pl : Option Nat) (way : List (List Comer)) : Nat → Nat
  | 0 => 0
  | i + 1 => lossAt hands pl way i + (insAt hands pl way i + (way.getD i []).length) - capAll pl (insAt hands pl way i + (way.getD i []).length)
theorem capAll_le (pl : Option Nat) (m : Nat) : capAll pl m ≤ m := by
  cases pl with
  | none => exact Nat.le_refl _
  | some p => exact Nat.min_le_left _ _
theorem insLe (hands : Nat) (pl : Option Nat) (way : List (List Comer)) : ∀ i n, pl = some n → insAt hands pl way i ≤ n
  | 0, n, _ => Nat.zero_le _
  | i + 1, n, e => by
    show capAll pl _ - hands ≤ n
    rw [e]
    show min _ n - hands ≤ n
    omega
theorem workAll1 {st : List Person} (h : ∀ p ∈ st, p.left = 1) : workOf st = st.length := by
  induction st with
  | nil => rfl
  | cons p r ih =>
    have := ih fun q hq => h q (List.mem_cons_of_mem _ hq)
    unfold workOf at this ⊢
    rw [List.map_cons, List.sum_cons, this, h p List.mem_cons_self, List.length_cons]
    omega
theorem worked1 {h : House} {ins : List Person} (k : ∀ p ∈ ins, p.left = 1) : ∀ q ∈ (workedOf h ins).1, q.left = 1 := by
  intro q hq
  rcases List.mem_append.mp hq with z | z
  · obtain ⟨i, _, z⟩ := memFlat z
    unfold keptAt at z
    cases e : ins[i]? with
    | none => rw [e] at z; cases z
    | some p =>
      rw [e] at z
      have kp := k p (List.mem_of_getElem? e)
      dsimp only at z
      rw [if_pos kp] at z
      split at z
      · cases z
      · rw [List.mem_singleton.mp z]; exact kp
  · obtain ⟨i, _, z⟩ := memFlat z
    unfold behindAt at z
    cases e : ins[i]? with
    | none => rw [e] at z; cases z
    | some p =>
      rw [e] at z
      have kp := k p (List.mem_of_getElem? e)
      dsimp only at z
      rw [if_pos kp] at z
      split at z
      · cases z
      · cases z
theorem letIn1 {pl : Option Nat} {st : List Person} {bt : List Comer} (h1 : ∀ p ∈ st, p.left = 1) (h2 : ∀ x ∈ bt, x.work = 1) : ∀ p ∈ (letIn pl st bt).1, p.left = 1 := by
  intro p hp
  rcases List.mem_append.mp hp with z | z
  · exact h1 p z
  · obtain ⟨x, hx, rfl⟩ := List.mem_map.mp z
    exact h2 x (List.mem_of_mem_take hx)
theorem letInCount {pl : Option Nat} {st : List Person} {bt : List Comer} (h : ∀ n, pl = some n → st.length ≤ n) : (letIn pl st bt).1.length = capAll pl (st.length + bt.length) ∧ (letIn pl st bt).2 + capAll pl (st.length + bt.length) = st.length + bt.length := by
  have e1 : (letIn pl st bt).1.length = st.length + cap pl st.length bt.length := by
    show (st ++ _).length = _
    rw [List.length_append, List.length_map, List.length_take]
    have := cap_le pl st.length bt.length
    omega
  have e2 : (letIn pl st bt).2 = bt.length - cap pl st.length bt.length := rfl
  rw [e1, e2]
  cases pl with
  | none => exact ⟨rfl, by show bt.length - bt.length + (st.length + bt.length) = _; omega⟩
  | some n =>
    have := h n rfl
    refine ⟨?_, ?_⟩
    · show st.length + min bt.length (n - st.length) = min (st.length + bt.length) n
      omega
    · show bt.length - min bt.length (n - st.length) + min (st.length + bt.length) n = st.length + bt.length
      omega
theorem all1At {h : House} {way : List (List Comer)} (hw : ∀ b ∈ way, ∀ c ∈ b, c.work = 1) : ∀ i, (∀ p ∈ stAt h way [] i, p.left = 1)
  | 0 => fun _ z => nomatch z
  | i + 1 => worked1 (letIn1 (all1At hw i) (getBeat (P := fun b => ∀ c ∈ b, c.work = 1) (fun c hc => by cases hc) hw i))
theorem count1 (h : House) (way : List (List Comer)) (hw : ∀ b ∈ way, ∀ c ∈ b, c.work = 1) : ∀ i, (stAt h way [] i).length = insAt h.hands h.places way i ∧
    ((List.range i).map fun j => (toldAt h way [] j).lost).sum = lossAt h.hands h.places way i
  | 0 => ⟨rfl, rfl⟩
  | i + 1 => by
    obtain ⟨h1, h2⟩ := count1 h way hw i
    have pl : ∀ n, h.places = some n → (stAt h way [] i).length ≤ n := stAtPl (fun n _ => Nat.zero_le _) i
    have wb : ∀ c ∈ way.getD i [], c.work = 1 := getBeat (P := fun b => ∀ c ∈ b, c.work = 1) (fun c hc => by cases hc) hw i
    obtain ⟨c1, c2⟩ := letInCount (bt := way.getD i []) pl
    have a1 := letIn1 (pl := h.places) (all1At (h := h) hw i) wb
    have wk := workWorked h (letIn h.places (stAt h way [] i) (way.getD i [])).1 (fun p hp => by rw [a1 p hp]; exact Nat.le_refl _)
    rw [workAll1 a1, workAll1 (worked1 a1)] at wk
    have e : (stAt h way [] (i + 1)).length = (workedOf h (letIn h.places (stAt h way [] i) (way.getD i [])).1).1.length := rfl
    refine ⟨?_, ?_⟩
    · show _ = capAll h.places (insAt h.hands h.places way i + _) - h.hands
      rw [e, ← h1, ← c1]
      omega
    · have e2 : (toldAt h way [] i).lost = (letIn h.places (stAt h way [] i) (way.getD i [])).2 := rfl
      rw [List.range_succ, List.map_append, List.sum_append, h2]
      show lossAt h.hands h.places way i + ((toldAt h way [] i).lost + 0) = lossAt h.hands h.places way i + (insAt h.hands h.places way i + _) - capAll h.places (insAt h.hands h.places way i + _)
      rw [e2, ← h1]
      have := capAll_le h.places ((stAt h way [] i).length + (way.getD i []).length)
      omega
def plLe : Option Nat → Option Nat → Prop
  | _, none => True
  | some p, some q => p ≤ q
  | none, some _ => False
theorem capMono {p q : Option Nat} (h : plLe p q) {m n : Nat} (e : m ≤ n) : capAll p m ≤ capAll q n := by
  cases q with
  | none => exact Nat.le_trans (capAll_le _ _) e
  | some q =>
    cases p with
    | none => exact h.elim
    | some p =>
      have h : p ≤ q := h
      show min m p ≤ min n q
      omega
/-- with more places -/
theorem widerIns (hands : Nat) {p q : Option Nat} (h : plLe p q) (way : List (List Comer)) : ∀ i, insAt hands p way i ≤ insAt hands q way i ∧ lossAt hands q way i + insAt hands q way i ≤ lossAt hands p way i + insAt hands p way i
  | 0 => ⟨Nat.le_refl _, Nat.le_refl _⟩
  | i + 1 => by
    obtain ⟨h1, h2⟩ := widerIns hands h way i
    have cm := capMono h (Nat.add_le_add_right h1 (way.getD i []).length)
    have l1 := capAll_le p (insAt hands p way i + (way.getD i []).length)
    have l2 := capAll_le q (insAt hands q way i + (way.getD i []).length)
    refine ⟨?_, ?_⟩
    · show capAll p _ - hands ≤ capAll q _ - hands
      omega
    · show lossAt hands q way i + (insAt hands q way i + _) - capAll q (insAt hands q way i + _) + (capAll q (insAt hands q way i + _) - hands) ≤ lossAt hands p way i + (insAt hands p way i + _) - capAll p (insAt hands p way i + _) + (capAll p (insAt hands p way i + _) - hands)
      omega
theorem busierIns {h1 h2 : Nat} (h : h1 ≤ h2) (p : Option Nat) (way : List (List Comer)) : ∀ i, insAt h2 p way i ≤ insAt h1 p way i ∧ lossAt h2 p way i ≤ lossAt h1 p way i
  | 0 => ⟨Nat.le_refl _, Nat.le_refl _⟩
  | i + 1 => by
    obtain ⟨a1, a2⟩ := busierIns h p way i
    have key : ∀ m n : Nat, m ≤ n → capAll p m ≤ capAll p n ∧ m - capAll p m ≤ n - capAll p n := by
      intro m n e
      cases p with
      | none => exact ⟨e, by show m - m ≤ n - n; omega⟩
      | some q =>
        refine ⟨?_, ?_⟩
        · show min m q ≤ min n q
          omega
        · show m - min m q ≤ n - min n q
          omega
    obtain ⟨k1, k2⟩ := key _ _ (Nat.add_le_add_right a1 (way.getD i []).length)
    have l1 := capAll_le p (insAt h1 p way i + (way.getD i []).length)
    have l2 := capAll_le p (insAt h2 p way i + (way.getD i []).length)
    refine ⟨?_, ?_⟩
    · show capAll p _ - h2 ≤ capAll p _ - h1
      omega
    · show lossAt h2 p way i + (insAt h2 p way i + _) - capAll p (insAt h2 p way i + _) ≤ lossAt h1 p way i + (insAt h1 p way i + _) - capAll p (insAt h1 p way i + _)
      omega
def Two (H : Hp) (v : V) (n : Nat) (f g : Nat → Nat) : Prop := ∃ t l1 l2, v = .ref t ∧ H t = some (.tup [.ref l1, .ref l2]) ∧ H l1 = some (.lst ((List.range n).map fun i => V.int (f i))) ∧ H l2 = some (.lst ((List.range n).map fun i => V.int (g i)))
theorem Two.kp {H H' : Hp} {v : V} {n : Nat} {f g : Nat → Nat} (h : Two H v n f g) (k : Kp Non H H') : Two H' v n f g := by
  obtain ⟨t, l1, l2, e, a, b, c⟩ := h
  exact ⟨t, l1, l2, e, k.same _ _ (fun z => z) a, k.same _ _ (fun z => z) b, k.same _ _ (fun z => z) c⟩
theorem Two.ext {H : Hp} {v : V} {n : Nat} {f g f' g' : Nat → Nat} (h : Two H v n f g) (e1 : ∀ i < n, f i = f' i) (e2 : ∀ i < n, g i = g' i) : Two H v n f' g' := by
  obtain ⟨t, l1, l2, e, a, b, c⟩ := h
  refine ⟨t, l1, l2, e, a, ?_, ?_⟩
  · rw [b]; exact congrArg (fun z => some (HO.lst z)) (List.map_congr_left fun i hi => by rw [e1 i (List.mem_range.mp hi)])
  · rw [c]; exact congrArg (fun z => some (HO.lst z)) (List.map_congr_left fun i hi => by rw [e2 i (List.mem_range.mp hi)])
def twoD (n : Nat) (f g : Nat → Nat) : PyData := .tuple [.list ((List.range n).map fun i => .int (f i)), .list ((List.range n).map fun i => .int (g i))]
theorem Two.dp {K : PySem.W.Frag} {H : Hp} {v : V} {n : Nat} {f g : Nat → Nat} (h : Two H v n f g) : Dp K H v (twoD n f g) := by
  obtain ⟨t, l1, l2, rfl, a, b, c⟩ := h
  have mk : ∀ (f : Nat → Nat) (l : List Nat), DpAll K H (l.map fun i => V.int (f i)) (l.map fun i => PyData.int (f i)) := by
    intro f l
    induction l with
    | nil => exact .nil
    | cons a r ih => exact .cons (.int _) ih
  exact .tup (.of a) (.cons (.lst (.of b) (mk f _)) (.cons (.lst (.of c) (mk g _)) .nil))
end Hw
namespace Hw
open PySem PySem.Spec PyProof.Rows L2
local macro_rules | `(tactic| walk_at "rd1") => `(tactic| with_reducible first
  | refine' sSeq ?_ | refine' sAsg ?_ | refine' sRet ?_ | refine' sIfS ?_ | refine' sDrop ?_ | refine' sNext ?_ | refine' sRetN ?_ | refine' sBreak ?_ | refine' sCont ?_
  | (refine' sVar ?e ?_; (case e => with_unfolding_all rfl)) | refine' sC ?_ | refine' sOp ?_ | refine' sUn ?_ | refine' sU ?_ | refine' sI0 ?_
  | refine' sEqI ?_ | refine' sNeI ?_ | refine' sEqS ?_ | refine' sNeS ?_ | refine' sEqB ?_ | refine' sNeB ?_
  | (refine' sI ?c ?_; (case c => first | assumption | (with_unfolding_all decide) | (with_unfolding_all exact ⟨by omega, by omega⟩) | (show _ ≠ (0 : Int); omega)))
  | refine' sCB ?_ | refine' sCons ?_ | refine' sNil ?_ | refine' sTest ?_ | refine' sB ?_ | refine' sBl ?_
  | refine' sAnd ?_ | refine' sOr ?_ | refine' sNot ?_ | refine' sAndV ?_ | refine' sOrV ?_ | refine' sNotV ?_ | refine' sIf ?_ | refine' sName ?_
  | refine' sDPut' ?_ | refine' sDGet ?_ | refine' sPar3 ?_ | refine' sPar ?_ | refine' sThree ?_ | refine' sTwo ?_ | refine' sSl ?_ | refine' sPart ?_ | refine' sNoPart ?_ | refine' sInt ?_
  | refine' sIsN ?_ | refine' sNotN ?_ | refine' sMin ?_ | refine' sMax ?_ | refine' sTupG ?_ | refine' sLstG ?_ | refine' sLcL ?_ | refine' sLcT ?_ | refine' sLcR ?_ | refine' sForL ?_ | refine' sForT ?_ | refine' sForR ?_ | refine' sLcR2 ?_ | refine' sForR2 ?_ | refine' sForET ?_ | refine' sForEL ?_ | refine' sLcEL ?_ | refine' sLcET ?_ | refine' sPairC ?_ | refine' sPairN ?_ | refine' sDNew ?_ | refine' sLstRg ?_ | refine' sYes ?_ | refine' sBM ?_ | refine' sBM0 ?_ | (refine' sTy ?h ?_; (case h => assumption)) | refine' sRevT ?_ | refine' sGCons ?_ | refine' sGNil ?_ | refine' sGSub ?_ | refine' sCall ?_ | refine' iteT ?_ | refine' iteF ?_
  | (refine' sLen ?l ?_; (case l => with_unfolding_all exact Nat.le_of_lt (small1000 (Nat.le_of_ble_eq_true rfl)))))
local macro_rules | `(tactic| walk_at "rd") => `(tactic| repeat walk_at "rd1")
def topS (i : Nat) : Stmt := PySem.Challenge.pw_hatchwaits_k97_whole_works_of_one.main.body.getD i (.Pass ⟨0, 0, 0, 0⟩)
abbrev s_p_keeps : Stmt := topS 2
abbrev N_p_keeps : List Str := ["rule"]
abbrev s_p_let_in : Stmt := topS 4
abbrev N_p_let_in : List Str := ["house", "stand", "beat", "places", "inside", "lost", "rank", "work"]
abbrev s_p_turn_of : Stmt := topS 5
abbrev N_p_turn_of : List Str := ["rule", "stand", "place", "rank", "left", "begun", "own"]
abbrev s_p_picked : Stmt := topS 6
abbrev N_p_picked : List Str := ["house", "stand", "hands", "places", "rule", "line", "place", "turn"]
abbrev s_p_step : Stmt := topS 7
abbrev N_p_step : List Str := ["house", "stand", "beat", "rule", "inside", "lost", "some", "kept", "behind", "gone", "place", "rank", "left", "begun"]
abbrev s_p_run : Stmt := topS 9
abbrev N_p_run : List Str := ["house", "way", "stand", "stands", "lost", "gone", "beat", "behind", "missed", "left"]
abbrev s_q_tape : Stmt := topS 11
abbrev N_q_tape : List Str := ["_law_script"]
abbrev s_q_next : Stmt := topS 12
abbrev N_q_next : List Str := ["_law_tape_here", "_law_many", "_law_digit", "_law_cell", "_law_mixed"]
abbrev s_q_rule : Stmt := topS 13
abbrev N_q_rule : List Str := ["_law_tape_here"]
abbrev s_q_way : Stmt := topS 14
abbrev N_q_way : List Str := ["_law_tape_here", "_law_found", "_law_left", "_law_k", "_law_many", "_law_j"]
abbrev s_q_counts : Stmt := topS 15
abbrev N_q_counts : List Str := ["_law_house", "_law_way_here", "_law_hands", "_law_places", "_law_inside", "_law_lost", "_law_beat", "_law_many", "_law_kept"]
abbrev s_q_told : Stmt := topS 16
abbrev N_q_told : List Str := ["_law_house", "_law_way_here", "_law_stands", "_law_lost", "_law_gone", "_law_so_far", "_law_many", "_law_stand"]
abbrev s_law : Stmt := topS 17
abbrev N_law : List Str := ["_law_script", "_law_tape_here", "_law_hands", "_law_places", "_law_one", "_law_wider", "_law_busier", "_law_way_here", "_law_told_here", "_law_house", "_law_k"]
structure Txt (K : PySem.W.Frag) (mg : Str → Option Value) where
  f_p_keeps : Addr
  fd_p_keeps : FuncData
  F_p_keeps : Fun K "keeps" "keeps" s_p_keeps f_p_keeps fd_p_keeps
  m_p_keeps : mg "keeps" = some (.ref f_p_keeps)
  b_p_keeps : Binds K fd_p_keeps ["rule"] []
  f_p_let_in : Addr
  fd_p_let_in : FuncData
  F_p_let_in : Fun K "let_in" "let_in" s_p_let_in f_p_let_in fd_p_let_in
  m_p_let_in : mg "let_in" = some (.ref f_p_let_in)
  b_p_let_in : Binds K fd_p_let_in ["house", "stand", "beat"] []
  f_p_turn_of : Addr
  fd_p_turn_of : FuncData
  F_p_turn_of : Fun K "turn_of" "turn_of" s_p_turn_of f_p_turn_of fd_p_turn_of
  m_p_turn_of : mg "turn_of" = some (.ref f_p_turn_of)
  b_p_turn_of : Binds K fd_p_turn_of ["rule", "stand", "place"] []
  f_p_picked : Addr
  fd_p_picked : FuncData
  F_p_picked : Fun K "picked" "picked" s_p_picked f_p_picked fd_p_picked
  m_p_picked : mg "picked" = some (.ref f_p_picked)
  b_p_picked : Binds K fd_p_picked ["house", "stand"] []
  f_p_step : Addr
  fd_p_step : FuncData
  F_p_step : Fun K "step" "step" s_p_step f_p_step fd_p_step
  m_p_step : mg "step" = some (.ref f_p_step)
  b_p_step : Binds K fd_p_step ["house", "stand", "beat"] []
  f_p_run : Addr
  fd_p_run : FuncData
  F_p_run : Fun K "run" "run" s_p_run f_p_run fd_p_run
  m_p_run : mg "run" = some (.ref f_p_run)
  b_p_run : Binds K fd_p_run ["house", "way", "stand"] []
  f_q_tape : Addr
  fd_q_tape : FuncData
  F_q_tape : Fun K "_law_tape" "_law_tape" s_q_tape f_q_tape fd_q_tape
  m_q_tape : mg "_law_tape" = some (.ref f_q_tape)
  b_q_tape : Binds K fd_q_tape ["_law_script"] []
  f_q_next : Addr
  fd_q_next : FuncData
  F_q_next : Fun K "_law_next" "_law_next" s_q_next f_q_next fd_q_next
  m_q_next : mg "_law_next" = some (.ref f_q_next)
  b_q_next : Binds K fd_q_next ["_law_tape_here", "_law_many"] []
  f_q_rule : Addr
  fd_q_rule : FuncData
  F_q_rule : Fun K "_law_rule" "_law_rule" s_q_rule f_q_rule fd_q_rule
  m_q_rule : mg "_law_rule" = some (.ref f_q_rule)
  b_q_rule : Binds K fd_q_rule ["_law_tape_here"] []
  f_q_way : Addr
  fd_q_way : FuncData
  F_q_way : Fun K "_law_way" "_law_way" s_q_way f_q_way fd_q_way
  m_q_way : mg "_law_way" = some (.ref f_q_way)
  b_q_way : Binds K fd_q_way ["_law_tape_here"] []
  f_q_counts : Addr
  fd_q_counts : FuncData
  F_q_counts : Fun K "_law_counts" "_law_counts" s_q_counts f_q_counts fd_q_counts
  m_q_counts : mg "_law_counts" = some (.ref f_q_counts)
  b_q_counts : Binds K fd_q_counts ["_law_house", "_law_way_here"] []
  f_q_told : Addr
  fd_q_told : FuncData
  F_q_told : Fun K "_law_told" "_law_told" s_q_told f_q_told fd_q_told
  m_q_told : mg "_law_told" = some (.ref f_q_told)
  b_q_told : Binds K fd_q_told ["_law_house", "_law_way_here"] []
  f_law : Addr
  fd_law : FuncData
  F_law : Fun K "law" "law" s_law f_law fd_law
  m_law : mg "law" = some (.ref f_law)
  b_law : Binds K fd_law ["_law_script"] []
  z_tuple : mg "tuple" = none
  z_len : mg "len" = none
  z_list : mg "list" = none
  z_int : mg "int" = none
  z_sorted : mg "sorted" = none
  z_range : mg "range" = none
  z_enumerate : mg "enumerate" = none
  z_min : mg "min" = none
  z_max : mg "max" = none
  g_KEEPING : Addr
  m_KEEPING : mg "KEEPING" = some (.ref g_KEEPING)
  r_KEEPING : RelV (.ref g_KEEPING) (.ref g_KEEPING)
  t_KEEPING : ∀ H : Hp, SqT K H g_KEEPING [(V.str "first"), (V.str "last"), (V.str "short"), (V.str "front")]
section
variable {P : Program} {w : World} {K : PySem.W.Frag} {mg : Str → Option Value} {base : Heap}
def sp_p_keeps (K : PySem.W.Frag) : Sp := fun vs H Q _ => ∃ (w : Str), vs = [.str w] ∧ Q (.bl (keepW w)) H
theorem sc_p_keeps : FnScope N_p_keeps ["rule"] (defScope s_p_keeps) := ⟨rfl, rfl, rfl, by decide +kernel, rfl, by decide +kernel, by decide +kernel⟩
theorem ok_p_keeps (T : Txt K mg) : FnOk P w K mg base CX0 1 T.f_p_keeps T.fd_p_keeps ["rule"] (sp_p_keeps K) := by
  refine T.F_p_keeps.ok sc_p_keeps (fun vs H Q E h => ?_) (fun cdv A out s H vs Q E hr h => ?_)
  · obtain ⟨w, rfl, q⟩ := h
    rfl
  · obtain ⟨w, rfl, q⟩ := h
    have hu := hu_of hr
    have hu1 : (A.deeper (envOfC "keeps" (defScope s_p_keeps) s.heap.objs.size T.f_p_keeps cdv)).units + 160 < cLine := by have := hr.un; omega
    refine ⟨_, (pss_one (ps_ret (pe_cmpR (show OpR _ _ (rIn K false) from op_in_seq) (pv 0) (pe_glob rfl T.m_KEEPING T.r_KEEPING) (by rfl)))), ?_⟩
    walk_at "rd"
    refine sInTS (ws := keep4) (T.t_KEEPING H) ?_
    walk_at "rd"
    exact q

def sp_p_let_in (K : PySem.W.Frag) : Sp := fun vs H Q _ => ∃ (hv sv bv : V) (h : House) (st : List Person) (bt : List Comer), vs = [hv, sv, bv] ∧ TD K H hv h.d ∧ TD K H sv (standD st) ∧ TD K H bv (beatD bt) ∧
  st.length + bt.length ≤ 1000 ∧ ∀ v H', Kp Non H H' → TD K H' v (.tuple [standD (letIn h.places st bt).1, .int (letIn h.places st bt).2]) → Q v H'
theorem sc_p_let_in : FnScope N_p_let_in ["house", "stand", "beat"] (defScope s_p_let_in) := ⟨rfl, rfl, rfl, by decide +kernel, rfl, by decide +kernel, by decide +kernel⟩
theorem ok_p_let_in (T : Txt K mg) : FnOk P w K mg base CX0 1 T.f_p_let_in T.fd_p_let_in ["house", "stand", "beat"] (sp_p_let_in K) := by
  refine T.F_p_let_in.ok sc_p_let_in (fun vs H Q E h => ?_) (fun cdv A out s H vs Q E hr h => ?_)
  · obtain ⟨hv, sv, bv, h, st, bt, rfl, hh, hs, hb, hl, q⟩ := h
    rfl
  · obtain ⟨hv, sv, bv, h, st, bt, rfl, hh, hs, hb, hl, q⟩ := h
    have hu := hu_of hr
    have hu1 : (A.deeper (envOfC "let_in" (defScope s_p_let_in) s.heap.objs.size T.f_p_let_in cdv)).units + 160 < cLine := by have := hr.un; omega
    refine ⟨_, (pss_cons (ps_set (i := 3) sc_p_let_in.nd rfl (Or.inl rfl) (pe_ix (show IxR _ (rIxT K) from ix_tup) (pv 0) pe_int (fun _ _ => rfl)))
    (pss_cons (ps_set (i := 4) sc_p_let_in.nd rfl (Or.inl rfl) (pe_callTy (show CallR _ _ (rListG K) from call_listG) (by rfl) T.z_list (by decide +kernel) (pa_cons (pv 1) pa_nil)))
    (pss_cons (ps_set (i := 5) sc_p_let_in.nd rfl (Or.inl rfl) pe_int)
    (pss_cons (ps_for PassesOwn.never rfl (show PI _ _ _ (iTup K _) from pi_tup (pv 2)) (show PG _ _ (gTup K 2 _) from pg_tup rfl (pgs_cons (pg_name (i := 6) sc_p_let_in.nd rfl (Or.inl rfl)) (pgs_cons (pg_name (i := 7) sc_p_let_in.nd rfl (Or.inl rfl)) pgs_nil)))
      (pss_one (ps_if (PW.pt (pw_or (pt_cmpR op_isNG (pv 3) pe_non (nomark _)) (pw_or1 (pt_cmpR op_lt (pe_callB (show CallR _ _ (rLenG K) from call_lenG) (by rfl) T.z_len (by decide +kernel) (pa_cons (pv 4) pa_nil)) (pv 3) (nomark _)))))
      (pss_one (ps_expr (show PE _ _ (tBM K "list" rAppG _ _) from pe_bm PySem.F.plainAttrs_list PySem.F.slot_list_append PySem.F.type_list_append mt_appendG (pv 4) (pa_cons (pe_tupG (pa_cons (pv 6) (pa_cons (pv 7) (pa_cons pe_bl pa_nil)))) pa_nil))))
      (pss_one (ps_set (i := 5) sc_p_let_in.nd rfl (Or.inl rfl) (pe_op op_add (pv 5) pe_int))))))
    (pss_one (ps_ret (pe_tupG (pa_cons (pe_callTy (show CallR _ _ (rTupG K) from call_tupleG) (by rfl) T.z_tuple (by decide +kernel) (pa_cons (pv 4) pa_nil)) (pa_cons (pv 5) pa_nil))))))))), ?_⟩
    obtain ⟨t, rfl, hT⟩ := hh.house
    obtain ⟨u, xs, rfl, hU, hX⟩ := hs.stand
    obtain ⟨b, zs, rfl, hB, hZ⟩ := hb.ref
    have hzl : zs.length = bt.length := hZ.lenMap
    walk_at "rd"
    refine sIxT hT (atI_nat (j := 1) rfl) ?_
    walk_at "rd"
    refine sListT hU fun p H1 e1 n1 z1 => ?_
    walk_at "rd"
    refine forTup (xs := zs) (fun i σ H' => ∃ ys r w, σ = [some (.ref t), some (.ref u), some (.ref b), some (optV h.places), some (.ref p), some (.int ((i - cap h.places st.length i : Nat) : Int)), r, w] ∧
      H' p = some (.lst ys) ∧ TDs K H' ys ((st ++ (bt.take (cap h.places st.length i)).map Comer.p).map Person.d) ∧ Kp Non H H') (fun i σ H' ⟨ys, r, w, _, _, _, k⟩ => k.sqT hB) ?_ ?_ ?_
    · refine ⟨xs, none, none, ?_, z1, ?_, e1⟩
      · show [_, _, _, _, _, some (V.int 0), none, none] = [_, _, _, _, _, some (V.int ((0 - cap h.places st.length 0 : Nat) : Int)), none, none]
        rw [Nat.zero_sub]; rfl
      · have : cap h.places st.length 0 = 0 := Nat.le_zero.mp (cap_le _ _ _)
        rw [this]
        simpa using hX.kp e1
    · rintro i x σ H2 hx ⟨ys, r, w, rfl, z2, hY, k2⟩
      have hi : i < bt.length := by
        have := (List.getElem?_eq_some_iff.mp hx).1
        omega
      obtain ⟨c, hc, hx'⟩ := hZ.of hx
      obtain ⟨m, rfl, hM⟩ := (hx'.kp k2).comer
      have hyl : ys.length = st.length + cap h.places st.length i := by
        rw [hY.lenMap, List.length_append, List.length_map, List.length_take]
        have := cap_le h.places st.length i
        omega
      refine sGTup hM rfl ?_
      walk_at "rd"
      refine sOrK (fun z H' => H' = H2 ∧ cap h.places st.length (i + 1) = cap h.places st.length i + (if z = true then 1 else 0)) (fun F hF => ?_) ?_
      · cases e : h.places with
        | none =>
          refine iteT ?_
          exact hF _ _ ⟨rfl, by rw [e]; rfl⟩
        | some n =>
          refine iteF ?_
          walk_at "rd"
          refine sLenL (.of z2) ?_
          walk_at "rd"
          refine sI0 (j := n) ?_
          walk_at "rd"
          refine hF _ _ ⟨rfl, ?_⟩
          rw [hyl, e]
          show min (i + 1) (n - st.length) = min i (n - st.length) + (if decide (((st.length + min i (n - st.length) : Nat) : Int) < (n : Int)) = true then 1 else 0)
          by_cases hlt : st.length + min i (n - st.length) < n
          · rw [if_pos (decide_eq_true (by omega))]; omega
          · rw [if_neg (by simp; omega)]; omega
      · rintro z _ ⟨rfl, hcap⟩
        have hle := cap_le h.places st.length i
        have hle2 := cap_le h.places st.length (i + 1)
        cases z with
        | true =>
          rw [if_pos rfl] at hcap
          refine iteT ?_
          walk_at "rd"
          intro y H3 e3 ny z3
          walk_at "rd"
          have z2' := e3.same _ _ (fun z => z) z2
          refine sApp z2' (small1000 (by omega)) fun H4 e4 z4 => ?_
          walk_at "rd"
          have k3 := k2.trans e3
          have hci : cap h.places st.length i = i := by
            cases e : h.places with
            | none => rfl
            | some n =>
              rw [e] at hcap
              have hcap : min (i + 1) (n - st.length) = min i (n - st.length) + 1 := hcap
              show min i (n - st.length) = i
              omega
          refine ⟨ys ++ [.ref y], some (.int c.rank), some (.int c.work), ?_, z4, ?_, ?_⟩
          · show [some (V.ref t), some (V.ref u), some (V.ref b), some (optV h.places), some (V.ref p), some (V.int ((i - cap h.places st.length i : Nat) : Int)), some (V.int c.rank), some (V.int c.work)] = [some (V.ref t), some (V.ref u), some (V.ref b), some (optV h.places), some (V.ref p), some (V.int ((i + 1 - cap h.places st.length (i + 1) : Nat) : Int)), some (V.int c.rank), some (V.int c.work)]
            rw [show i + 1 - cap h.places st.length (i + 1) = i - cap h.places st.length i by omega]
          · have el : (st ++ (bt.take (i + 1)).map Comer.p).map Person.d = (st ++ (bt.take i).map Comer.p).map Person.d ++ [c.p.d] := by
              rw [List.take_add_one, hc]; simp
            rw [hcap, hci, el]
            rw [hci] at hY
            exact ((hY.kp e3).kp e4).append (.cons (TD.mkPerson (p := c.p) (.of (e4.tups _ _ z3))) .nil)
          · refine Kp.drop (p := p) ((k3.wide fun b z => z.elim).trans (e4.wide fun b z => .inl z)) n1
        | false =>
          rw [if_neg Bool.false_ne_true] at hcap
          refine iteF ?_
          walk_at "rd"
          refine ⟨ys, some (.int c.rank), some (.int c.work), ?_, z2, by rw [hcap]; exact hY, k2⟩
          show [some (V.ref t), some (V.ref u), some (V.ref b), some (optV h.places), some (V.ref p), some (V.int (((i - cap h.places st.length i : Nat) : Int) + 1)), some (V.int c.rank), some (V.int c.work)] = [some (V.ref t), some (V.ref u), some (V.ref b), some (optV h.places), some (V.ref p), some (V.int ((i + 1 - cap h.places st.length (i + 1) : Nat) : Int)), some (V.int c.rank), some (V.int c.work)]
          rw [hcap, show ((i + 1 - (cap h.places st.length i + 0) : Nat) : Int) = ((i - cap h.places st.length i : Nat) : Int) + 1 by omega]
    · rintro σ H2 ⟨ys, r, w, rfl, z2, hY, k2⟩
      walk_at "rd"
      refine sTupL (.of z2) fun l H3 e3 z3 => ?_
      walk_at "rd"
      intro y H4 e4 ny z4
      refine q (.ref y) H4 ((k2.trans e3).trans e4) (.tup (.of z4) (.cons (.tup (e4.sqT z3) ?_) (.cons ?_ .nil)))
      · rw [hzl] at hY
        exact (hY.kp e3).kp e4
      · rw [hzl]
        exact .int _

def sp_p_turn_of (K : PySem.W.Frag) : Sp := fun vs H Q _ => ∃ (w : Str) (sv : V) (st : List Person) (i : Nat) (p : Person), vs = [.str w, sv, .int i] ∧ TD K H sv (standD st) ∧ st[i]? = some p ∧
  ∀ v H', Kp Non H H' → TD K H' v (.tuple [.int (if p.begun then 0 else 1), .int (key2 w p i).1, .int (key2 w p i).2]) → Q v H'
theorem sc_p_turn_of : FnScope N_p_turn_of ["rule", "stand", "place"] (defScope s_p_turn_of) := ⟨rfl, rfl, rfl, by decide +kernel, rfl, by decide +kernel, by decide +kernel⟩
theorem ok_p_turn_of (T : Txt K mg) : FnOk P w K mg base CX0 1 T.f_p_turn_of T.fd_p_turn_of ["rule", "stand", "place"] (sp_p_turn_of K) := by
  refine T.F_p_turn_of.ok sc_p_turn_of (fun vs H Q E h => ?_) (fun cdv A out s H vs Q E hr h => ?_)
  · obtain ⟨w, sv, st, i, p, rfl, hs, hi, q⟩ := h
    rfl
  · obtain ⟨w, sv, st, i, p, rfl, hs, hi, q⟩ := h
    have hu := hu_of hr
    have hu1 : (A.deeper (envOfC "turn_of" (defScope s_p_turn_of) s.heap.objs.size T.f_p_turn_of cdv)).units + 160 < cLine := by have := hr.un; omega
    refine ⟨_, (pss_cons (ps_asg (pe_ix (show IxR _ (rIxT K) from ix_tup) (pv 1) (pv 2) (fun _ _ => rfl)) (show PG _ _ (gTup K 3 _) from pg_tup rfl (pgs_cons (pg_name (i := 3) sc_p_turn_of.nd rfl (Or.inl rfl)) (pgs_cons (pg_name (i := 4) sc_p_turn_of.nd rfl (Or.inl rfl)) (pgs_cons (pg_name (i := 5) sc_p_turn_of.nd rfl (Or.inl rfl)) pgs_nil)))))
    (pss_cons (ps_set (i := 6) sc_p_turn_of.nd rfl (Or.inl rfl) (pe_tupG (pa_cons (pv 2) (pa_cons pe_int pa_nil))))
    (pss_cons (ps_if (PW.pt (pw_or (pt_cmpR op_eq (pv 0) pe_str (nomark _)) (pw_or1 (pt_cmpR op_eq (pv 0) pe_str (nomark _)))))
      (pss_one (ps_set (i := 6) sc_p_turn_of.nd rfl (Or.inl rfl) (pe_tupG (pa_cons (pe_op op_sub pe_int (pv 2)) (pa_cons pe_int pa_nil)))))
      pss_nil)
    (pss_cons (ps_if (PW.pt (pw_or (pt_cmpR op_eq (pv 0) pe_str (nomark _)) (pw_or1 (pt_cmpR op_eq (pv 0) pe_str (nomark _)))))
      (pss_one (ps_set (i := 6) sc_p_turn_of.nd rfl (Or.inl rfl) (pe_tupG (pa_cons (pv 4) (pa_cons (pv 2) pa_nil)))))
      pss_nil)
    (pss_cons (ps_if (PW.pt (pw_or (pt_cmpR op_eq (pv 0) pe_str (nomark _)) (pw_or1 (pt_cmpR op_eq (pv 0) pe_str (nomark _)))))
      (pss_one (ps_set (i := 6) sc_p_turn_of.nd rfl (Or.inl rfl) (pe_tupG (pa_cons (pv 3) (pa_cons (pv 2) pa_nil)))))
      pss_nil)
    (pss_one (ps_ret (pe_op (show OpR _ _ (rCatG K) from op_catG) (pe_tupG (pa_cons (pe_callTy call_int1 (by rfl) T.z_int (by decide +kernel) (pa_cons (pe_not (pv 5)) pa_nil)) pa_nil)) (pv 6))))))))), ?_⟩
    obtain ⟨u, xs, rfl, hU, hX⟩ := hs.stand
    obtain ⟨x, hx, hx2⟩ : ∃ x, xs[i]? = some x ∧ TD K H x p.d := hX.at (by rw [List.getElem?_map, hi]; rfl)
    obtain ⟨t, rfl, hT⟩ := hx2.person
    walk_at "rd"
    refine sIxT hU (atI_nat hx) ?_
    walk_at "rd"
    refine sGTup hT rfl ?_
    walk_at "rd"
    intro o1 H1 e1 n1 z1
    walk_at "rd"
    refine sOrK (fun c H' => H' = H1 ∧ c = decide (w = "last" ∨ w = "lastoff")) (fun F hF => ?_) ?_
    · by_cases z : w = "last"
      · rw [if_pos (decide_eq_true z)]
        exact hF _ _ ⟨rfl, by simp [z]⟩
      · rw [if_neg (by simp [z])]
        walk_at "rd"
        exact hF _ _ ⟨rfl, by simp [z]⟩
    rintro _ _ ⟨rfl, rfl⟩
    refine sIfJ (fun σ H' => ∃ o a b, σ = [some (.str w), some (.ref u), some (.int i), some (.int p.rank), some (.int p.left), some (.bl p.begun), some (.ref o)] ∧ SqT K H' o [.int a, .int b] ∧ Kp Non H H' ∧
      (a, b) = if w = "last" ∨ w = "lastoff" then ((0 - i : Int), (0 : Int)) else ((i : Int), 0)) (fun F' hF' => ?_) ?_
    · refine ifD (fun z => ?_) (fun z => ?_)
      · walk_at "rd"
        intro o2 H2 e2 n2 z2
        walk_at "rd"
        exact hF' _ _ ⟨o2, _, _, rfl, .of z2, e1.trans e2, by rw [if_pos z]⟩
      · walk_at "rd"
        exact hF' _ _ ⟨o1, _, _, rfl, .of z1, e1, by rw [if_neg z]⟩
    rintro _ H2 ⟨o, a, b, rfl, hO, k2, eab⟩
    walk_at "rd"
    refine sOrK (fun c H' => H' = H2 ∧ c = decide (w = "short" ∨ w = "shortoff")) (fun F hF => ?_) ?_
    · by_cases z : w = "short"
      · rw [if_pos (decide_eq_true z)]
        exact hF _ _ ⟨rfl, by simp [z]⟩
      · rw [if_neg (by simp [z])]
        walk_at "rd"
        exact hF _ _ ⟨rfl, by simp [z]⟩
    rintro _ _ ⟨rfl, rfl⟩
    refine sIfJ (fun σ H' => ∃ o a' b', σ = [some (.str w), some (.ref u), some (.int i), some (.int p.rank), some (.int p.left), some (.bl p.begun), some (.ref o)] ∧ SqT K H' o [.int a', .int b'] ∧ Kp Non H H' ∧
      (a', b') = if w = "short" ∨ w = "shortoff" then ((p.left : Int), (i : Int)) else (a, b)) (fun F' hF' => ?_) ?_
    · refine ifD (fun z => ?_) (fun z => ?_)
      · walk_at "rd"
        intro o3 H3 e3 n3 z3
        walk_at "rd"
        exact hF' _ _ ⟨o3, _, _, rfl, .of z3, k2.trans e3, by rw [if_pos z]⟩
      · walk_at "rd"
        exact hF' _ _ ⟨o, _, _, rfl, hO, k2, by rw [if_neg z]⟩
    rintro _ H3 ⟨o, a', b', rfl, hO, k3, eab2⟩
    walk_at "rd"
    refine sOrK (fun c H' => H' = H3 ∧ c = decide (w = "front" ∨ w = "frontoff")) (fun F hF => ?_) ?_
    · by_cases z : w = "front"
      · rw [if_pos (decide_eq_true z)]
        exact hF _ _ ⟨rfl, by simp [z]⟩
      · rw [if_neg (by simp [z])]
        walk_at "rd"
        exact hF _ _ ⟨rfl, by simp [z]⟩
    rintro _ _ ⟨rfl, rfl⟩
    refine sIfJ (fun σ H' => ∃ o a'' b'', σ = [some (.str w), some (.ref u), some (.int i), some (.int p.rank), some (.int p.left), some (.bl p.begun), some (.ref o)] ∧ SqT K H' o [.int a'', .int b''] ∧ Kp Non H H' ∧
      (a'', b'') = if w = "front" ∨ w = "frontoff" then ((p.rank : Int), (i : Int)) else (a', b')) (fun F' hF' => ?_) ?_
    · refine ifD (fun z => ?_) (fun z => ?_)
      · walk_at "rd"
        intro o4 H4 e4 n4 z4
        walk_at "rd"
        exact hF' _ _ ⟨o4, _, _, rfl, .of z4, k3.trans e4, by rw [if_pos z]⟩
      · walk_at "rd"
        exact hF' _ _ ⟨o, _, _, rfl, hO, k3, by rw [if_neg z]⟩
    rintro _ H4 ⟨o, a'', b'', rfl, hO, k4, eab3⟩
    have ek : key2 w p i = (a'', b'') := by
      rw [eab3, eab2, eab]
      rfl
    walk_at "rd"
    refine .inr ⟨_, rfl, ?_⟩
    walk_at "rd"
    intro y H5 e5 n5 z5
    walk_at "rd"
    refine sCat (.of z5) (e5.sqT hO) (by show 3 ≤ 1000; decide) fun r H6 e6 hr => ?_
    refine q _ _ ((k4.trans e5).trans e6) (.tup hr ?_)
    rw [ek]
    have eb : (if (!p.begun) = true then (1 : Int) else 0) = if p.begun = true then 0 else 1 := by cases p.begun <;> rfl
    rw [← eb]
    exact .cons (.int _) (.cons (.int _) (.cons (.int _) .nil))

def sp_p_picked (K : PySem.W.Frag) : Sp := fun vs H Q _ => ∃ (hv sv : V) (h : House) (st : List Person), vs = [hv, sv] ∧ TD K H hv h.d ∧ TD K H sv (standD st) ∧ st.length ≤ 1000 ∧
  ∀ v H', Kp Non H H' → TD K H' v (natsD (picks h.hands h.rule st)) → Q v H'
theorem sc_p_picked : FnScope N_p_picked ["house", "stand"] (defScope s_p_picked) := ⟨rfl, rfl, rfl, by decide +kernel, rfl, by decide +kernel, by decide +kernel⟩
theorem ok_p_picked (T : Txt K mg) : FnOk P w K mg base CX0 2 T.f_p_picked T.fd_p_picked ["house", "stand"] (sp_p_picked K) := by
  refine T.F_p_picked.ok sc_p_picked (fun vs H Q E h => ?_) (fun cdv A out s H vs Q E hr h => ?_)
  · obtain ⟨hv, sv, h, st, rfl, hh, hs, hl, q⟩ := h
    rfl
  · obtain ⟨hv, sv, h, st, rfl, hh, hs, hl, q⟩ := h
    have hu := hu_of hr
    have hu1 : (A.deeper (envOfC "picked" (defScope s_p_picked) s.heap.objs.size T.f_p_picked cdv)).units + 160 < cLine := by have := hr.un; omega
    refine ⟨_, (pss_cons (ps_asg (pv 0) (show PG _ _ (gTup K 3 _) from pg_tup rfl (pgs_cons (pg_name (i := 2) sc_p_picked.nd rfl (Or.inl rfl)) (pgs_cons (pg_name (i := 3) sc_p_picked.nd rfl (Or.inl rfl)) (pgs_cons (pg_name (i := 4) sc_p_picked.nd rfl (Or.inr rfl)) pgs_nil)))))
    (pss_cons (ps_set (i := 5) sc_p_picked.nd rfl (Or.inl rfl) (pe_callB (show CallR _ _ (rSortD K) from (cr_sortD hu1)) (by rfl) T.z_sorted (by decide +kernel) (pa_cons (pe_lc (own := [("place", 6)]) (g := (gName 6)) (tt := tYes) rfl sc_p_picked.nd (pi_range1 rfl T.z_range (pa_cons (pe_callB (show CallR _ _ (rLenG K) from call_lenG) (by rfl) T.z_len (by decide +kernel) (pa_cons (pv 1) pa_nil)) pa_nil)) (blkOk_by (N := N_p_picked) (sc := defScope s_p_picked) (by decide +kernel)) (fun _ _ _ _ _ => (pg_name (i := 6) sc_p_picked.nd rfl (Or.inl rfl))) (fun _ _ _ _ _ => pts_nil) (fun _ _ _ _ _ => (pe_tupG (pa_cons (pe_call (ok_p_turn_of T) (hr.mono (by decide)) (by rfl) T.m_p_turn_of T.F_p_turn_of.kp T.b_p_turn_of .nil pass0 (pa_cons (pv 4) (pa_cons (pv 1) (pa_cons (pv 6) pa_nil)))) (pa_cons (pv 6) pa_nil))))) pa_nil)))
    (pss_one (ps_ret (pe_callTy (show CallR _ _ (rTupG K) from call_tupleG) (by rfl) T.z_tuple (by decide +kernel) (pa_cons (pe_callB (show CallR _ _ (rSortD K) from (cr_sortD hu1)) (by rfl) T.z_sorted (by decide +kernel) (pa_cons (pe_lc (own := [("turn", 7), ("place", 6)]) (g := (gTup K 2 (gCons (gName 7) (gCons (gName 6) gNil)))) (tt := tYes) rfl sc_p_picked.nd (show PI _ _ _ (iList K _) from pi_list (pe_slice (show SlR _ (rSlLG K) from sl_listG) (pv 5) po_none (po_some (pv 2)))) (blkOk_by (N := N_p_picked) (sc := defScope s_p_picked) (by decide +kernel)) (fun _ _ _ _ _ => (show PG _ _ (gTup K 2 _) from pg_tup rfl (pgs_cons (pg_name (i := 7) sc_p_picked.nd rfl (Or.inl rfl)) (pgs_cons (pg_name (i := 6) sc_p_picked.nd rfl (Or.inl rfl)) pgs_nil)))) (fun _ _ _ _ _ => pts_nil) (fun _ _ _ _ _ => (pv 6))) pa_nil)) pa_nil)))))), ?_⟩
    obtain ⟨t, rfl, hT⟩ := hh.house
    obtain ⟨u, xs, rfl, hU, hX⟩ := hs.stand
    have hxl : xs.length = st.length := hX.lenMap
    walk_at "rd"
    refine sGTup hT rfl ?_
    walk_at "rd"
    refine sLenT hU ?_
    walk_at "rd"
    refine lcRange (S := Non) (n := st.length) (P := fun i ys H' => TDs K H' ys ((List.range i).map fun i => keyD h.rule (st.getD i p0) i)) (by omega) (by omega) (by omega) (fun b z => z.elim) (fun _ _ => .nil) (fun D nD i ys H6 H7 h k => h.kp k) ?_ ?_
    · rintro i hi D ys H1 Z k1 hY keep skip
      walk_at "rd"
      refine ⟨rfl, ?_⟩
      walk_at "rd"
      have hp : st[i]? = some st[i] := List.getElem?_eq_getElem hi
      refine ⟨h.rule, .ref u, st, i, st[i], by rw [Int.zero_add]; rfl, hs.kp k1, hp, fun v H2 e2 hv => ?_⟩
      walk_at "rd"
      intro y H3 e3 n3 z3
      refine keep _ _ (e2.trans e3) ?_
      dsimp only
      rw [List.range_succ, List.map_append]
      refine ((hY.kp e2).kp e3).append (.cons (.tup (.of z3) (.cons ?_ (.cons ?_ .nil))) .nil)
      · rw [List.getD_eq_getElem?_getD, hp]
        exact hv.kp e3
      · rw [Int.zero_add]
        exact .int _
    · rintro D ys H1 hY hyl k1 nD zD
      walk_at "rd"
      refine sSortD (fun i => keyD h.rule (st.getD i p0) i) (List.range st.length) (.of zD) hY ?_ ?_ (fun b _ => by show (1 + 1 : Nat) ≤ 60; omega) fun p H2 zs e2 n2 z2 hZ => ?_
      · exact PySem.W.AllAlike.of fun b b' => by simp [PySem.W.alike, PySem.W.alikeAll, keyD]
      · exact PySem.W.Sortable.tuples fun b => ⟨_, _, rfl⟩
      generalize hM : (List.range st.length).mergeSort (PySem.W.dataLe false fun i => keyD h.rule (st.getD i p0) i) = M at hZ
      walk_at "rd"
      refine sSlL (.of z2) fun p3 H3 e3 n3 z3 => ?_
      rw [cutTake] at z3
      have hZ3 := hZ.kp e3
      have ml : M.length ≤ 1000 := by rw [← hM, List.length_mergeSort, List.length_range]; exact hl
      have zl : zs.length = M.length := hZ.lenMap
      refine lcList (S := Non) (P := fun i ys H' => TDs K H' ys ((M.take i).map fun n : Nat => PyData.int n)) (by rw [List.length_take]; exact Nat.le_of_lt (small1000 (by omega))) (.of z3) (fun z => z) (fun b z => z.elim) (fun _ _ => .nil) (fun D nD i ys H6 H7 h k => h.kp k) ?_ ?_
      · rintro i x hx D' ws H4 Z k4 hW keep skip
        have hi : i < h.hands := by
          have := (List.getElem?_eq_some_iff.mp hx).1
          rw [List.length_take] at this
          omega
        rw [List.getElem?_take_of_lt hi] at hx
        obtain ⟨m, hm, hx'⟩ := hZ3.of hx
        obtain ⟨r, y1, y2, rfl, hR, _, hy2⟩ := (hx'.kp k4).two
        rw [hy2.toInt] at hR
        refine sGTup hR rfl ?_
        walk_at "rd"
        refine ⟨rfl, ?_⟩
        walk_at "rd"
        refine keep _ _ Kp.refl ?_
        dsimp only
        rw [List.take_add_one, hm, List.map_append]
        exact hW.append (.cons (.int _) .nil)
      · rintro D' ws H4 hW hwl k4 nD' zD'
        have e5 : M.take (zs.take h.hands).length = M.take h.hands := by
          rw [List.length_take, zl]
          by_cases z : h.hands ≤ M.length
          · rw [Nat.min_eq_left z]
          · rw [Nat.min_eq_right (by omega), List.take_of_length_le (Nat.le_refl _), List.take_of_length_le (by omega)]
        rw [e5] at hW
        walk_at "rd"
        refine sSortN (M.take h.hands) (.of zD') hW fun p5 H5 vs e5 n5 z5 hV => ?_
        walk_at "rd"
        refine sTupL (.of z5) fun w H6 e6 hw => ?_
        refine q _ _ (((((k1.trans e2).trans e3).trans k4).trans e5).trans e6) (.tup hw ?_)
        rw [← picks_sorted, hM]
        exact hV.kp e6

def sp_p_step (K : PySem.W.Frag) : Sp := fun vs H Q _ => ∃ (hv sv bv : V) (h : House) (st : List Person) (bt : List Comer), vs = [hv, sv, bv] ∧ TD K H hv h.d ∧ TD K H sv (standD st) ∧ TD K H bv (beatD bt) ∧
  st.length + bt.length ≤ 500 ∧ (∀ p ∈ st, 1 ≤ p.left) ∧ (∀ c ∈ bt, 1 ≤ c.work) ∧ ∀ v H', Kp Non H H' → TD K H' v (stepOf h st bt).d → Q v H'
theorem sc_p_step : FnScope N_p_step ["house", "stand", "beat"] (defScope s_p_step) := ⟨rfl, rfl, rfl, by decide +kernel, rfl, by decide +kernel, by decide +kernel⟩
theorem ok_p_step (T : Txt K mg) : FnOk P w K mg base CX0 3 T.f_p_step T.fd_p_step ["house", "stand", "beat"] (sp_p_step K) := by
  refine T.F_p_step.ok sc_p_step (fun vs H Q E h => ?_) (fun cdv A out s H vs Q E hr h => ?_)
  · obtain ⟨hv, sv, bv, h, st, bt, rfl, hh, hs, hb, hl, hp1, hp2, q⟩ := h
    rfl
  · obtain ⟨hv, sv, bv, h, st, bt, rfl, hh, hs, hb, hl, hp1, hp2, q⟩ := h
    have hu := hu_of hr
    have hu1 : (A.deeper (envOfC "step" (defScope s_p_step) s.heap.objs.size T.f_p_step cdv)).units + 160 < cLine := by have := hr.un; omega
    refine ⟨_, (pss_cons (ps_set (i := 3) sc_p_step.nd rfl (Or.inl rfl) (pe_ix (show IxR _ (rIxT K) from ix_tup) (pv 0) pe_int (fun _ _ => rfl)))
    (pss_cons (ps_asg (pe_call (ok_p_let_in T) (hr.mono (by decide)) (by rfl) T.m_p_let_in T.F_p_let_in.kp T.b_p_let_in .nil pass0 (pa_cons (pv 0) (pa_cons (pv 1) (pa_cons (pv 2) pa_nil)))) (show PG _ _ (gTup K 2 _) from pg_tup rfl (pgs_cons (pg_name (i := 4) sc_p_step.nd rfl (Or.inl rfl)) (pgs_cons (pg_name (i := 5) sc_p_step.nd rfl (Or.inl rfl)) pgs_nil))))
    (pss_cons (ps_set (i := 6) sc_p_step.nd rfl (Or.inl rfl) (pe_call (ok_p_picked T) (hr.mono (by decide)) (by rfl) T.m_p_picked T.F_p_picked.kp T.b_p_picked .nil pass0 (pa_cons (pv 0) (pa_cons (pv 4) pa_nil))))
    (pss_cons (ps_set (i := 7) sc_p_step.nd rfl (Or.inl rfl) (pe_lstG pa_nil))
    (pss_cons (ps_set (i := 8) sc_p_step.nd rfl (Or.inl rfl) (pe_lstG pa_nil))
    (pss_cons (ps_set (i := 9) sc_p_step.nd rfl (Or.inl rfl) (pe_lstG pa_nil))
    (pss_cons (ps_for PassesOwn.never rfl (show PI _ _ _ (iEnumT K _) from pi_enumT (by rfl) T.z_enumerate (pa_cons (pv 4) pa_nil)) (show PG _ _ (gTup K 2 _) from pg_tup rfl (pgs_cons (pg_name (i := 10) sc_p_step.nd rfl (Or.inl rfl)) (pgs_cons (show PG _ _ (gTup K 3 _) from pg_tup rfl (pgs_cons (pg_name (i := 11) sc_p_step.nd rfl (Or.inl rfl)) (pgs_cons (pg_name (i := 12) sc_p_step.nd rfl (Or.inl rfl)) (pgs_cons (pg_name (i := 13) sc_p_step.nd rfl (Or.inl rfl)) pgs_nil)))) pgs_nil)))
      (pss_one (ps_if (pt_cmpR (show OpR _ _ (rIn K true) from op_notIn_seq) (pv 10) (pv 6) (by rfl))
      (pss_one (ps_expr (show PE _ _ (tBM K "list" rAppG _ _) from pe_bm PySem.F.plainAttrs_list PySem.F.slot_list_append PySem.F.type_list_append mt_appendG (pv 7) (pa_cons (pe_tupG (pa_cons (pv 11) (pa_cons (pv 12) (pa_cons (pv 13) pa_nil)))) pa_nil))))
      (pss_one (ps_if (pt_cmpR op_eq (pv 12) pe_int (nomark _))
      (pss_one (ps_expr (show PE _ _ (tBM K "list" rAppG _ _) from pe_bm PySem.F.plainAttrs_list PySem.F.slot_list_append PySem.F.type_list_append mt_appendG (pv 9) (pa_cons (pv 10) pa_nil))))
      (pss_one (ps_if (pt_cmpR op_eq (pv 3) pe_str (nomark _))
      (pss_one (ps_expr (show PE _ _ (tBM K "list" rAppG _ _) from pe_bm PySem.F.plainAttrs_list PySem.F.slot_list_append PySem.F.type_list_append mt_appendG (pv 8) (pa_cons (pe_tupG (pa_cons (pv 11) (pa_cons (pe_op op_sub (pv 12) pe_int) (pa_cons pe_bl pa_nil)))) pa_nil))))
      (pss_one (ps_expr (show PE _ _ (tBM K "list" rAppG _ _) from pe_bm PySem.F.plainAttrs_list PySem.F.slot_list_append PySem.F.type_list_append mt_appendG (pv 7) (pa_cons (pe_tupG (pa_cons (pv 11) (pa_cons (pe_op op_sub (pv 12) pe_int) (pa_cons (pe_call (ok_p_keeps T) (hr.mono (by decide)) (by rfl) T.m_p_keeps T.F_p_keeps.kp T.b_p_keeps .nil pass0 (pa_cons (pv 3) pa_nil)) pa_nil)))) pa_nil)))))))))))
    (pss_one (ps_ret (pe_tupG (pa_cons (pe_callTy (show CallR _ _ (rTupG K) from call_tupleG) (by rfl) T.z_tuple (by decide +kernel) (pa_cons (pe_op op_catLG (pv 7) (pv 8)) pa_nil)) (pa_cons (pv 5) (pa_cons (pe_callTy (show CallR _ _ (rTupG K) from call_tupleG) (by rfl) T.z_tuple (by decide +kernel) (pa_cons (pv 9) pa_nil)) pa_nil))))))))))))), ?_⟩
    obtain ⟨t, rfl, hT⟩ := hh.house
    walk_at "rd"
    refine sIxT hT (atI_nat (j := 2) rfl) ?_
    walk_at "rd"
    refine ⟨.ref t, sv, bv, h, st, bt, rfl, hh, hs, hb, by omega, fun v H1 e1 hv => ?_⟩
    generalize hins : (letIn h.places st bt).1 = ins at hv
    generalize hlost : (letIn h.places st bt).2 = lost at hv
    have inl : ins.length ≤ 500 := by
      rw [← hins]
      show (st ++ _).length ≤ 500
      rw [List.length_append, List.length_map, List.length_take]
      omega
    have ipos : ∀ p ∈ ins, 1 ≤ p.left := by
      intro p hp
      rw [← hins] at hp
      rcases List.mem_append.mp hp with z | z
      · exact hp1 p z
      · obtain ⟨x, hx, rfl⟩ := List.mem_map.mp z
        exact hp2 x (List.mem_of_mem_take hx)
    obtain ⟨r, iv, lv, rfl, hR, hiv, hlv⟩ := hv.two
    rw [hlv.toInt] at hR
    refine sGTup hR rfl ?_
    walk_at "rd"
    refine ⟨.ref t, iv, h, ins, rfl, hh.kp e1, hiv, by omega, fun sv2 H2 e2 hs2 => ?_⟩
    generalize hsm : picks h.hands h.rule ins = sm at hs2
    obtain ⟨ps, rfl, hPS⟩ := hs2.nats
    walk_at "rd"
    intro pk H3 e3 nk zk
    walk_at "rd"
    intro pb H4 e4 nb zb
    walk_at "rd"
    intro pg H5 e5 ng zg
    walk_at "rd"
    have k35 := e4.trans e5
    have zk5 := k35.same _ _ (fun z => z) zk
    have zb5 := e5.same _ _ (fun z => z) zb
    have hkb : pk ≠ pb := fun z => by rw [z] at zk; rw [nb] at zk; cases zk
    have hkg : pk ≠ pg := fun z => by
      have := e4.same _ _ (fun z => z) zk
      rw [z, ng] at this; cases this
    have hbg : pb ≠ pg := fun z => by rw [z, ng] at zb; cases zb
    have k02 := e1.trans e2
    have k05 : Kp Non H H5 := (k02.trans e3).trans k35
    have fk : H pk = none := k02.live _ nk
    have fb : H pb = none := k02.live _ (e3.live _ nb)
    have fg : H pg = none := k02.live _ (e3.live _ (e4.live _ ng))
    obtain ⟨u, xs, rfl, hU, hX⟩ := hiv.stand
    have hxl : xs.length = ins.length := hX.lenMap
    refine forEnumT (xs := xs) (fun i σ H' => ∃ ks bs gs v1 v2 v3 v4, σ = [some (.ref t), some sv, some bv, some (.str h.rule), some (.ref u), some (.int lost), some (.ref ps), some (.ref pk), some (.ref pb), some (.ref pg), v1, v2, v3, v4] ∧
        H' pk = some (.lst ks) ∧ H' pb = some (.lst bs) ∧ H' pg = some (.lst gs) ∧
        TDs K H' ks (((List.range i).flatMap (keptAt h.rule sm ins)).map Person.d) ∧ TDs K H' bs (((List.range i).flatMap (behindAt h.rule sm ins)).map Person.d) ∧ gs = ((List.range i).flatMap (goneAt sm ins)).map (fun n : Nat => V.int n) ∧
        Kp Non H H' ∧ SqT K H' u xs ∧ SqT K H' ps (sm.map fun n : Nat => V.int n) ∧ TDs K H' xs (ins.map Person.d))
      (fun i σ H' ⟨ks, bs, gs, v1, v2, v3, v4, _, _, _, _, _, _, _, _, c, _⟩ => c) ?_ ?_ ?_
    · exact ⟨[], [], [], none, none, none, none, rfl, zk5, zb5, zg, .nil, .nil, rfl, k05, ((e2.trans e3).trans k35).sqT hU, (e3.trans k35).sqT hPS, hX.kp ((e2.trans e3).trans k35)⟩
    · rintro i x T σ H6 H7 hx ⟨ks, bs, gs, v1, v2, v3, v4, rfl, z1, z2, z3, t1, t2, t3, k6, s1, s2, s3⟩ e7 zT
      have hi : i < ins.length := by
        have := (List.getElem?_eq_some_iff.mp hx).1
        omega
      obtain ⟨p, hp, hx2⟩ := s3.person hx
      have p1 := ipos p (List.mem_of_getElem? hp)
      obtain ⟨y, rfl, hY⟩ := (hx2.kp e7).person
      have z1 := e7.same _ _ (fun z => z) z1
      have z2 := e7.same _ _ (fun z => z) z2
      have z3 := e7.same _ _ (fun z => z) z3
      have t1 := t1.kp e7
      have t2 := t2.kp e7
      have k7 := k6.trans e7
      have s1 := e7.sqT s1
      have s2 := e7.sqT s2
      have s3 := s3.kp e7
      have lk : ks.length ≤ i := by
        rw [t1.lenMap]; exact flatLen _ (keptLen _ _ _) i
      have lb : bs.length ≤ i := by
        rw [t2.lenMap]; exact flatLen _ (behindLen _ _ _) i
      have lg : gs.length ≤ i := by
        rw [t3, List.length_map]; exact flatLen _ (goneLen _ _) i
      refine sGTup (.of zT) rfl ?_
      walk_at "rd"
      refine sGTup hY rfl ?_
      walk_at "rd"
      refine sNiN s2 ?_
      walk_at "rd"
      refine ifN (fun c1 => ?_) (fun c1 => ?_)
      · have ek : keptAt h.rule sm ins i = [p] := by unfold keptAt; rw [hp]; exact if_neg c1
        have eb : behindAt h.rule sm ins i = [] := by unfold behindAt; rw [hp]; exact if_neg c1
        have eg : goneAt sm ins i = [] := by unfold goneAt; rw [hp]; exact if_neg c1
        walk_at "rd"
        intro w8 H8 e8 n8 z8
        walk_at "rd"
        refine sApp (e8.same _ _ (fun z => z) z1) (small1000 (by omega)) fun H9 e9 z9 => ?_
        walk_at "rd"
        refine ⟨_, bs, gs, _, _, _, _, rfl, z9, e9.same _ _ hkb.symm (e8.same _ _ (fun z => z) z2), e9.same _ _ hkg.symm (e8.same _ _ (fun z => z) z3), ?_, ?_, ?_, ?_, e9.sqT (e8.sqT s1), e9.sqT (e8.sqT s2), (s3.kp e8).kp e9⟩
        · rw [flatSnoc, ek, List.map_append]
          exact ((t1.kp e8).kp e9).append (.cons (TD.mkPerson (.of (e9.tups _ _ z8))) .nil)
        · rw [flatSnoc, eb, List.append_nil]
          exact (t2.kp e8).kp e9
        · rw [flatSnoc, eg, List.append_nil]; exact t3
        · exact Kp.drop (p := pk) (((k7.trans e8).wide fun b z => z.elim).trans (e9.wide fun b z => .inl z)) fk
      walk_at "rd"
      refine ifD (fun c2 => ?_) (fun c2 => ?_)
      · have c2 : p.left = 1 := by omega
        have ek : keptAt h.rule sm ins i = [] := by unfold keptAt; rw [hp]; exact (if_pos c1).trans (if_pos c2)
        have eb : behindAt h.rule sm ins i = [] := by unfold behindAt; rw [hp]; exact (if_pos c1).trans (if_pos c2)
        have eg : goneAt sm ins i = [i] := by unfold goneAt; rw [hp]; exact (if_pos c1).trans (if_pos c2)
        walk_at "rd"
        refine sApp z3 (small1000 (by omega)) fun H9 e9 z9 => ?_
        walk_at "rd"
        refine ⟨ks, bs, _, _, _, _, _, rfl, e9.same _ _ hkg z1, e9.same _ _ hbg z2, z9, ?_, ?_, ?_, ?_, e9.sqT s1, e9.sqT s2, s3.kp e9⟩
        · rw [flatSnoc, ek, List.append_nil]; exact t1.kp e9
        · rw [flatSnoc, eb, List.append_nil]; exact t2.kp e9
        · rw [flatSnoc, eg, List.map_append, t3]; rfl
        · exact Kp.drop (p := pg) ((k7.wide fun b z => z.elim).trans (e9.wide fun b z => .inl z)) fg
      have c2 : ¬ p.left = 1 := by omega
      have eg : goneAt sm ins i = [] := by unfold goneAt; rw [hp]; exact (if_pos c1).trans (if_neg c2)
      have el : (p.left : Int) - 1 = ((p.left - 1 : Nat) : Int) := by omega
      walk_at "rd"
      refine ifD (fun c3 => ?_) (fun c3 => ?_)
      · have ek : keptAt h.rule sm ins i = [] := by unfold keptAt; rw [hp]; exact ((if_pos c1).trans (if_neg c2)).trans (if_pos c3)
        have eb : behindAt h.rule sm ins i = [⟨p.rank, p.left - 1, false⟩] := by unfold behindAt; rw [hp]; exact ((if_pos c1).trans (if_neg c2)).trans (if_pos c3)
        walk_at "rd"
        intro w8 H8 e8 n8 z8
        rw [el] at z8
        walk_at "rd"
        refine sApp (e8.same _ _ (fun z => z) z2) (small1000 (by omega)) fun H9 e9 z9 => ?_
        walk_at "rd"
        refine ⟨ks, _, gs, _, _, _, _, rfl, e9.same _ _ hkb (e8.same _ _ (fun z => z) z1), z9, e9.same _ _ hbg.symm (e8.same _ _ (fun z => z) z3), ?_, ?_, ?_, ?_, e9.sqT (e8.sqT s1), e9.sqT (e8.sqT s2), (s3.kp e8).kp e9⟩
        · rw [flatSnoc, ek, List.append_nil]
          exact (t1.kp e8).kp e9
        · rw [flatSnoc, eb, List.map_append]
          exact ((t2.kp e8).kp e9).append (.cons (TD.mkPerson (p := ⟨p.rank, p.left - 1, false⟩) (.of (e9.tups _ _ z8))) .nil)
        · rw [flatSnoc, eg, List.append_nil]; exact t3
        · exact Kp.drop (p := pb) (((k7.trans e8).wide fun b z => z.elim).trans (e9.wide fun b z => .inl z)) fb
      · have ek : keptAt h.rule sm ins i = [⟨p.rank, p.left - 1, keepW h.rule⟩] := by unfold keptAt; rw [hp]; exact ((if_pos c1).trans (if_neg c2)).trans (if_neg c3)
        have eb : behindAt h.rule sm ins i = [] := by unfold behindAt; rw [hp]; exact ((if_pos c1).trans (if_neg c2)).trans (if_neg c3)
        walk_at "rd"
        refine ⟨h.rule, rfl, ?_⟩
        walk_at "rd"
        intro w8 H8 e8 n8 z8
        rw [el] at z8
        walk_at "rd"
        refine sApp (e8.same _ _ (fun z => z) z1) (small1000 (by omega)) fun H9 e9 z9 => ?_
        walk_at "rd"
        refine ⟨_, bs, gs, _, _, _, _, rfl, z9, e9.same _ _ hkb.symm (e8.same _ _ (fun z => z) z2), e9.same _ _ hkg.symm (e8.same _ _ (fun z => z) z3), ?_, ?_, ?_, ?_, e9.sqT (e8.sqT s1), e9.sqT (e8.sqT s2), (s3.kp e8).kp e9⟩
        · rw [flatSnoc, ek, List.map_append]
          exact ((t1.kp e8).kp e9).append (.cons (TD.mkPerson (p := ⟨p.rank, p.left - 1, keepW h.rule⟩) (.of (e9.tups _ _ z8))) .nil)
        · rw [flatSnoc, eb, List.append_nil]
          exact (t2.kp e8).kp e9
        · rw [flatSnoc, eg, List.append_nil]; exact t3
        · exact Kp.drop (p := pk) (((k7.trans e8).wide fun b z => z.elim).trans (e9.wide fun b z => .inl z)) fk
    · rintro σ H6 ⟨ks, bs, gs, v1, v2, v3, v4, rfl, z1, z2, z3, t1, t2, t3, k6, s1, s2, s3⟩
      rw [hxl] at t1 t2 t3
      have lk : ks.length ≤ ins.length := by
        rw [t1.lenMap]; exact flatLen _ (keptLen _ _ _) _
      have lb : bs.length ≤ ins.length := by
        rw [t2.lenMap]; exact flatLen _ (behindLen _ _ _) _
      walk_at "rd"
      refine sCatL z1 z2 (by omega) fun p7 H7 e7 n7 z7 => ?_
      walk_at "rd"
      refine sTupL (.of z7) fun p8 H8 e8 z8 => ?_
      walk_at "rd"
      have z3 := e8.same _ _ (fun z => z) (e7.same _ _ (fun z => z) z3)
      refine sTupL (.of z3) fun p9 H9 e9 z9 => ?_
      walk_at "rd"
      intro p10 H10 e10 n10 z10
      have k810 := e9.trans e10
      refine q _ _ (((k6.trans e7).trans e8).trans k810) (.tup (.of z10) (.cons (.tup (k810.sqT z8) ?_) (.cons ?_ (.cons (.tup (e10.sqT z9) ?_) .nil))))
      · unfold stepOf workedOf
        dsimp only
        rw [hins, hsm, List.map_append]
        exact (((t1.kp e7).kp e8).kp k810).append (((t2.kp e7).kp e8).kp k810)
      · unfold stepOf
        dsimp only
        rw [hlost]
        exact .int _
      · unfold stepOf workedOf
        dsimp only
        rw [hins, hsm, t3]
        exact .mkNats _ _ _

def sp_p_run (K : PySem.W.Frag) : Sp := fun vs H Q _ => ∃ (hv wv sv : V) (h : House) (way : List (List Comer)) (st : List Person), vs = [hv, wv, sv] ∧ TD K H hv h.d ∧ TD K H wv (wayD way) ∧ TD K H sv (standD st) ∧
  (st.length + manyIn way ≤ 250 ∧ way.length ≤ 900) ∧ (∀ p ∈ st, 1 ≤ p.left) ∧ (∀ b ∈ way, ∀ c ∈ b, 1 ≤ c.work) ∧ ∀ v H', Kp Non H H' → TD K H' v (runD h way st) → Q v H'
theorem sc_p_run : FnScope N_p_run ["house", "way", "stand"] (defScope s_p_run) := ⟨rfl, rfl, rfl, by decide +kernel, rfl, by decide +kernel, by decide +kernel⟩
theorem ok_p_run (T : Txt K mg) : FnOk P w K mg base CX0 4 T.f_p_run T.fd_p_run ["house", "way", "stand"] (sp_p_run K) := by
  refine T.F_p_run.ok sc_p_run (fun vs H Q E h => ?_) (fun cdv A out s H vs Q E hr h => ?_)
  · obtain ⟨hv, wv, sv, h, way, st, rfl, hh, hw, hs, hm, hp1, hp2, q⟩ := h
    rfl
  · obtain ⟨hv, wv, sv, h, way, st, rfl, hh, hw, hs, hm, hp1, hp2, q⟩ := h
    have hu := hu_of hr
    have hu1 : (A.deeper (envOfC "run" (defScope s_p_run) s.heap.objs.size T.f_p_run cdv)).units + 160 < cLine := by have := hr.un; omega
    refine ⟨_, (pss_cons (ps_set (i := 3) sc_p_run.nd rfl (Or.inl rfl) (pe_lstG (pa_cons (pv 2) pa_nil)))
    (pss_cons (ps_set (i := 4) sc_p_run.nd rfl (Or.inl rfl) (pe_lstG pa_nil))
    (pss_cons (ps_set (i := 5) sc_p_run.nd rfl (Or.inl rfl) (pe_lstG pa_nil))
    (pss_cons (ps_for PassesOwn.never rfl (show PI _ _ _ (iTup K _) from pi_tup (pv 1)) (pg_name (i := 6) sc_p_run.nd rfl (Or.inl rfl))
      (pss_cons (ps_asg (pe_call (ok_p_step T) (hr.mono (by decide)) (by rfl) T.m_p_step T.F_p_step.kp T.b_p_step .nil pass0 (pa_cons (pv 0) (pa_cons (pe_ix (show IxR _ (rIxL K) from ix_list) (pv 3) (pe_un un_neg pe_int) (fun _ _ => rfl)) (pa_cons (pv 6) pa_nil)))) (show PG _ _ (gTup K 3 _) from pg_tup rfl (pgs_cons (pg_name (i := 7) sc_p_run.nd rfl (Or.inl rfl)) (pgs_cons (pg_name (i := 8) sc_p_run.nd rfl (Or.inl rfl)) (pgs_cons (pg_name (i := 9) sc_p_run.nd rfl (Or.inl rfl)) pgs_nil)))))
    (pss_cons (ps_expr (show PE _ _ (tBM K "list" rAppG _ _) from pe_bm PySem.F.plainAttrs_list PySem.F.slot_list_append PySem.F.type_list_append mt_appendG (pv 3) (pa_cons (pv 7) pa_nil)))
    (pss_cons (ps_expr (show PE _ _ (tBM K "list" rAppG _ _) from pe_bm PySem.F.plainAttrs_list PySem.F.slot_list_append PySem.F.type_list_append mt_appendG (pv 4) (pa_cons (pv 8) pa_nil)))
    (pss_one (ps_expr (show PE _ _ (tBM K "list" rAppG _ _) from pe_bm PySem.F.plainAttrs_list PySem.F.slot_list_append PySem.F.type_list_append mt_appendG (pv 5) (pa_cons (pe_callB (show CallR _ _ (rLenG K) from call_lenG) (by rfl) T.z_len (by decide +kernel) (pa_cons (pv 9) pa_nil)) pa_nil))))))))
    (pss_one (ps_ret (pe_tupG (pa_cons (pe_callTy (show CallR _ _ (rTupG K) from call_tupleG) (by rfl) T.z_tuple (by decide +kernel) (pa_cons (pv 3) pa_nil)) (pa_cons (pe_callTy (show CallR _ _ (rTupG K) from call_tupleG) (by rfl) T.z_tuple (by decide +kernel) (pa_cons (pv 4) pa_nil)) (pa_cons (pe_callTy (show CallR _ _ (rTupG K) from call_tupleG) (by rfl) T.z_tuple (by decide +kernel) (pa_cons (pv 5) pa_nil)) pa_nil)))))))))), ?_⟩
    obtain ⟨hm, hm2⟩ := hm
    obtain ⟨tw, ws, rfl, hW, hWS⟩ := hw.ref
    have hwl : ws.length = way.length := hWS.lenMap
    walk_at "rd"
    intro ps H1 e1 n1 z1
    walk_at "rd"
    intro pl H2 e2 n2 z2
    walk_at "rd"
    intro pg H3 e3 n3 z3
    walk_at "rd"
    have zs3 := (e2.trans e3).same _ _ (fun z => z) z1
    have zl3 := e3.same _ _ (fun z => z) z2
    have k3 := (e1.trans e2).trans e3
    have fs : H ps = none := n1
    have fl : H pl = none := e1.live _ n2
    have fg : H pg = none := e1.live _ (e2.live _ n3)
    have nsl : ps ≠ pl := fun z => by rw [z, n2] at z1; cases z1
    have nsg : ps ≠ pg := fun z => by have := e2.same _ _ (fun z => z) z1; rw [z, n3] at this; cases this
    have nlg : pl ≠ pg := fun z => by rw [z, n3] at z2; cases z2
    refine forTup (xs := ws) (fun i σ H' => ∃ ys v6 v7 v8 v9, σ = [some hv, some (.ref tw), some sv, some (.ref ps), some (.ref pl), some (.ref pg), v6, v7, v8, v9] ∧ Kp Non H H' ∧
        H' ps = some (.lst ys) ∧ TDs K H' ys (((List.range (i + 1)).map (stAt h way st)).map standD) ∧ H' pl = some (.lst (((List.range i).map fun i => (toldAt h way st i).lost).map fun n : Nat => V.int n)) ∧
        H' pg = some (.lst (((List.range i).map fun i => (toldAt h way st i).gone.length).map fun n : Nat => V.int n))) (fun i σ H' ⟨ys, _, _, _, _, _, k, _⟩ => k.sqT hW) ?_ ?_ ?_
    · exact ⟨_, none, none, none, none, rfl, k3, zs3, .cons (hs.kp k3) .nil, zl3, z3⟩
    · rintro i x σ H4 hx ⟨ys, v6, v7, v8, v9, rfl, k4, zs, hY, zl, zg⟩
      obtain ⟨b, hb, hx2⟩ := hWS.of hx
      have hi : i < way.length := (List.getElem?_eq_some_iff.mp hb).1
      have hbd : way.getD i [] = b := by rw [List.getD_eq_getElem?_getD, hb]; rfl
      have hyl : ys.length = i + 1 := by rw [hY.lenMap, List.length_map, List.length_range]
      have hY' := hY
      rw [List.range_succ, List.map_append, List.map_append] at hY'
      obtain ⟨ys0, y, hye, hyd⟩ : ∃ ys0 y, ys = ys0 ++ [y] ∧ TD K H4 y (standD (stAt h way st i)) := by
        have hl : ys ≠ [] := fun z => by rw [z] at hyl; simp at hyl
        refine ⟨ys.dropLast, ys.getLast hl, (List.dropLast_concat_getLast hl).symm, ?_⟩
        obtain ⟨d, hd1, hd2⟩ := hY.get (i := i) (v := ys.getLast hl) (by rw [List.getLast_eq_getElem, List.getElem?_eq_getElem (by omega)]; congr 1; simp [hyl])
        rw [List.getElem?_map, List.getElem?_map, List.getElem?_range (by omega)] at hd1
        cases hd1
        exact hd2
      have lenB : (stAt h way st i).length + b.length ≤ 250 := by
        have h1 := stAtLen h way st i
        have h2 := cameSucc way i
        have h3 := cameLe way (i + 1)
        rw [hbd] at h2
        omega
      walk_at "rd"
      refine sIxL (.of zs) (v := y) (by rw [hye]; exact atI_last) ?_
      walk_at "rd"
      refine ⟨hv, y, x, h, stAt h way st i, b, rfl, hh.kp k4, hyd, hx2.kp k4, by omega, stAtPos hp1 hp2 i, hp2 b (List.mem_of_getElem? hb), fun tv H5 e5 ht => ?_⟩
      have htold : stepOf h (stAt h way st i) b = toldAt h way st i := by unfold toldAt; rw [hbd]
      rw [htold] at ht
      obtain ⟨t3, y1, y2, y3, rfl, hT3, hy1, hy2, hy3⟩ := TD.three (a := standD (toldAt h way st i).stand) ht
      rw [hy2.toInt] at hT3
      obtain ⟨gt, rfl, hGT⟩ := hy3.nats
      refine sGTup hT3 rfl ?_
      walk_at "rd"
      have zs5 := e5.same _ _ (fun z => z) zs
      refine sTy zs5 ?_
      walk_at "rd"
      refine sApp zs5 (small1000 (by omega)) fun H6 e6 z6 => ?_
      walk_at "rd"
      have zl6 := e6.same _ _ nsl.symm (e5.same _ _ (fun z => z) zl)
      refine sTy zl6 ?_
      walk_at "rd"
      refine sApp zl6 (small1000 (by rw [List.length_map, List.length_map, List.length_range]; omega)) fun H7 e7 z7 => ?_
      walk_at "rd"
      have zg7 := e7.same _ _ nlg.symm (e6.same _ _ nsg.symm (e5.same _ _ (fun z => z) zg))
      refine sTy zg7 ?_
      walk_at "rd"
      refine sLenT (e7.sqT (e6.sqT hGT)) ?_
      walk_at "rd"
      refine sApp zg7 (small1000 (by rw [List.length_map, List.length_map, List.length_range]; omega)) fun H8 e8 z8 => ?_
      walk_at "rd"
      refine ⟨_, _, _, _, _, rfl, ?_, e8.same _ _ nsg (e7.same _ _ nsl z6), ?_, ?_, ?_⟩
      · have kk : Kp (fun x => x = ps ∨ x = pl ∨ x = pg) H H8 := (((k4.trans e5).wide fun b z => z.elim).trans (e6.wide fun b z => .inl z)).trans ((e7.wide fun b z => .inr (.inl z)).trans (e8.wide fun b z => .inr (.inr z)))
        exact Kp.drop (Kp.drop (Kp.drop (kk.wide fun b z => by rcases z with z | z | z; exact .inl z; exact .inr (.inl z); exact .inr (.inr (.inl z))) fs) fl) fg
      · rw [List.range_succ (n := i + 1), List.map_append, List.map_append]
        refine (((((hY.kp e5).kp e6).kp e7).kp e8)).append (.cons ?_ .nil)
        have : stAt h way st (i + 1) = (toldAt h way st i).stand := rfl
        rw [this]
        exact ((hy1.kp e6).kp e7).kp e8
      · rw [List.range_succ, List.map_append, List.map_append]
        exact e8.same _ _ nlg z7
      · rw [List.range_succ, List.map_append, List.map_append, z8, List.length_map]
        rfl
    · rintro σ H4 ⟨ys, v6, v7, v8, v9, rfl, k4, zs, hY, zl, zg⟩
      rw [hwl] at hY zl zg
      walk_at "rd"
      refine sTupL (.of zs) fun w1 H5 e5 hw1 => ?_
      walk_at "rd"
      refine sTupL (.of (e5.same _ _ (fun z => z) zl)) fun w2 H6 e6 hw2 => ?_
      walk_at "rd"
      refine sTupL (.of (e6.same _ _ (fun z => z) (e5.same _ _ (fun z => z) zg))) fun w3 H7 e7 hw3 => ?_
      walk_at "rd"
      intro w4 H8 e8 n8 z8
      refine q _ _ (((k4.trans e5).trans e6).trans (e7.trans e8)) (.tup (.of z8) (.cons (.tup (((e6.trans e7).trans e8).sqT hw1) ?_) (.cons (.tup ((e7.trans e8).sqT hw2) (.mkNats _ _ _)) (.cons (.tup (e8.sqT hw3) (.mkNats _ _ _)) .nil))))
      exact (((hY.kp e5).kp e6).kp e7).kp e8

def sp_q_tape (K : PySem.W.Frag) : Sp := fun vs H Q _ => ∃ (a : Addr) (ns : List Int), vs = [.ref a] ∧ SqL K H a (ns.map V.int) ∧ ns.length ≤ 63 ∧
  ∀ d c H', Kp Non H H' → H d = none → H c = none → Feed3 H' d c 1000000 → Q (.ref d) H'
theorem sc_q_tape : FnScope N_q_tape ["_law_script"] (defScope s_q_tape) := ⟨rfl, rfl, rfl, by decide +kernel, rfl, by decide +kernel, by decide +kernel⟩
theorem ok_q_tape (T : Txt K mg) : FnOk P w K mg base CX0 1 T.f_q_tape T.fd_q_tape ["_law_script"] (sp_q_tape K) := by
  refine T.F_q_tape.ok sc_q_tape (fun vs H Q E h => ?_) (fun cdv A out s H vs Q E hr h => ?_)
  · obtain ⟨a, ns, rfl, hS, hl, q⟩ := h
    rfl
  · obtain ⟨a, ns, rfl, hS, hl, q⟩ := h
    have hu := hu_of hr
    have hu1 : (A.deeper (envOfC "_law_tape" (defScope s_q_tape) s.heap.objs.size T.f_q_tape cdv)).units + 160 < cLine := by have := hr.un; omega
    refine ⟨_, (pss_one (ps_ret (pe_lstG (pa_cons (pe_callTy (show CallR _ _ (rListG K) from call_listG) (by rfl) T.z_list (by decide +kernel) (pa_cons (pe_slice (show SlR _ (rSlLG K) from sl_listG) (pv 0) po_none (po_some pe_int)) pa_nil)) (pa_cons pe_int (pa_cons pe_int (pa_cons pe_int pa_nil))))))), ?_⟩
    walk_at "rd"
    refine sSlL hS fun p H1 e1 n1 z1 => ?_
    walk_at "rd"
    refine sListL (.of z1) fun c H2 e2 n2 z2 => ?_
    walk_at "rd"
    intro d H3 e3 n3 z3
    have z2' := e3.same _ _ (fun z => z) z2
    have ncd : c ≠ d := fun z => by rw [z, n3] at z2; cases z2
    rw [cut63 hl] at z2'
    exact q d c H3 ((e1.trans e2).trans e3) (e1.live _ (e2.live _ n3)) (e1.live _ n2) ⟨ns, 0, 0, 0, ⟨z3, z2', ncd⟩, hl, by omega, by omega, by omega, by omega⟩

def sp_q_next (K : PySem.W.Frag) : Sp := fun vs H Q _ => ∃ (d c : Addr) (m : Int) (b : Nat), vs = [.ref d, .int m] ∧ 0 < m ∧ m < 1000000000 ∧ Feed3 H d c (b + 1) ∧
  ∀ (n : Int) H', 0 ≤ n → n < m → Kp (At d) H H' → Feed3 H' d c b → Q (.int n) H'
theorem sc_q_next : FnScope N_q_next ["_law_tape_here", "_law_many"] (defScope s_q_next) := ⟨rfl, rfl, rfl, by decide +kernel, rfl, by decide +kernel, by decide +kernel⟩
theorem ok_q_next (T : Txt K mg) : FnOk P w K mg base CX0 1 T.f_q_next T.fd_q_next ["_law_tape_here", "_law_many"] (sp_q_next K) := by
  refine T.F_q_next.ok sc_q_next (fun vs H Q E h => ?_) (fun cdv A out s H vs Q E hr h => ?_)
  · obtain ⟨d, c, m, b, rfl, hm, hm2, hF, q⟩ := h
    rfl
  · obtain ⟨d, c, m, b, rfl, hm, hm2, hF, q⟩ := h
    have hu := hu_of hr
    have hu1 : (A.deeper (envOfC "_law_next" (defScope s_q_next) s.heap.objs.size T.f_q_next cdv)).units + 160 < cLine := by have := hr.un; omega
    refine ⟨_, (pss_cons (ps_asg (pe_op op_add (pe_ix (show IxR _ (rIxL K) from ix_list) (pv 0) pe_int (fun _ _ => rfl)) pe_int) (pg_sub (pv 0) pe_int set_listG))
    (pss_cons (ps_if (pt_cmpR op_gt (pe_ix (show IxR _ (rIxL K) from ix_list) (pv 0) pe_int (fun _ _ => rfl)) pe_int (nomark _))
      (pss_cons (ps_set (i := 2) sc_q_next.nd rfl (Or.inl rfl) (pe_op op_modN (pe_ix (show IxR _ (rIxL K) from ix_list) (pv 0) pe_int (fun _ _ => rfl)) (pv 1)))
    (pss_cons (ps_asg (pe_op op_fdivN (pe_ix (show IxR _ (rIxL K) from ix_list) (pv 0) pe_int (fun _ _ => rfl)) (pv 1)) (pg_sub (pv 0) pe_int set_listG))
    (pss_one (ps_ret (pv 2)))))
      pss_nil)
    (pss_cons (ps_set (i := 3) sc_q_next.nd rfl (Or.inl rfl) (pe_ifExp (pt_cmpR (show OpR _ _ (rNeD K) from op_neD (by have := hr.units; exact this)) (pe_ix (show IxR _ (rIxL K) from ix_list) (pv 0) pe_int (fun _ _ => rfl)) (pe_lstG pa_nil) (nomark _)) (pe_ix (show IxR _ (rIxL K) from ix_list) (pe_ix (show IxR _ (rIxL K) from ix_list) (pv 0) pe_int (fun _ _ => rfl)) (pe_op op_modN (pe_ix (show IxR _ (rIxL K) from ix_list) (pv 0) pe_int (fun _ _ => rfl)) (pe_callB (show CallR _ _ (rLenG K) from call_lenG) (by rfl) T.z_len (by decide +kernel) (pa_cons (pe_ix (show IxR _ (rIxL K) from ix_list) (pv 0) pe_int (fun _ _ => rfl)) pa_nil))) (fun _ _ => rfl)) pe_int))
    (pss_cons (ps_asg (pe_op op_add (pe_ix (show IxR _ (rIxL K) from ix_list) (pv 0) pe_int (fun _ _ => rfl)) pe_int) (pg_sub (pv 0) pe_int set_listG))
    (pss_cons (ps_if (PW.pt (pw_and (pt_cmpR op_ge (pv 3) (pe_op op_pow pe_int pe_int) (nomark _)) (pw_and1 (pt_cmpR op_le (pe_ix (show IxR _ (rIxL K) from ix_list) (pv 0) pe_int (fun _ _ => rfl)) (pe_callB (show CallR _ _ (rLenG K) from call_lenG) (by rfl) T.z_len (by decide +kernel) (pa_cons (pe_ix (show IxR _ (rIxL K) from ix_list) (pv 0) pe_int (fun _ _ => rfl)) pa_nil)) (nomark _)))))
      (pss_cons (ps_asg (pe_op op_fdivN (pv 3) (pv 1)) (pg_sub (pv 0) pe_int set_listG))
    (pss_one (ps_ret (pe_op op_modN (pv 3) (pv 1)))))
      pss_nil)
    (pss_cons (ps_set (i := 4) sc_q_next.nd rfl (Or.inl rfl) (pe_op op_modN (pe_op op_add (pe_op op_add (pe_op op_modN (pv 3) pe_int) (pe_op op_mul pe_int (pe_ix (show IxR _ (rIxL K) from ix_list) (pv 0) pe_int (fun _ _ => rfl)))) pe_int) pe_int))
    (pss_cons (ps_set (i := 4) sc_q_next.nd rfl (Or.inl rfl) (pe_op op_modN (pe_op op_add (pe_op op_add (pe_op op_mul (pv 4) (pv 4)) (pe_op op_mul pe_int (pv 4))) (pe_ix (show IxR _ (rIxL K) from ix_list) (pv 0) pe_int (fun _ _ => rfl))) pe_int))
    (pss_cons (ps_set (i := 4) sc_q_next.nd rfl (Or.inl rfl) (pe_op op_modN (pe_op op_add (pe_op op_add (pe_op op_mul (pv 4) (pv 4)) (pe_op op_mul pe_int (pv 4))) (pe_op op_mul pe_int (pe_ix (show IxR _ (rIxL K) from ix_list) (pv 0) pe_int (fun _ _ => rfl)))) pe_int))
    (pss_one (ps_ret (pe_op op_modN (pe_op op_fdivN (pv 4) pe_int) (pv 1)))))))))))), ?_⟩
    obtain ⟨ns, p, l, t, f0, hl, hp, hl0, ht, hb⟩ := hF
    have hmr : CDivN 0 m := ⟨by omega, by omega⟩
    have hm0 : m ≠ 0 := hmr.1
    walk_at "rd"
    refine sIxL (.of f0.lst) (atI_nat (j := 3) rfl) ?_
    walk_at "rd"
    refine sSetL (j := 3) f0.lst rfl fun H1 e1 z1 => ?_
    have f1 : F3 H1 d c ns p l (t + 1) := f0.set e1 z1 rfl
    walk_at "rd"
    refine sIxL (.of f1.lst) (atI_nat (j := 2) rfl) ?_
    walk_at "rd"
    refine ifD (fun c1 => ?_) (fun c1 => ?_)
    · walk_at "rd"
      refine sIxL (.of f1.lst) (atI_nat (j := 2) rfl) ?_
      walk_at "rd"
      refine sIxL (.of f1.lst) (atI_nat (j := 2) rfl) ?_
      walk_at "rd"
      refine sSetL (j := 2) f1.lst rfl fun H2 e2 z2 => ?_
      walk_at "rd"
      exact q _ H2 (fmod_ge hm) (fmod_lt hm) (e1.trans e2) ⟨ns, _, _, _, f1.set e2 z2 rfl, hl, hp, fdiv_ge hl0 hm, by omega, by omega⟩
    walk_at "rd"
    refine sIxL (.of f1.lst) (atI_nat (j := 0) rfl) ?_
    walk_at "rd"
    intro z H2 e2 n2 z2
    have f2 := f1.kp e2
    have cl : SqL K H2 c (ns.map V.int) := .of f2.cells
    refine sNeD (.lst cl (dpInts K H2 ns)) (.lst (.of z2) .nil) (shapedInts ns) rfl ?_
    walk_at "rd"
    refine sIfE (fun v => ∃ i, v = .int i) (fun F hF => ?_) ?_
    · cases ns with
      | nil =>
        refine iteF ?_
        walk_at "rd"
        exact hF _ ⟨_, rfl⟩
      | cons n0 nr =>
        refine iteT ?_
        walk_at "rd"
        refine sIxL (.of f2.lst) (atI_nat (j := 0) rfl) ?_
        walk_at "rd"
        refine sIxL (.of f2.lst) (atI_nat (j := 1) rfl) ?_
        walk_at "rd"
        refine sIxL (.of f2.lst) (atI_nat (j := 0) rfl) ?_
        walk_at "rd"
        refine sLenL cl ?_
        walk_at "rd"
        have h0 : (0 : Int) < (((n0 :: nr).map V.int).length : Nat) := by rw [List.length_map, List.length_cons]; omega
        refine sI (by show _ ≠ _; omega) ?_
        have hlt := fmod_lt (a := p) h0
        have hge := fmod_ge (a := p) h0
        obtain ⟨j, hj⟩ : ∃ j : Nat, p.fmod (((n0 :: nr).map V.int).length : Nat) = (j : Int) := ⟨_, (Int.toNat_of_nonneg hge).symm⟩
        rw [hj] at hlt ⊢
        have hj2 : j < (n0 :: nr).length := by rw [List.length_map] at hlt; omega
        refine sIxL cl (atI_nat (v := .int (n0 :: nr)[j]) ?_) ?_
        · rw [List.getElem?_map, List.getElem?_eq_getElem hj2]; rfl
        · exact hF _ ⟨_, rfl⟩
    rintro _ ⟨cell, rfl⟩
    walk_at "rd"
    refine sIxL (.of f2.lst) (atI_nat (j := 1) rfl) ?_
    walk_at "rd"
    refine sSetL (j := 1) f2.lst rfl fun H3 e3 z3 => ?_
    have f3 : F3 H3 d c ns (p + 1) l (t + 1) := f2.set e3 z3 rfl
    walk_at "rd"
    have e03 := e1.trans (e2.non.trans e3)
    have cl3 : SqL K H3 c (ns.map V.int) := .of f3.cells
    refine sAndK (fun z H' => H' = H3 ∧ (z = true → 10 ^ 18 ≤ cell)) (fun F hF => ?_) ?_
    · refine ifD (fun c2 => ?_) (fun c2 => ?_)
      · walk_at "rd"
        refine sIxL (.of f3.lst) (atI_nat (j := 1) rfl) ?_
        walk_at "rd"
        refine sIxL (.of f3.lst) (atI_nat (j := 0) rfl) ?_
        walk_at "rd"
        refine sLenL cl3 ?_
        walk_at "rd"
        exact hF _ _ ⟨rfl, fun _ => c2⟩
      · exact hF _ _ ⟨rfl, fun z => by cases z⟩
    rintro z _ ⟨rfl, hz⟩
    cases z with
    | true =>
      refine iteT ?_
      have hc := hz rfl
      walk_at "rd"
      refine sSetL (j := 2) f3.lst rfl fun H4 e4 z4 => ?_
      walk_at "rd"
      exact q _ H4 (fmod_ge hm) (fmod_lt hm) (e03.trans e4) ⟨ns, _, _, _, f3.set e4 z4 rfl, hl, by omega, fdiv_ge (by omega) hm, by omega, by omega⟩
    | false =>
      refine iteF ?_
      have m1 := fmod_lt (a := cell) (m := 1073741789) (by omega)
      have m0 := fmod_ge (a := cell) (m := 1073741789) (by omega)
      walk_at "rd"
      refine sIxL (.of f3.lst) (atI_nat (j := 3) rfl) ?_
      walk_at "rd"
      refine sI (.inl ⟨by omega, by omega⟩) ?_
      walk_at "rd"
      have m2 := fmod_lt (a := cell.fmod 1073741789 + 7919 * (t + 1) + 13) (m := 2147483629) (by omega)
      have m3 := fmod_ge (a := cell.fmod 1073741789 + 7919 * (t + 1) + 13) (m := 2147483629) (by omega)
      generalize (cell.fmod 1073741789 + 7919 * (t + 1) + 13).fmod 2147483629 = x at m2 m3 ⊢
      refine sI (.inl ⟨by omega, by omega⟩) ?_
      walk_at "rd"
      refine sI (.inl ⟨by omega, by omega⟩) ?_
      walk_at "rd"
      refine sIxL (.of f3.lst) (atI_nat (j := 3) rfl) ?_
      walk_at "rd"
      have m4 := fmod_lt (a := x * x + 48271 * x + (t + 1)) (m := 2147483629) (by omega)
      have m5 := fmod_ge (a := x * x + 48271 * x + (t + 1)) (m := 2147483629) (by omega)
      generalize (x * x + 48271 * x + (t + 1)).fmod 2147483629 = y at m4 m5 ⊢
      refine sI (.inl ⟨by omega, by omega⟩) ?_
      walk_at "rd"
      refine sI (.inl ⟨by omega, by omega⟩) ?_
      walk_at "rd"
      refine sIxL (.of f3.lst) (atI_nat (j := 3) rfl) ?_
      walk_at "rd"
      refine sI (.inl ⟨by omega, by omega⟩) ?_
      walk_at "rd"
      exact q _ _ (fmod_ge hm) (fmod_lt hm) e03 ⟨ns, _, _, _, f3, hl, by omega, hl0, by omega, by omega⟩

def sp_q_rule (K : PySem.W.Frag) : Sp := fun vs H Q _ => ∃ (d c : Addr) (b : Nat), vs = [.ref d] ∧ Feed3 H d c (b + 1) ∧
  ∀ (w : Str) H', w ∈ words8 → Kp (At d) H H' → Feed3 H' d c b → Q (.str w) H'
theorem sc_q_rule : FnScope N_q_rule ["_law_tape_here"] (defScope s_q_rule) := ⟨rfl, rfl, rfl, by decide +kernel, rfl, by decide +kernel, by decide +kernel⟩
theorem ok_q_rule (T : Txt K mg) : FnOk P w K mg base CX0 2 T.f_q_rule T.fd_q_rule ["_law_tape_here"] (sp_q_rule K) := by
  refine T.F_q_rule.ok sc_q_rule (fun vs H Q E h => ?_) (fun cdv A out s H vs Q E hr h => ?_)
  · obtain ⟨d, c, b, rfl, hF, q⟩ := h
    rfl
  · obtain ⟨d, c, b, rfl, hF, q⟩ := h
    have hu := hu_of hr
    have hu1 : (A.deeper (envOfC "_law_rule" (defScope s_q_rule) s.heap.objs.size T.f_q_rule cdv)).units + 160 < cLine := by have := hr.un; omega
    refine ⟨_, (pss_one (ps_ret (pe_ix (show IxR _ (rIxL K) from ix_list) (pe_lstG (pa_cons pe_str (pa_cons pe_str (pa_cons pe_str (pa_cons pe_str (pa_cons pe_str (pa_cons pe_str (pa_cons pe_str (pa_cons pe_str pa_nil))))))))) (pe_call (ok_q_next T) (hr.mono (by decide)) (by rfl) T.m_q_next T.F_q_next.kp T.b_q_next .nil pass0 (pa_cons (pv 0) (pa_cons pe_int pa_nil))) (fun _ _ => rfl)))), ?_⟩
    walk_at "rd"
    intro p1 H1 e1 n1 z1
    walk_at "rd"
    refine ⟨d, c, 8, b, rfl, by omega, by omega, hF.non e1, fun n H2 n0 n1' e2 F2 => ?_⟩
    have np1 : p1 ≠ d := fun z => by have := hF.live.1; rw [← z] at this; exact this n1
    have z1 : H1 p1 = some (.lst (words8.map V.str)) := z1
    obtain ⟨w, hw, ew⟩ := atI_strs (ws := words8) n0 n1'
    refine sIxL (.of (e2.same _ _ np1 z1)) ew ?_
    exact q w H2 hw (e1.non.trans e2) F2

def sp_q_way (K : PySem.W.Frag) : Sp := fun vs H Q _ => ∃ (d c : Addr) (b : Nat), vs = [.ref d] ∧ Feed3 H d c (b + 101) ∧
  ∀ (way : List (List Comer)) v H', (∀ b ∈ way, ∀ c ∈ b, c.work = 1) → way.length ≤ 24 → manyIn way ≤ 40 → TD K H' v (wayD way) → Kp (At d) H H' → Feed3 H' d c b → Q v H'
theorem sc_q_way : FnScope N_q_way ["_law_tape_here"] (defScope s_q_way) := ⟨rfl, rfl, rfl, by decide +kernel, rfl, by decide +kernel, by decide +kernel⟩
theorem ok_q_way (T : Txt K mg) : FnOk P w K mg base CX0 2 T.f_q_way T.fd_q_way ["_law_tape_here"] (sp_q_way K) := by
  refine T.F_q_way.ok sc_q_way (fun vs H Q E h => ?_) (fun cdv A out s H vs Q E hr h => ?_)
  · obtain ⟨d, c, b, rfl, hF, q⟩ := h
    rfl
  · obtain ⟨d, c, b, rfl, hF, q⟩ := h
    have hu := hu_of hr
    have hu1 : (A.deeper (envOfC "_law_way" (defScope s_q_way) s.heap.objs.size T.f_q_way cdv)).units + 160 < cLine := by have := hr.un; omega
    refine ⟨_, (pss_cons (ps_set (i := 1) sc_q_way.nd rfl (Or.inl rfl) (pe_lstG pa_nil))
    (pss_cons (ps_set (i := 2) sc_q_way.nd rfl (Or.inl rfl) pe_int)
    (pss_cons (ps_for PassesOwn.never rfl (pi_range1 rfl T.z_range (pa_cons (pe_call (ok_q_next T) (hr.mono (by decide)) (by rfl) T.m_q_next T.F_q_next.kp T.b_q_next .nil pass0 (pa_cons (pv 0) (pa_cons pe_int pa_nil))) pa_nil)) (pg_name (i := 3) sc_q_way.nd rfl (Or.inl rfl))
      (pss_cons (ps_set (i := 4) sc_q_way.nd rfl (Or.inl rfl) (pe_callB (call_min2G rfl) (by rfl) T.z_min (by decide +kernel) (pa_cons (pv 2) (pa_cons (pe_call (ok_q_next T) (hr.mono (by decide)) (by rfl) T.m_q_next T.F_q_next.kp T.b_q_next .nil pass0 (pa_cons (pv 0) (pa_cons pe_int pa_nil))) pa_nil))))
    (pss_cons (ps_set (i := 2) sc_q_way.nd rfl (Or.inl rfl) (pe_op op_sub (pv 2) (pv 4)))
    (pss_one (ps_expr (show PE _ _ (tBM K "list" rAppG _ _) from pe_bm PySem.F.plainAttrs_list PySem.F.slot_list_append PySem.F.type_list_append mt_appendG (pv 1) (pa_cons (pe_callTy (show CallR _ _ (rTupG K) from call_tupleG) (by rfl) T.z_tuple (by decide +kernel) (pa_cons (pe_lc (own := [("_law_j", 5)]) (g := (gName 5)) (tt := tYes) rfl sc_q_way.nd (pi_range1 rfl T.z_range (pa_cons (pv 4) pa_nil)) (blkOk_by (N := N_q_way) (sc := defScope s_q_way) (by decide +kernel)) (fun _ _ _ _ _ => (pg_name (i := 5) sc_q_way.nd rfl (Or.inl rfl))) (fun _ _ _ _ _ => pts_nil) (fun _ _ _ _ _ => (pe_tupG (pa_cons (pe_call (ok_q_next T) (hr.mono (by decide)) (by rfl) T.m_q_next T.F_q_next.kp T.b_q_next .nil pass0 (pa_cons (pv 0) (pa_cons pe_int pa_nil))) (pa_cons pe_int pa_nil))))) pa_nil)) pa_nil)))))))
    (pss_one (ps_ret (pe_callTy (show CallR _ _ (rTupG K) from call_tupleG) (by rfl) T.z_tuple (by decide +kernel) (pa_cons (pv 1) pa_nil))))))), ?_⟩
    walk_at "rd"
    intro pw H1 e1 n1 z1
    walk_at "rd"
    have F1 := hF.non e1
    refine ⟨d, c, 25, b + 100, rfl, by omega, by omega, F1, fun n H2 n0 n1' e2 F2 => ?_⟩
    have npd : pw ≠ d := fun z => by have := hF.live.1; rw [← z] at this; exact this n1
    have npc : pw ≠ c := fun z => by have := hF.live.2; rw [← z] at this; exact this n1
    have z2 := e2.same _ _ npd z1
    have fpw : H pw = none := n1
    refine forRange (n := n.toNat) (fun i σ H' => ∃ (ys : List V) (way : List (List Comer)) (v3 v4 v5 : Option V), σ = [some (.ref d), some (.ref pw), some (.int (40 - manyIn way : Nat)), v3, v4, v5] ∧
        H' pw = some (.lst ys) ∧ TDs K H' ys (way.map beatD) ∧ way.length = i ∧ (∀ b ∈ way, ∀ c ∈ b, c.work = 1) ∧ manyIn way ≤ 40 ∧ Kp (At d) H H' ∧ Feed3 H' d c (b + 4 * (24 - i))) rfl (by omega) (by omega) ?_ ?_ ?_
    · exact ⟨[], [], none, none, none, rfl, z2, .nil, rfl, (fun _ z => nomatch z), Nat.zero_le _, e1.non.trans e2, F2.less (by omega)⟩
    · rintro i σ H3 hi ⟨ys, way, v3, v4, v5, rfl, z3, hY, hwl, hok, hmn, k3, F3⟩
      walk_at "rd"
      refine ⟨d, c, 4, b + 4 * (24 - i) - 1, rfl, by omega, by omega, F3.less (by omega), fun m H4 m0 m1 e4 F4 => ?_⟩
      walk_at "rd"
      obtain ⟨mm, em, em2, em3⟩ : ∃ mm : Nat, (if m < ((40 - manyIn way : Nat) : Int) then m else ((40 - manyIn way : Nat) : Int)) = (mm : Int) ∧ mm ≤ 3 ∧ manyIn way + mm ≤ 40 := by
        split
        · exact ⟨m.toNat, by omega, by omega, by omega⟩
        · exact ⟨40 - manyIn way, rfl, by omega, by omega⟩
      rw [em]
      have z4 := e4.same _ _ npd z3
      walk_at "rd"
      refine lcRange (S := At d) (n := mm) (P := fun j bs H' => ∃ bt : List Comer, TDs K H' bs (bt.map Comer.d) ∧ bt.length = j ∧ (∀ x ∈ bt, x.work = 1) ∧ Feed3 H' d c (b + 4 * (24 - (i + 1)) + (3 - j)))
        (by omega) (by omega) (by omega) (fun b z => by rw [z]; exact F4.live.1) ?_ ?_ ?_ ?_
      · exact fun H' e' => ⟨[], .nil, rfl, (fun _ z => nomatch z), (F4.non e').less (by omega)⟩
      · rintro D nD j ys H6 H7 ⟨bt, h1, h2, h3, h5⟩ k7
        obtain ⟨o1, o2⟩ := F4.off nD
        exact ⟨bt, h1.kp k7, h2, h3, h5.kp k7 o1 o2⟩
      · rintro j hj D bs H6 Z k6 ⟨bt, h1, h2, h3, h5⟩ keep skip
        walk_at "rd"
        refine ⟨rfl, ?_⟩
        walk_at "rd"
        refine ⟨d, c, 2, b + 4 * (24 - (i + 1)) + (3 - (j + 1)), rfl, by omega, by omega, h5.less (by omega), fun r H7 r0 r1 e7 F7 => ?_⟩
        walk_at "rd"
        intro u H9 e9 nu z9
        refine keep _ _ (e7.trans e9.non) ⟨bt ++ [⟨r.toNat, 1⟩], ?_, by rw [List.length_append, h2]; rfl, ?_, F7.non e9⟩
        · rw [List.map_append]
          refine ((h1.kp e7).kp e9).append (.cons (TD.mkComer (.of ?_)) .nil)
          rw [z9]
          show _ = some (HO.tup [V.int (r.toNat : Int), V.int 1])
          rw [Int.toNat_of_nonneg r0]
        · intro x hx
          rcases List.mem_append.mp hx with z | z
          · exact h3 x z
          · rw [List.mem_singleton.mp z]
      · rintro D bs H6 ⟨bt, h1, h2, h3, h5⟩ _ k6 nD zD
        walk_at "rd"
        refine sTupL (.of zD) fun tb H8 e8 hb8 => ?_
        walk_at "rd"
        have zw8 := e8.same _ _ (fun z => z) (k6.same _ _ npd z4)
        have k38 := (e4.trans k6).trans e8.non
        refine sApp zw8 (small1000 (by rw [hY.lenMap]; omega)) fun H9 e9 z9 => ?_
        walk_at "rd"
        have mapp : manyIn (way ++ [bt]) = manyIn way + bt.length := by
          unfold manyIn
          simp
        refine ⟨_, way ++ [bt], some (.int (0 + i)), some (.int mm), v5, ?_, z9, ?_, by rw [List.length_append, hwl]; rfl, ?_, by omega, ?_, (((h5.non e8).kp e9 npd.symm npc.symm)).less (by omega)⟩
        · rw [mapp, h2, show ((40 - (manyIn way + mm) : Nat) : Int) = ((40 - manyIn way : Nat) : Int) - (mm : Int) by omega]
          rfl
        · rw [List.map_append]
          exact ((hY.kp k38).kp e9).append (.cons (.tup (e9.sqT hb8) ((h1.kp e8).kp e9)) .nil)
        · intro x hx
          rcases List.mem_append.mp hx with z | z
          · exact hok x z
          · rw [List.mem_singleton.mp z]; exact h3
        · exact Kp.drop (p := pw) (((k3.trans k38).wide fun b z => .inr z).trans (e9.wide fun b z => .inl z)) fpw
    · rintro σ H3 ⟨ys, way, v3, v4, v5, rfl, z3, hY, hwl, hok, hmn, k3, F3⟩
      walk_at "rd"
      refine sTupL (.of z3) fun tw H4 e4 h4 => ?_
      exact q way _ H4 hok (by omega) hmn (.tup h4 (hY.kp e4)) (k3.trans e4.non) ((F3.non e4).less (by omega))

def sp_q_counts (K : PySem.W.Frag) : Sp := fun vs H Q _ => ∃ (hv wv : V) (h : House) (way : List (List Comer)), vs = [hv, wv] ∧ TD K H hv h.d ∧ TD K H wv (wayD way) ∧ way.length ≤ 400 ∧
  ∀ v H', Kp Non H H' → Two H' v (way.length + 1) (insAt h.hands h.places way) (lossAt h.hands h.places way) → Q v H'
theorem sc_q_counts : FnScope N_q_counts ["_law_house", "_law_way_here"] (defScope s_q_counts) := ⟨rfl, rfl, rfl, by decide +kernel, rfl, by decide +kernel, by decide +kernel⟩
theorem ok_q_counts (T : Txt K mg) : FnOk P w K mg base CX0 1 T.f_q_counts T.fd_q_counts ["_law_house", "_law_way_here"] (sp_q_counts K) := by
  refine T.F_q_counts.ok sc_q_counts (fun vs H Q E h => ?_) (fun cdv A out s H vs Q E hr h => ?_)
  · obtain ⟨hv, wv, h, way, rfl, hh, hw, hm, q⟩ := h
    rfl
  · obtain ⟨hv, wv, h, way, rfl, hh, hw, hm, q⟩ := h
    have hu := hu_of hr
    have hu1 : (A.deeper (envOfC "_law_counts" (defScope s_q_counts) s.heap.objs.size T.f_q_counts cdv)).units + 160 < cLine := by have := hr.un; omega
    refine ⟨_, (pss_cons (ps_asg (pe_slice (show SlR _ (rSlTG K) from sl_tupG) (pv 0) po_none (po_some pe_int)) (show PG _ _ (gTup K 2 _) from pg_tup rfl (pgs_cons (pg_name (i := 2) sc_q_counts.nd rfl (Or.inl rfl)) (pgs_cons (pg_name (i := 3) sc_q_counts.nd rfl (Or.inl rfl)) pgs_nil))))
    (pss_cons (ps_par (i := 4) (j := 5) rfl sc_q_counts.nd rfl rfl (by decide) rfl rfl (pa_cons (pe_lstG (pa_cons pe_int pa_nil)) (pa_cons (pe_lstG (pa_cons pe_int pa_nil)) pa_nil)) (by rfl))
    (pss_cons (ps_for PassesOwn.never rfl (show PI _ _ _ (iTup K _) from pi_tup (pv 1)) (pg_name (i := 6) sc_q_counts.nd rfl (Or.inl rfl))
      (pss_cons (ps_set (i := 7) sc_q_counts.nd rfl (Or.inl rfl) (pe_op op_add (pe_ix (show IxR _ (rIxL K) from ix_list) (pv 4) (pe_un un_neg pe_int) (fun _ _ => rfl)) (pe_callB (show CallR _ _ (rLenG K) from call_lenG) (by rfl) T.z_len (by decide +kernel) (pa_cons (pv 6) pa_nil))))
    (pss_cons (ps_set (i := 8) sc_q_counts.nd rfl (Or.inl rfl) (pe_ifExp (pt_cmpR op_isNG (pv 3) pe_non (nomark _)) (pv 7) (pe_callB (call_min2G rfl) (by rfl) T.z_min (by decide +kernel) (pa_cons (pv 7) (pa_cons (pv 3) pa_nil)))))
    (pss_cons (ps_expr (show PE _ _ (tBM K "list" rAppG _ _) from pe_bm PySem.F.plainAttrs_list PySem.F.slot_list_append PySem.F.type_list_append mt_appendG (pv 5) (pa_cons (pe_op op_sub (pe_op op_add (pe_ix (show IxR _ (rIxL K) from ix_list) (pv 5) (pe_un un_neg pe_int) (fun _ _ => rfl)) (pv 7)) (pv 8)) pa_nil)))
    (pss_one (ps_expr (show PE _ _ (tBM K "list" rAppG _ _) from pe_bm PySem.F.plainAttrs_list PySem.F.slot_list_append PySem.F.type_list_append mt_appendG (pv 4) (pa_cons (pe_callB (call_max2G rfl) (by rfl) T.z_max (by decide +kernel) (pa_cons pe_int (pa_cons (pe_op op_sub (pv 8) (pv 2)) pa_nil))) pa_nil))))))))
    (pss_one (ps_ret (pe_tupG (pa_cons (pv 4) (pa_cons (pv 5) pa_nil)))))))), ?_⟩
    obtain ⟨t, rfl, hT⟩ := hh.house
    obtain ⟨tw, ws, rfl, hW, hWS⟩ := hw.ref
    have hwl : ws.length = way.length := hWS.lenMap
    walk_at "rd"
    refine sSlT hT fun p1 H1 e1 z1 => ?_
    have z1 : SqT K H1 p1 [.int h.hands, optV h.places] := by
      have e := cutTake [V.int h.hands, optV h.places, .str h.rule] 2
      have e : cutV [V.int h.hands, optV h.places, .str h.rule] none (some 2) = [V.int h.hands, optV h.places] := e
      rw [e] at z1
      exact z1
    refine sGTup z1 rfl ?_
    walk_at "rd"
    intro pi H2 e2 n2 z2
    walk_at "rd"
    intro pl H3 e3 n3 z3
    walk_at "rd"
    have z2' := e3.same _ _ (fun z => z) z2
    have nil : pi ≠ pl := fun z => by rw [z, n3] at z2; cases z2
    have k3 := (e1.trans e2).trans e3
    have fi : H pi = none := e1.live _ n2
    have fl : H pl = none := e1.live _ (e2.live _ n3)
    refine forTup (xs := ws) (fun i σ H' => ∃ v6 v7 v8, σ = [some (.ref t), some (.ref tw), some (.int h.hands), some (optV h.places), some (.ref pi), some (.ref pl), v6, v7, v8] ∧ Kp Non H H' ∧
        H' pi = some (.lst ((List.range (i + 1)).map fun i => V.int (insAt h.hands h.places way i))) ∧ H' pl = some (.lst ((List.range (i + 1)).map fun i => V.int (lossAt h.hands h.places way i)))) (fun i σ H' ⟨_, _, _, _, k, _⟩ => k.sqT hW) ?_ ?_ ?_
    · exact ⟨none, none, none, rfl, k3, z2', z3⟩
    · rintro i x σ H4 hx ⟨v6, v7, v8, rfl, k4, zi, zl⟩
      obtain ⟨b, hb, hx2⟩ := hWS.of hx
      have hi : i < way.length := (List.getElem?_eq_some_iff.mp hb).1
      have hbd : way.getD i [] = b := by rw [List.getD_eq_getElem?_getD, hb]; rfl
      obtain ⟨tb, bs, rfl, hB, hBS⟩ := (hx2.kp k4).ref
      have hbs : bs.length = b.length := hBS.lenMap
      have last : ∀ f : Nat → Nat, atI ((List.range (i + 1)).map fun i => V.int (f i)) (-1) = some (.int (f i)) := by
        intro f
        rw [List.range_succ, List.map_append]
        exact atI_last
      walk_at "rd"
      refine sIxL (.of zi) (last _) ?_
      walk_at "rd"
      refine sLenT hB ?_
      walk_at "rd"
      rw [hbs]
      have em : ((insAt h.hands h.places way i : Nat) : Int) + (b.length : Int) = ((insAt h.hands h.places way i + b.length : Nat) : Int) := by omega
      rw [em]
      refine sIfE (fun v => v = .int (capAll h.places (insAt h.hands h.places way i + b.length) : Nat)) (fun F hF => ?_) ?_
      · cases e : h.places with
        | none =>
          refine iteT ?_
          walk_at "rd"
          exact hF _ (by rw [e]; rfl)
        | some n =>
          refine iteF ?_
          walk_at "rd"
          refine sMin (j := (n : Int)) ?_
          refine hF _ ?_
          rw [e]
          show V.int _ = V.int ((min (insAt h.hands (some n) way i + b.length) n : Nat) : Int)
          congr 1
          split <;> omega
      rintro _ rfl
      walk_at "rd"
      refine sIxL (.of zl) (last _) ?_
      walk_at "rd"
      refine sApp zl (small1000 (by rw [List.length_map, List.length_range]; omega)) fun H5 e5 z5 => ?_
      walk_at "rd"
      have zi5 := e5.same _ _ nil zi
      refine sTy zi5 ?_
      walk_at "rd"
      refine sApp zi5 (small1000 (by rw [List.length_map, List.length_range]; omega)) fun H6 e6 z6 => ?_
      walk_at "rd"
      have ci : (if 0 < ((capAll h.places (insAt h.hands h.places way i + b.length) : Nat) : Int) - (h.hands : Int) then ((capAll h.places (insAt h.hands h.places way i + b.length) : Nat) : Int) - (h.hands : Int) else 0) = ((insAt h.hands h.places way (i + 1) : Nat) : Int) := by
        show _ = ((capAll h.places (insAt h.hands h.places way i + (way.getD i []).length) - h.hands : Nat) : Int)
        rw [hbd]
        split <;> omega
      have cl : ((lossAt h.hands h.places way i : Nat) : Int) + ((insAt h.hands h.places way i + b.length : Nat) : Int) - ((capAll h.places (insAt h.hands h.places way i + b.length) : Nat) : Int) = ((lossAt h.hands h.places way (i + 1) : Nat) : Int) := by
        show _ = ((lossAt h.hands h.places way i + (insAt h.hands h.places way i + (way.getD i []).length) - capAll h.places (insAt h.hands h.places way i + (way.getD i []).length) : Nat) : Int)
        rw [hbd]
        have := capAll_le h.places (insAt h.hands h.places way i + b.length)
        omega
      refine ⟨_, _, _, rfl, Kp.drop (Kp.drop (((k4.wide fun b z => z.elim).trans (e5.wide fun b z => .inr (.inl z))).trans (e6.wide fun b z => .inl z)) fi) fl, ?_, ?_⟩
      · rw [z6, List.range_succ (n := i + 1), List.map_append]
        refine congrArg (fun z : Int => some (HO.lst (_ ++ [V.int z]))) ?_
        exact ci
      · rw [e6.same _ _ nil.symm z5, List.range_succ (n := i + 1), List.map_append]
        refine congrArg (fun z : Int => some (HO.lst (_ ++ [V.int z]))) ?_
        exact cl
    · rintro σ H4 ⟨v6, v7, v8, rfl, k4, zi, zl⟩
      rw [hwl] at zi zl
      walk_at "rd"
      intro w H5 e5 n5 z5
      exact q _ H5 (k4.trans e5) ⟨w, pi, pl, rfl, z5, e5.same _ _ (fun z => z) zi, e5.same _ _ (fun z => z) zl⟩

def sp_q_told (K : PySem.W.Frag) : Sp := fun vs H Q _ => ∃ (hv wv : V) (h : House) (way : List (List Comer)), vs = [hv, wv] ∧ TD K H hv h.d ∧ TD K H wv (wayD way) ∧ (manyIn way ≤ 200 ∧ way.length ≤ 400) ∧ (∀ b ∈ way, ∀ c ∈ b, c.work = 1) ∧
  ∀ v H', Kp Non H H' → Two H' v (way.length + 1) (insAt h.hands h.places way) (lossAt h.hands h.places way) → Q v H'
theorem sc_q_told : FnScope N_q_told ["_law_house", "_law_way_here"] (defScope s_q_told) := ⟨rfl, rfl, rfl, by decide +kernel, rfl, by decide +kernel, by decide +kernel⟩
theorem ok_q_told (T : Txt K mg) : FnOk P w K mg base CX0 5 T.f_q_told T.fd_q_told ["_law_house", "_law_way_here"] (sp_q_told K) := by
  refine T.F_q_told.ok sc_q_told (fun vs H Q E h => ?_) (fun cdv A out s H vs Q E hr h => ?_)
  · obtain ⟨hv, wv, h, way, rfl, hh, hw, hm, hw1, q⟩ := h
    rfl
  · obtain ⟨hv, wv, h, way, rfl, hh, hw, hm, hw1, q⟩ := h
    have hu := hu_of hr
    have hu1 : (A.deeper (envOfC "_law_told" (defScope s_q_told) s.heap.objs.size T.f_q_told cdv)).units + 160 < cLine := by have := hr.un; omega
    refine ⟨_, (pss_cons (ps_asg (pe_call (ok_p_run T) (hr.mono (by decide)) (by rfl) T.m_p_run T.F_p_run.kp T.b_p_run .nil pass0 (pa_cons (pv 0) (pa_cons (pv 1) (pa_cons (pe_tupG pa_nil) pa_nil)))) (show PG _ _ (gTup K 3 _) from pg_tup rfl (pgs_cons (pg_name (i := 2) sc_q_told.nd rfl (Or.inl rfl)) (pgs_cons (pg_name (i := 3) sc_q_told.nd rfl (Or.inl rfl)) (pgs_cons (pg_name (i := 4) sc_q_told.nd rfl (Or.inl rfl)) pgs_nil)))))
    (pss_cons (ps_set (i := 5) sc_q_told.nd rfl (Or.inl rfl) (pe_lstG (pa_cons pe_int pa_nil)))
    (pss_cons (ps_for PassesOwn.never rfl (show PI _ _ _ (iTup K _) from pi_tup (pv 3)) (pg_name (i := 6) sc_q_told.nd rfl (Or.inl rfl))
      (pss_one (ps_expr (show PE _ _ (tBM K "list" rAppG _ _) from pe_bm PySem.F.plainAttrs_list PySem.F.slot_list_append PySem.F.type_list_append mt_appendG (pv 5) (pa_cons (pe_op op_add (pe_ix (show IxR _ (rIxL K) from ix_list) (pv 5) (pe_un un_neg pe_int) (fun _ _ => rfl)) (pv 6)) pa_nil)))))
    (pss_one (ps_ret (pe_tupG (pa_cons (pe_lc (own := [("_law_stand", 7)]) (g := (gName 7)) (tt := tYes) rfl sc_q_told.nd (show PI _ _ _ (iTup K _) from pi_tup (pv 2)) (blkOk_by (N := N_q_told) (sc := defScope s_q_told) (by decide +kernel)) (fun _ _ _ _ _ => (pg_name (i := 7) sc_q_told.nd rfl (Or.inl rfl))) (fun _ _ _ _ _ => pts_nil) (fun _ _ _ _ _ => (pe_callB (show CallR _ _ (rLenG K) from call_lenG) (by rfl) T.z_len (by decide +kernel) (pa_cons (pv 7) pa_nil)))) (pa_cons (pv 5) pa_nil)))))))), ?_⟩
    obtain ⟨hm, hm2⟩ := hm
    have c1 := count1 h way hw1
    walk_at "rd"
    intro p0 H1 e1 n1 z1
    walk_at "rd"
    refine ⟨hv, wv, .ref p0, h, way, [], rfl, hh.kp e1, hw.kp e1, .tup (.of z1) .nil, ⟨by simpa using by omega, by omega⟩, (fun _ z => nomatch z), fun b hb c hc => by rw [hw1 b hb c hc]; exact Nat.le_refl _, fun rv H2 e2 hr => ?_⟩
    obtain ⟨tr, y1, y2, y3, rfl, hR, hy1, hy2, hy3⟩ := TD.three (a := .tuple ((standsOf h way []).map standD)) hr
    obtain ⟨t1, xs1, rfl, hT1, hX1⟩ := hy1.ref
    obtain ⟨t2, rfl, hT2⟩ := hy2.nats
    have k2 := e1.trans e2
    refine sGTup hR rfl ?_
    walk_at "rd"
    intro ps H3 e3 n3 z3
    walk_at "rd"
    have fps : H ps = none := k2.live _ n3
    have ll : (lostOf h way []).length = way.length := by unfold lostOf; rw [List.length_map, List.length_range]
    refine forTup (xs := (lostOf h way []).map fun n : Nat => V.int n) (fun i σ H' => ∃ v6 v7, σ = [some hv, some wv, some (.ref t1), some (.ref t2), some y3, some (.ref ps), v6, v7] ∧ Kp Non H2 H' ∧ Kp Non H H' ∧
        H' ps = some (.lst ((List.range (i + 1)).map fun i => V.int (lossAt h.hands h.places way i)))) (fun i σ H' ⟨_, _, _, k, _⟩ => k.sqT hT2) ?_ ?_ ?_
    · exact ⟨none, none, rfl, e3, k2.trans e3, z3⟩
    · rintro i x σ H4 hx ⟨v6, v7, rfl, k24, k4, z4⟩
      rw [List.getElem?_map] at hx
      have hi : i < way.length := by
        cases e : (lostOf h way [])[i]? with
        | none => rw [e] at hx; cases hx
        | some n => have := (List.getElem?_eq_some_iff.mp e).1; omega
      have hl : (lostOf h way [])[i]? = some (toldAt h way [] i).lost := by
        unfold lostOf
        rw [List.getElem?_map, List.getElem?_range hi]; rfl
      rw [hl] at hx
      cases hx
      walk_at "rd"
      refine sIxL (.of z4) (v := .int (lossAt h.hands h.places way i)) (by rw [List.range_succ, List.map_append]; exact atI_last) ?_
      walk_at "rd"
      refine sApp z4 (small1000 (by rw [List.length_map, List.length_range]; omega)) fun H5 e5 z5 => ?_
      walk_at "rd"
      refine ⟨_, _, rfl, Kp.drop (p := ps) ((k24.wide fun b z => z.elim).trans (e5.wide fun b z => .inl z)) n3, Kp.drop (p := ps) ((k4.wide fun b z => z.elim).trans (e5.wide fun b z => .inl z)) fps, ?_⟩
      rw [z5, List.range_succ (n := i + 1), List.map_append]
      refine congrArg (fun z : Int => some (HO.lst (_ ++ [V.int z]))) ?_
      have a1 := (c1 (i + 1)).2
      rw [List.range_succ, List.map_append, List.sum_append, (c1 i).2] at a1
      rw [← a1]
      simp
    · rintro σ H4 ⟨v6, v7, rfl, k24, k4, z4⟩
      rw [List.length_map, ll] at z4
      have hxl : xs1.length = way.length + 1 := by
        rw [hX1.lenMap]
        unfold standsOf
        rw [List.length_map, List.length_range]
      walk_at "rd"
      refine lcTup (S := Non) (P := fun i zs _ => zs = (List.range i).map fun i => V.int (insAt h.hands h.places way i)) (Nat.le_of_lt (small1000 (by omega))) (k24.sqT hT1) (fun b z => z.elim) (fun _ _ => rfl) (fun D nD i ys H6 H7 h k => h) ?_ ?_
      · rintro i x hx D ys H5 Z k5 rfl keep skip
        have hlt : i < xs1.length := (List.getElem?_eq_some_iff.mp hx).1
        obtain ⟨s, hs, hd⟩ := hX1.of hx
        unfold standsOf at hs
        rw [List.getElem?_map, List.getElem?_range (by omega)] at hs
        cases hs
        obtain ⟨ta, xa, rfl, hsa, hXa⟩ := (hd.kp (k24.trans k5)).stand
        walk_at "rd"
        refine ⟨rfl, ?_⟩
        walk_at "rd"
        refine sLenT hsa ?_
        refine keep _ _ Kp.refl ?_
        dsimp only
        rw [List.range_succ, List.map_append, hXa.lenMap, (c1 i).1]
        rfl
      rintro D ys H5 rfl _ k5 nD zD
      rw [hxl] at zD
      walk_at "rd"
      intro w H6 e6 n6 z6
      exact q _ H6 ((k4.trans k5).trans e6) ⟨w, D, ps, rfl, z6, e6.same _ _ (fun z => z) zD, e6.same _ _ (fun z => z) (k5.same _ _ (fun z => z) z4)⟩

theorem eqvTwo (n : Nat) (f g : Nat → Nat) : PyData.eqv (twoD n f g) (twoD n f g) = true := by
  have e : ∀ (f : Nat → Nat), PyData.eqv (.list ((List.range n).map fun i => PyData.int (f i))) (.list ((List.range n).map fun i => PyData.int (f i))) = true := fun f =>
    eqvListRefl fun d hd => by obtain ⟨i, _, rfl⟩ := List.mem_map.mp hd; exact eqvInt _
  unfold twoD
  rw [PyData.eqv]
  exact eqvAllRefl fun d hd => by
    simp only [List.mem_cons, List.not_mem_nil, or_false] at hd
    rcases hd with rfl | rfl
    · exact e f
    · exact e g
theorem lyTwo (n : Nat) (f g : Nat → Nat) : Ly 2 (twoD n f g) := .tup (.cons (.lst (.map fun i _ => .int _)) (.cons (.lst (.map fun i _ => .int _)) .nil))
def sp_law (K : PySem.W.Frag) : Sp := fun vs H Q _ => ∃ (a : Addr) (ns : List Int), vs = [.ref a] ∧ SqL K H a (ns.map V.int) ∧ ns.length ≤ 63 ∧ ∀ H', Q (.bl true) H'
theorem sc_law : FnScope N_law ["_law_script"] (defScope s_law) := ⟨rfl, rfl, rfl, by decide +kernel, rfl, by decide +kernel, by decide +kernel⟩
theorem ok_law (T : Txt K mg) : FnG P w K mg base CX0 6 T.f_law T.fd_law ["_law_script"] (sp_law K) := by
  refine okG0 T.F_law sc_law (fun vs H Q E h => ?_) (fun cdv A out s H vs Q E hgd hr h => ?_)
  · obtain ⟨a, ns, rfl, hS, hl, q⟩ := h
    rfl
  · obtain ⟨a, ns, rfl, hS, hl, q⟩ := h
    have hu := hu_of hr
    have hu1 : (A.deeper (envOfC "law" (defScope s_law) s.heap.objs.size T.f_law cdv)).units + 160 < cLine := by have := hr.un; omega
    refine ⟨_, (pss_cons (ps_set (i := 1) sc_law.nd rfl (Or.inl rfl) (pe_call (ok_q_tape T) (hr.mono (by decide)) (by rfl) T.m_q_tape T.F_q_tape.kp T.b_q_tape .nil pass0 (pa_cons (pv 0) pa_nil)))
    (pss_cons (ps_par (i := 2) (j := 3) rfl sc_law.nd rfl rfl (by decide) rfl rfl (pa_cons (pe_op op_add pe_int (pe_call (ok_q_next T) (hr.mono (by decide)) (by rfl) T.m_q_next T.F_q_next.kp T.b_q_next .nil pass0 (pa_cons (pv 1) (pa_cons pe_int pa_nil)))) (pa_cons (pe_call (ok_q_next T) (hr.mono (by decide)) (by rfl) T.m_q_next T.F_q_next.kp T.b_q_next .nil pass0 (pa_cons (pv 1) (pa_cons pe_int pa_nil))) pa_nil)) (by rfl))
    (pss_cons (ps_set (i := 4) sc_law.nd rfl (Or.inl rfl) (pe_tupG (pa_cons (pv 2) (pa_cons (pv 3) (pa_cons (pe_call (ok_q_rule T) (hr.mono (by decide)) (by rfl) T.m_q_rule T.F_q_rule.kp T.b_q_rule .nil pass0 (pa_cons (pv 1) pa_nil)) pa_nil)))))
    (pss_cons (ps_set (i := 5) sc_law.nd rfl (Or.inl rfl) (pe_tupG (pa_cons (pv 2) (pa_cons (pe_ix (show IxR _ (rIxL K) from ix_list) (pe_lstG (pa_cons (pe_op op_add (pv 3) pe_int) (pa_cons pe_int (pa_cons pe_non (pa_cons (pv 3) pa_nil))))) (pe_call (ok_q_next T) (hr.mono (by decide)) (by rfl) T.m_q_next T.F_q_next.kp T.b_q_next .nil pass0 (pa_cons (pv 1) (pa_cons pe_int pa_nil))) (fun _ _ => rfl)) (pa_cons (pe_call (ok_q_rule T) (hr.mono (by decide)) (by rfl) T.m_q_rule T.F_q_rule.kp T.b_q_rule .nil pass0 (pa_cons (pv 1) pa_nil)) pa_nil)))))
    (pss_cons (ps_set (i := 6) sc_law.nd rfl (Or.inl rfl) (pe_tupG (pa_cons (pe_callB (call_min2G rfl) (by rfl) T.z_min (by decide +kernel) (pa_cons pe_int (pa_cons (pe_op op_add (pv 2) (pe_call (ok_q_next T) (hr.mono (by decide)) (by rfl) T.m_q_next T.F_q_next.kp T.b_q_next .nil pass0 (pa_cons (pv 1) (pa_cons pe_int pa_nil)))) pa_nil))) (pa_cons (pv 3) (pa_cons (pe_call (ok_q_rule T) (hr.mono (by decide)) (by rfl) T.m_q_rule T.F_q_rule.kp T.b_q_rule .nil pass0 (pa_cons (pv 1) pa_nil)) pa_nil)))))
    (pss_cons (ps_set (i := 7) sc_law.nd rfl (Or.inr rfl) (pe_call (ok_q_way T) (hr.mono (by decide)) (by rfl) T.m_q_way T.F_q_way.kp T.b_q_way .nil pass0 (pa_cons (pv 1) pa_nil)))
    (pss_cons (ps_setLc (i := 8) (own := [("_law_house", 9)]) (g := (gName 9)) (tt := tYes) rfl sc_law.nd rfl rfl (sw_true rfl rfl rfl (by decide +kernel)) (show PI _ _ _ (iTup K _) from pi_tup (pe_tupG (pa_cons (pv 4) (pa_cons (pv 5) (pa_cons (pv 6) pa_nil))))) (blkOk_by (N := N_law) (sc := defScope s_law) (by decide +kernel)) (fun _ _ _ _ _ => (pg_name (i := 9) sc_law.nd rfl (Or.inl rfl))) (fun _ _ _ _ _ => pts_nil) (fun _ _ _ _ _ => (pe_call (ok_q_told T) (hr.mono (by decide)) (by rfl) T.m_q_told T.F_q_told.kp T.b_q_told .nil pass0 (pa_cons (pv 9) (pa_cons (pv 7) pa_nil)))))
    (pss_cons (ps_if (pt_cmpR (show OpR _ _ (rNeD K) from op_neD (by have := hr.units; exact this)) (pv 8) (pe_lc (own := [("_law_house", 9)]) (g := (gName 9)) (tt := tYes) rfl sc_law.nd (show PI _ _ _ (iTup K _) from pi_tup (pe_tupG (pa_cons (pv 4) (pa_cons (pv 5) (pa_cons (pv 6) pa_nil))))) (blkOk_by (N := N_law) (sc := defScope s_law) (by decide +kernel)) (fun _ _ _ _ _ => (pg_name (i := 9) sc_law.nd rfl (Or.inl rfl))) (fun _ _ _ _ _ => pts_nil) (fun _ _ _ _ _ => (pe_call (ok_q_counts T) (hr.mono (by decide)) (by rfl) T.m_q_counts T.F_q_counts.kp T.b_q_counts .nil pass0 (pa_cons (pv 9) (pa_cons (pv 7) pa_nil))))) (nomark _))
      (pss_one (ps_ret pe_bl))
      pss_nil)
    (pss_cons (ps_for PassesOwn.never rfl (pi_range1 rfl T.z_range (pa_cons (pe_op op_add (pe_callB (show CallR _ _ (rLenG K) from call_lenG) (by rfl) T.z_len (by decide +kernel) (pa_cons (pv 7) pa_nil)) pe_int) pa_nil)) (pg_name (i := 10) sc_law.nd rfl (Or.inl rfl))
      (pss_cons (ps_if (PW.pt (pw_or (pt_cmpR op_lt (pe_ix (show IxR _ (rIxL K) from ix_list) (pe_ix (show IxR _ (rIxT K) from ix_tup) (pe_ix (show IxR _ (rIxL K) from ix_list) (pv 8) pe_int (fun _ _ => rfl)) pe_int (fun _ _ => rfl)) (pv 10) (fun _ _ => rfl)) (pe_ix (show IxR _ (rIxL K) from ix_list) (pe_ix (show IxR _ (rIxT K) from ix_tup) (pe_ix (show IxR _ (rIxL K) from ix_list) (pv 8) pe_int (fun _ _ => rfl)) pe_int (fun _ _ => rfl)) (pv 10) (fun _ _ => rfl)) (nomark _)) (pw_or1 (pt_cmpR op_gt (pe_ix (show IxR _ (rIxL K) from ix_list) (pe_ix (show IxR _ (rIxT K) from ix_tup) (pe_ix (show IxR _ (rIxL K) from ix_list) (pv 8) pe_int (fun _ _ => rfl)) pe_int (fun _ _ => rfl)) (pv 10) (fun _ _ => rfl)) (pe_ix (show IxR _ (rIxL K) from ix_list) (pe_ix (show IxR _ (rIxT K) from ix_tup) (pe_ix (show IxR _ (rIxL K) from ix_list) (pv 8) pe_int (fun _ _ => rfl)) pe_int (fun _ _ => rfl)) (pv 10) (fun _ _ => rfl)) (nomark _)))))
      (pss_one (ps_ret pe_bl))
      pss_nil)
    (pss_one (ps_if (PW.pt (pw_or (pt_cmpR op_gt (pe_ix (show IxR _ (rIxL K) from ix_list) (pe_ix (show IxR _ (rIxT K) from ix_tup) (pe_ix (show IxR _ (rIxL K) from ix_list) (pv 8) pe_int (fun _ _ => rfl)) pe_int (fun _ _ => rfl)) (pv 10) (fun _ _ => rfl)) (pe_ix (show IxR _ (rIxL K) from ix_list) (pe_ix (show IxR _ (rIxT K) from ix_tup) (pe_ix (show IxR _ (rIxL K) from ix_list) (pv 8) pe_int (fun _ _ => rfl)) pe_int (fun _ _ => rfl)) (pv 10) (fun _ _ => rfl)) (nomark _)) (pw_or1 (pt_cmpR op_gt (pe_ix (show IxR _ (rIxL K) from ix_list) (pe_ix (show IxR _ (rIxT K) from ix_tup) (pe_ix (show IxR _ (rIxL K) from ix_list) (pv 8) pe_int (fun _ _ => rfl)) pe_int (fun _ _ => rfl)) (pv 10) (fun _ _ => rfl)) (pe_ix (show IxR _ (rIxL K) from ix_list) (pe_ix (show IxR _ (rIxT K) from ix_tup) (pe_ix (show IxR _ (rIxL K) from ix_list) (pv 8) pe_int (fun _ _ => rfl)) pe_int (fun _ _ => rfl)) (pv 10) (fun _ _ => rfl)) (nomark _)))))
      (pss_one (ps_ret pe_bl))
      pss_nil))))
    (pss_one (ps_ret pe_bl))))))))))), ?_⟩
    walk_at "rd"
    refine ⟨a, ns, rfl, hS, hl, fun d c H1 e1 nd nc F1 => ?_⟩
    walk_at "rd"
    refine ⟨d, c, 3, 200, rfl, by omega, by omega, F1.less (by omega), fun n2 H2 n20 n21 e2 F2 => ?_⟩
    obtain ⟨hn, hn1, hn2⟩ : ∃ hn : Nat, 1 + n2 = (hn : Int) ∧ hn ≤ 3 := ⟨(1 + n2).toNat, by omega, by omega⟩
    walk_at "rd"
    rw [hn1]
    refine ⟨d, c, 6, 199, rfl, by omega, by omega, F2, fun n3 H3 n30 n31 e3 F3 => ?_⟩
    obtain ⟨pn, hp1, hp2⟩ : ∃ pn : Nat, n3 = (pn : Int) ∧ pn ≤ 5 := ⟨n3.toNat, by omega, by omega⟩
    subst hp1
    walk_at "rd"
    refine ⟨d, c, 198, rfl, F3, fun w1 H4 hw1 e4 F4 => ?_⟩
    walk_at "rd"
    intro po H5 e5 no zo
    have ho : TD K H5 (.ref po) (House.mk hn (some pn) w1).d := TD.mkHouse (.of zo)
    walk_at "rd"
    intro p6 H6 e6 n6 z6
    walk_at "rd"
    have F6 := (F4.non e5).non e6
    refine ⟨d, c, 4, 197, rfl, by omega, by omega, F6, fun n7 H7 n70 n71 e7 F7 => ?_⟩
    have np6 : p6 ≠ d := fun z => by have := (F4.non e5).live.1; rw [← z] at this; exact this n6
    have z7 := e7.same _ _ np6 z6
    obtain ⟨hk, ek⟩ := atI_of (xs := [V.int ((pn : Int) + 1), V.int 6, V.non, V.int pn]) n70 n71
    refine sIxL (.of z7) ek ?_
    have hv : ∃ o : Option Nat, ([V.int ((pn : Int) + 1), V.int 6, V.non, V.int pn])[n7.toNat] = optV o ∧ plLe (some pn) o := by
      have h3 : n7.toNat < 4 := hk
      generalize n7.toNat = m at hk h3
      match m, h3 with
      | 0, _ => exact ⟨some (pn + 1), rfl, Nat.le_succ _⟩
      | 1, _ => exact ⟨some 6, rfl, by show pn ≤ 6; omega⟩
      | 2, _ => exact ⟨none, rfl, trivial⟩
      | 3, _ => exact ⟨some pn, rfl, Nat.le_refl _⟩
    obtain ⟨o, ho1, ho2⟩ := hv
    rw [ho1]
    walk_at "rd"
    refine ⟨d, c, 196, rfl, F7, fun w2 H8 hw2 e8 F8 => ?_⟩
    walk_at "rd"
    intro pw H9 e9 nw zw
    have hw : TD K H9 (.ref pw) (House.mk hn o w2).d := TD.mkHouse (.of zw)
    walk_at "rd"
    refine ⟨d, c, 3, 195, rfl, by omega, by omega, F8.non e9, fun n10 H10 n100 n101 e10 F10 => ?_⟩
    walk_at "rd"
    obtain ⟨hb, hb1, hb2, hb3⟩ : ∃ hb : Nat, (if (hn : Int) + n10 < 3 then (hn : Int) + n10 else 3) = (hb : Int) ∧ hn ≤ hb ∧ hb ≤ 3 := by
      split
      · exact ⟨((hn : Int) + n10).toNat, by omega, by omega, by omega⟩
      · exact ⟨3, rfl, by omega, by omega⟩
    rw [hb1]
    refine ⟨d, c, 194, rfl, F10, fun w3 H11 hw3 e11 F11 => ?_⟩
    walk_at "rd"
    intro pb H12 e12 nb zb
    have hbs : TD K H12 (.ref pb) (House.mk hb (some pn) w3).d := TD.mkHouse (.of zb)
    walk_at "rd"
    refine ⟨d, c, 90, rfl, (F11.non e12).less (by omega), fun way wv H13 wok wl wm hwv e13 F13 => ?_⟩
    walk_at "rd"
    intro pt H14 e14 nt zt
    have k12 : Kp (At d) H12 H14 := e13.trans e14.non
    have k9 : Kp (At d) H9 H14 := ((e10.trans e11).trans e12.non).trans k12
    have k5 : Kp (At d) H5 H14 := ((e6.non.trans e7).trans e8).trans (e9.non.trans k9)
    have ho := ho.kp k5
    have hw := hw.kp k9
    have hbs := hbs.kp k12
    have hwv := hwv.kp e14
    obtain ⟨hs, hhs, hhs0, hhs1, hhs2⟩ : ∃ hs : Nat → House, hs = (fun i => if i = 0 then House.mk hn (some pn) w1 else if i = 1 then House.mk hn o w2 else House.mk hb (some pn) w3) ∧ hs 0 = House.mk hn (some pn) w1 ∧ hs 1 = House.mk hn o w2 ∧ hs 2 = House.mk hb (some pn) w3 := ⟨_, rfl, rfl, rfl, rfl⟩
    have src : ∀ {i : Nat} {x : V} {G : Hp}, Kp Non H14 G → ([V.ref po, V.ref pw, V.ref pb])[i]? = some x → i < 3 ∧ TD K G x (hs i).d := by
      intro i x G k hx
      match i, hx with
      | 0, hx => cases hx; rw [hhs0]; exact ⟨by omega, ho.kp k⟩
      | 1, hx => cases hx; rw [hhs1]; exact ⟨by omega, hw.kp k⟩
      | 2, hx => cases hx; rw [hhs2]; exact ⟨by omega, hbs.kp k⟩
    let P : Nat → List V → Hp → Prop := fun i ys H' => ys.length = i ∧ ∀ j y, ys[j]? = some y → Two H' y (way.length + 1) (insAt (hs j).hands (hs j).places way) (lossAt (hs j).hands (hs j).places way)
    have refsOf : ∀ {i : Nat} {ys : List V} {G : Hp}, P i ys G → ∀ z, V.int z ∉ ys := by
      rintro i ys G ⟨_, h2⟩ z hz
      obtain ⟨j, hj, e⟩ := List.mem_iff_getElem.mp hz
      obtain ⟨t, _, _, e2, _⟩ := h2 j (ys[j]) (List.getElem?_eq_getElem hj)
      rw [e] at e2; cases e2
    have stab : LcStabM P H14 := by
      rintro D nD i ys y G G' eD pG k
      have nz := refsOf pG
      refine ⟨pG.1, fun j y' hy => ?_⟩
      obtain ⟨t, l1, l2, e, a1, a2, a3⟩ := pG.2 j y' hy
      have off : ∀ {l : Addr} {f : Nat → Nat}, G l = some (.lst ((List.range (way.length + 1)).map fun i => V.int (f i))) → l ≠ D := by
        rintro l f el rfl
        rw [el] at eD
        have e := HO.lst.inj (Option.some.inj eD)
        refine nz (f 0) (List.mem_append_left _ ?_)
        rw [← e]
        exact List.mem_map.mpr ⟨0, List.mem_range.mpr (by omega), rfl⟩
      exact ⟨t, l1, l2, e, k.tups _ _ a1, k.same _ _ (off a2) a2, k.same _ _ (off a3) a3⟩
    have P0 : ∀ H', Kp Non H14 H' → P 0 [] H' := fun H' _ => ⟨rfl, fun j y h => by simp at h⟩
    have Pk : ∀ {i : Nat} {ys : List V} {G G' : Hp}, P i ys G → Kp Non G G' → P i ys G' := fun p k => ⟨p.1, fun j y hy => (p.2 j y hy).kp k⟩
    have Padd : ∀ {i : Nat} {ys : List V} {G : Hp} {v : V}, P i ys G → Two G v (way.length + 1) (insAt (hs i).hands (hs i).places way) (lossAt (hs i).hands (hs i).places way) → P (i + 1) (ys ++ [v]) G := by
      rintro i ys G v ⟨h1, h2⟩ hv
      refine ⟨by rw [List.length_append, h1]; rfl, fun j y hy => ?_⟩
      by_cases e : j < ys.length
      · rw [List.getElem?_append_left e] at hy
        exact h2 j y hy
      · rw [List.getElem?_append_right (by omega)] at hy
        have ej : j - ys.length = 0 := by
          have := (List.getElem?_eq_some_iff.mp hy).1
          simp at this
          omega
        rw [ej] at hy
        cases hy
        rw [show j = i by omega]
        exact hv
    have lv : (1 : Nat) ≤ 1 := Nat.le_refl _
    refine lcTupM (S := Non) (P := P) (by show 3 ≤ sizeLine; exact Nat.le_of_lt (small1000 (by omega))) (.of zt) (fun b z => z.elim) P0 stab ?_ ?_
    · rintro i x hx D ys H15 Z k15 pi keep skip
      obtain ⟨hi, hx2⟩ := src k15 hx
      walk_at "rd"
      refine ⟨rfl, ?_⟩
      walk_at "rd"
      refine ⟨x, wv, hs i, way, rfl, hx2, hwv.kp k15, ⟨by omega, by omega⟩, wok, fun v H16 e16 hv => ?_⟩
      exact keep _ _ e16 (Padd (Pk pi e16) hv)
    rintro D1 ys1 H15 p1 _ k15 nD1 zD1
    walk_at "rd"
    intro pt2 H16 e16 nt2 zt2
    have k16 := k15.trans e16
    refine lcTupM (S := Non) (P := P) (by show 3 ≤ sizeLine; exact Nat.le_of_lt (small1000 (by omega))) (.of zt2) (fun b z => z.elim) (fun H' k => ⟨rfl, fun j y h => by simp at h⟩) ?_ ?_ ?_
    · rintro D nD i ys y G G' eD pG k
      have nD : H14 D = none := k16.live _ nD
      exact stab D nD i ys y G G' eD pG k
    · rintro i x hx D ys H17 Z k17 pi keep skip
      obtain ⟨hi, hx2⟩ := src (k16.trans k17) hx
      walk_at "rd"
      refine ⟨rfl, ?_⟩
      walk_at "rd"
      refine ⟨x, wv, hs i, way, rfl, hx2, hwv.kp (k16.trans k17), by omega, fun v H18 e18 hv => ?_⟩
      exact keep _ _ e18 (Padd (Pk pi e18) hv)
    rintro D2 ys2 H17 p2 _ k17 nD2 zD2
    have p1' := Pk (Pk p1 e16) k17
    have zD1' := k17.same _ _ (fun z => z) (e16.same _ _ (fun z => z) zD1)
    have three : ∀ {ys : List V}, P 3 ys H17 → ∃ x y z, ys = [x, y, z] := by
      rintro ys ⟨h, _⟩
      match ys, h with
      | [x, y, z], _ => exact ⟨x, y, z, rfl⟩
    obtain ⟨x0, x1, x2, rfl⟩ := three (show P 3 ys1 H17 from p1')
    obtain ⟨y0, y1, y2, rfl⟩ := three (show P 3 ys2 H17 from p2)
    have q0 := p1'.2 0 _ rfl
    have q1 := p1'.2 1 _ rfl
    have q2 := p1'.2 2 _ rfl
    have r0 := p2.2 0 _ rfl
    have r1 := p2.2 1 _ rfl
    have r2 := p2.2 2 _ rfl
    walk_at "rd"
    refine sNeD (.lst (.of zD1') (.cons q0.dp (.cons q1.dp (.cons q2.dp .nil)))) (.lst (.of zD2) (.cons r0.dp (.cons r1.dp (.cons r2.dp .nil)))) ?_ ?_ ?_
    · exact (Ly.lst (.cons (lyTwo _ _ _) (.cons (lyTwo _ _ _) (.cons (lyTwo _ _ _) .nil)))).shaped (by omega)
    · exact (Ly.lst (.cons (lyTwo _ _ _) (.cons (lyTwo _ _ _) (.cons (lyTwo _ _ _) .nil)))).shaped (by omega)
    rw [eqvListRefl (fun d hd => by
      simp only [List.mem_cons, List.not_mem_nil, or_false] at hd
      rcases hd with rfl | rfl | rfl <;> exact eqvTwo _ _ _)]
    walk_at "rd"
    refine iteF ?_
    walk_at "rd"
    have hwv17 := hwv.kp (k16.trans k17)
    obtain ⟨tw, ws, rfl, hW, hWS⟩ := hwv17.ref
    have hwl : ws.length = way.length := hWS.lenMap
    refine sLenT hW ?_
    walk_at "rd"
    rw [hwl]
    obtain ⟨t0, a0, b0, rfl, q0a, q0b, q0c⟩ := q0
    obtain ⟨t1, a1, b1, rfl, q1a, q1b, q1c⟩ := q1
    obtain ⟨t2, a2, b2, rfl, q2a, q2b, q2c⟩ := q2
    rw [hhs0] at q0b q0c
    rw [hhs1] at q1b q1c
    rw [hhs2] at q2b q2c
    have at' : ∀ (f : Nat → Nat) {i : Nat}, i < way.length + 1 → atI ((List.range (way.length + 1)).map fun i => V.int (f i)) (0 + (i : Int)) = some (.int (f i)) := by
      intro f i hi
      rw [Int.zero_add]
      exact atI_nat (by rw [List.getElem?_map, List.getElem?_range hi]; rfl)
    refine forRange (n := way.length + 1) (fun i σ H' => H' = H17 ∧ ∃ v2 v3 v4 v5 v6 v9 v10, σ = [some (.ref a), some (.ref d), v2, v3, v4, v5, v6, some (.ref tw), some (.ref D1), v9, v10]) (by omega) (by omega) (by omega) ⟨rfl, _, _, _, _, _, _, _, rfl⟩ ?_ ?_
    · rintro i σ _ hi ⟨rfl, v2, v3, v4, v5, v6, v9, v10, rfl⟩
      obtain ⟨c1, c2⟩ := widerIns hn ho2 way i
      obtain ⟨c3, c4⟩ := busierIns hb2 (some pn) way i
      walk_at "rd"
      refine sIxL (.of zD1') (atI_nat (j := 1) rfl) ?_
      walk_at "rd"
      refine sIxT (.of q1a) (atI_nat (j := 0) rfl) ?_
      walk_at "rd"
      refine sIxL (.of q1b) (at' _ hi) ?_
      walk_at "rd"
      refine sIxL (.of zD1') (atI_nat (j := 0) rfl) ?_
      walk_at "rd"
      refine sIxT (.of q0a) (atI_nat (j := 0) rfl) ?_
      walk_at "rd"
      refine sIxL (.of q0b) (at' _ hi) ?_
      walk_at "rd"
      refine ifD (fun z => absurd z (by show ¬ ((insAt hn o way i : Nat) : Int) < ((insAt hn (some pn) way i : Nat) : Int); omega)) (fun _ => ?_)
      walk_at "rd"
      refine sIxL (.of zD1') (atI_nat (j := 1) rfl) ?_
      walk_at "rd"
      refine sIxT (.of q1a) (atI_nat (j := 1) rfl) ?_
      walk_at "rd"
      refine sIxL (.of q1c) (at' _ hi) ?_
      walk_at "rd"
      refine sIxL (.of zD1') (atI_nat (j := 0) rfl) ?_
      walk_at "rd"
      refine sIxT (.of q0a) (atI_nat (j := 1) rfl) ?_
      walk_at "rd"
      refine sIxL (.of q0c) (at' _ hi) ?_
      walk_at "rd"
      refine ifD (fun z => absurd z (by show ¬ ((lossAt hn o way i : Nat) : Int) > ((lossAt hn (some pn) way i : Nat) : Int); omega)) (fun _ => ?_)
      walk_at "rd"
      refine sIxL (.of zD1') (atI_nat (j := 2) rfl) ?_
      walk_at "rd"
      refine sIxT (.of q2a) (atI_nat (j := 0) rfl) ?_
      walk_at "rd"
      refine sIxL (.of q2b) (at' _ hi) ?_
      walk_at "rd"
      refine sIxL (.of zD1') (atI_nat (j := 0) rfl) ?_
      walk_at "rd"
      refine sIxT (.of q0a) (atI_nat (j := 0) rfl) ?_
      walk_at "rd"
      refine sIxL (.of q0b) (at' _ hi) ?_
      walk_at "rd"
      refine ifD (fun z => absurd z (by show ¬ ((insAt hb (some pn) way i : Nat) : Int) > ((insAt hn (some pn) way i : Nat) : Int); omega)) (fun _ => ?_)
      walk_at "rd"
      refine sIxL (.of zD1') (atI_nat (j := 2) rfl) ?_
      walk_at "rd"
      refine sIxT (.of q2a) (atI_nat (j := 1) rfl) ?_
      walk_at "rd"
      refine sIxL (.of q2c) (at' _ hi) ?_
      walk_at "rd"
      refine sIxL (.of zD1') (atI_nat (j := 0) rfl) ?_
      walk_at "rd"
      refine sIxT (.of q0a) (atI_nat (j := 1) rfl) ?_
      walk_at "rd"
      refine sIxL (.of q0c) (at' _ hi) ?_
      walk_at "rd"
      refine ifD (fun z => absurd z (by show ¬ ((lossAt hb (some pn) way i : Nat) : Int) > ((lossAt hn (some pn) way i : Nat) : Int); omega)) (fun _ => ?_)
      walk_at "rd"
      exact ⟨rfl, _, _, _, _, _, _, _, rfl⟩
    · rintro σ _ ⟨rfl, v2, v3, v4, v5, v6, v9, v10, rfl⟩
      walk_at "rd"
      exact q _

end
theorem all_mk {l : PySem.W.OpenLaw} {w : World} {K : PySem.W.Frag} {h : Heap} {mg : Str → Option Value} {fa f0 f1 f2 f3 f4 f5 f6 f7 f8 f9 f10 f11 f12 : Addr} (X : K.In h) (G : h.Ns mainGlobals mg) (hfa : mg "law" = some (.ref fa))
    {od0 an0 : Option Addr} {sl0 : Array (Option Value)} {oc0 kV0 dc0 pm0 cd0 ct0 : Value}
    (a0 : PySem.W.nsIn K mainGlobals "keeps" = some (some (.ref f0)))
    (l0 : K.lookup f0 = some ⟨oc0, od0, .func (PySem.W.fnOf "keeps" "keeps" (defArgs s_p_keeps) (defBody s_p_keeps) (defScope s_p_keeps) .none kV0 dc0 pm0 an0 cd0 ct0), sl0⟩)
    (c0 : PySem.W.codeIn K cd0 "keeps" = true) (k0 : PySem.W.keepIn K (.ref f0) = true)
    {od1 an1 : Option Addr} {sl1 : Array (Option Value)} {oc1 kV1 dc1 pm1 cd1 ct1 : Value}
    (a1 : PySem.W.nsIn K mainGlobals "let_in" = some (some (.ref f1)))
    (l1 : K.lookup f1 = some ⟨oc1, od1, .func (PySem.W.fnOf "let_in" "let_in" (defArgs s_p_let_in) (defBody s_p_let_in) (defScope s_p_let_in) .none kV1 dc1 pm1 an1 cd1 ct1), sl1⟩)
    (c1 : PySem.W.codeIn K cd1 "let_in" = true) (k1 : PySem.W.keepIn K (.ref f1) = true)
    {od2 an2 : Option Addr} {sl2 : Array (Option Value)} {oc2 kV2 dc2 pm2 cd2 ct2 : Value}
    (a2 : PySem.W.nsIn K mainGlobals "turn_of" = some (some (.ref f2)))
    (l2 : K.lookup f2 = some ⟨oc2, od2, .func (PySem.W.fnOf "turn_of" "turn_of" (defArgs s_p_turn_of) (defBody s_p_turn_of) (defScope s_p_turn_of) .none kV2 dc2 pm2 an2 cd2 ct2), sl2⟩)
    (c2 : PySem.W.codeIn K cd2 "turn_of" = true) (k2 : PySem.W.keepIn K (.ref f2) = true)
    {od3 an3 : Option Addr} {sl3 : Array (Option Value)} {oc3 kV3 dc3 pm3 cd3 ct3 : Value}
    (a3 : PySem.W.nsIn K mainGlobals "picked" = some (some (.ref f3)))
    (l3 : K.lookup f3 = some ⟨oc3, od3, .func (PySem.W.fnOf "picked" "picked" (defArgs s_p_picked) (defBody s_p_picked) (defScope s_p_picked) .none kV3 dc3 pm3 an3 cd3 ct3), sl3⟩)
    (c3 : PySem.W.codeIn K cd3 "picked" = true) (k3 : PySem.W.keepIn K (.ref f3) = true)
    {od4 an4 : Option Addr} {sl4 : Array (Option Value)} {oc4 kV4 dc4 pm4 cd4 ct4 : Value}
    (a4 : PySem.W.nsIn K mainGlobals "step" = some (some (.ref f4)))
    (l4 : K.lookup f4 = some ⟨oc4, od4, .func (PySem.W.fnOf "step" "step" (defArgs s_p_step) (defBody s_p_step) (defScope s_p_step) .none kV4 dc4 pm4 an4 cd4 ct4), sl4⟩)
    (c4 : PySem.W.codeIn K cd4 "step" = true) (k4 : PySem.W.keepIn K (.ref f4) = true)
    {od5 an5 : Option Addr} {sl5 : Array (Option Value)} {oc5 kV5 dc5 pm5 cd5 ct5 : Value}
    (a5 : PySem.W.nsIn K mainGlobals "run" = some (some (.ref f5)))
    (l5 : K.lookup f5 = some ⟨oc5, od5, .func (PySem.W.fnOf "run" "run" (defArgs s_p_run) (defBody s_p_run) (defScope s_p_run) .none kV5 dc5 pm5 an5 cd5 ct5), sl5⟩)
    (c5 : PySem.W.codeIn K cd5 "run" = true) (k5 : PySem.W.keepIn K (.ref f5) = true)
    {od6 an6 : Option Addr} {sl6 : Array (Option Value)} {oc6 kV6 dc6 pm6 cd6 ct6 : Value}
    (a6 : PySem.W.nsIn K mainGlobals "_law_tape" = some (some (.ref f6)))
    (l6 : K.lookup f6 = some ⟨oc6, od6, .func (PySem.W.fnOf "_law_tape" "_law_tape" (defArgs s_q_tape) (defBody s_q_tape) (defScope s_q_tape) .none kV6 dc6 pm6 an6 cd6 ct6), sl6⟩)
    (c6 : PySem.W.codeIn K cd6 "_law_tape" = true) (k6 : PySem.W.keepIn K (.ref f6) = true)
    {od7 an7 : Option Addr} {sl7 : Array (Option Value)} {oc7 kV7 dc7 pm7 cd7 ct7 : Value}
    (a7 : PySem.W.nsIn K mainGlobals "_law_next" = some (some (.ref f7)))
    (l7 : K.lookup f7 = some ⟨oc7, od7, .func (PySem.W.fnOf "_law_next" "_law_next" (defArgs s_q_next) (defBody s_q_next) (defScope s_q_next) .none kV7 dc7 pm7 an7 cd7 ct7), sl7⟩)
    (c7 : PySem.W.codeIn K cd7 "_law_next" = true) (k7 : PySem.W.keepIn K (.ref f7) = true)
    {od8 an8 : Option Addr} {sl8 : Array (Option Value)} {oc8 kV8 dc8 pm8 cd8 ct8 : Value}
    (a8 : PySem.W.nsIn K mainGlobals "_law_rule" = some (some (.ref f8)))
    (l8 : K.lookup f8 = some ⟨oc8, od8, .func (PySem.W.fnOf "_law_rule" "_law_rule" (defArgs s_q_rule) (defBody s_q_rule) (defScope s_q_rule) .none kV8 dc8 pm8 an8 cd8 ct8), sl8⟩)
    (c8 : PySem.W.codeIn K cd8 "_law_rule" = true) (k8 : PySem.W.keepIn K (.ref f8) = true)
    {od9 an9 : Option Addr} {sl9 : Array (Option Value)} {oc9 kV9 dc9 pm9 cd9 ct9 : Value}
    (a9 : PySem.W.nsIn K mainGlobals "_law_way" = some (some (.ref f9)))
    (l9 : K.lookup f9 = some ⟨oc9, od9, .func (PySem.W.fnOf "_law_way" "_law_way" (defArgs s_q_way) (defBody s_q_way) (defScope s_q_way) .none kV9 dc9 pm9 an9 cd9 ct9), sl9⟩)
    (c9 : PySem.W.codeIn K cd9 "_law_way" = true) (k9 : PySem.W.keepIn K (.ref f9) = true)
    {od10 an10 : Option Addr} {sl10 : Array (Option Value)} {oc10 kV10 dc10 pm10 cd10 ct10 : Value}
    (a10 : PySem.W.nsIn K mainGlobals "_law_counts" = some (some (.ref f10)))
    (l10 : K.lookup f10 = some ⟨oc10, od10, .func (PySem.W.fnOf "_law_counts" "_law_counts" (defArgs s_q_counts) (defBody s_q_counts) (defScope s_q_counts) .none kV10 dc10 pm10 an10 cd10 ct10), sl10⟩)
    (c10 : PySem.W.codeIn K cd10 "_law_counts" = true) (k10 : PySem.W.keepIn K (.ref f10) = true)
    {od11 an11 : Option Addr} {sl11 : Array (Option Value)} {oc11 kV11 dc11 pm11 cd11 ct11 : Value}
    (a11 : PySem.W.nsIn K mainGlobals "_law_told" = some (some (.ref f11)))
    (l11 : K.lookup f11 = some ⟨oc11, od11, .func (PySem.W.fnOf "_law_told" "_law_told" (defArgs s_q_told) (defBody s_q_told) (defScope s_q_told) .none kV11 dc11 pm11 an11 cd11 ct11), sl11⟩)
    (c11 : PySem.W.codeIn K cd11 "_law_told" = true) (k11 : PySem.W.keepIn K (.ref f11) = true)
    {od12 an12 : Option Addr} {sl12 : Array (Option Value)} {oc12 kV12 dc12 pm12 cd12 ct12 : Value}
    (a12 : PySem.W.nsIn K mainGlobals "law" = some (some (.ref f12)))
    (l12 : K.lookup f12 = some ⟨oc12, od12, .func (PySem.W.fnOf "law" "law" (defArgs s_law) (defBody s_law) (defScope s_law) .none kV12 dc12 pm12 an12 cd12 ct12), sl12⟩)
    (c12 : PySem.W.codeIn K cd12 "law" = true) (k12 : PySem.W.keepIn K (.ref f12) = true)
    (z_tuple : PySem.W.nsIn K mainGlobals "tuple" = some none)
    (z_len : PySem.W.nsIn K mainGlobals "len" = some none)
    (z_list : PySem.W.nsIn K mainGlobals "list" = some none)
    (z_int : PySem.W.nsIn K mainGlobals "int" = some none)
    (z_sorted : PySem.W.nsIn K mainGlobals "sorted" = some none)
    (z_range : PySem.W.nsIn K mainGlobals "range" = some none)
    (z_enumerate : PySem.W.nsIn K mainGlobals "enumerate" = some none)
    (z_min : PySem.W.nsIn K mainGlobals "min" = some none)
    (z_max : PySem.W.nsIn K mainGlobals "max" = some none)
    {g_KEEPING : Addr} {od_KEEPING : Option Addr} {n_KEEPING : Nat} {sl_KEEPING : Array (Option Value)} {t0_KEEPING t1_KEEPING t2_KEEPING t3_KEEPING : Nat}
    (a_KEEPING : PySem.W.nsIn K mainGlobals "KEEPING" = some (some (.ref g_KEEPING)))
    (l_KEEPING : K.lookup g_KEEPING = some ⟨.type "tuple", od_KEEPING, .seq #[(Value.str "first" t0_KEEPING), (Value.str "last" t1_KEEPING), (Value.str "short" t2_KEEPING), (Value.str "front" t3_KEEPING)] n_KEEPING, sl_KEEPING⟩)
    : ∃ fd : FuncData, (∀ (s : Shared) (v : Value), BindsTo s fd ⟨[v], []⟩ [("_law_script", v)]) ∧ ∀ base : Heap, K.In base → base.Ns mainGlobals mg → FnG l.prog w K mg base CX0 6 fa fd ["_law_script"] (sp_law K) := by
  have e := hfa.symm.trans (PySem.W.mg_of X G a12)
  cases e
  have F0 := fun_mk (st := s_p_keeps) l0 c0 k0
  have b0 := F0.binds (ps := ["rule"]) fun _ _ _ _ _ _ us hl => match us, hl with | [_], _ => rfl
  have F1 := fun_mk (st := s_p_let_in) l1 c1 k1
  have b1 := F1.binds (ps := ["house", "stand", "beat"]) fun _ _ _ _ _ _ us hl => match us, hl with | [_, _, _], _ => rfl
  have F2 := fun_mk (st := s_p_turn_of) l2 c2 k2
  have b2 := F2.binds (ps := ["rule", "stand", "place"]) fun _ _ _ _ _ _ us hl => match us, hl with | [_, _, _], _ => rfl
  have F3 := fun_mk (st := s_p_picked) l3 c3 k3
  have b3 := F3.binds (ps := ["house", "stand"]) fun _ _ _ _ _ _ us hl => match us, hl with | [_, _], _ => rfl
  have F4 := fun_mk (st := s_p_step) l4 c4 k4
  have b4 := F4.binds (ps := ["house", "stand", "beat"]) fun _ _ _ _ _ _ us hl => match us, hl with | [_, _, _], _ => rfl
  have F5 := fun_mk (st := s_p_run) l5 c5 k5
  have b5 := F5.binds (ps := ["house", "way", "stand"]) fun _ _ _ _ _ _ us hl => match us, hl with | [_, _, _], _ => rfl
  have F6 := fun_mk (st := s_q_tape) l6 c6 k6
  have b6 := F6.binds (ps := ["_law_script"]) fun _ _ _ _ _ _ us hl => match us, hl with | [_], _ => rfl
  have F7 := fun_mk (st := s_q_next) l7 c7 k7
  have b7 := F7.binds (ps := ["_law_tape_here", "_law_many"]) fun _ _ _ _ _ _ us hl => match us, hl with | [_, _], _ => rfl
  have F8 := fun_mk (st := s_q_rule) l8 c8 k8
  have b8 := F8.binds (ps := ["_law_tape_here"]) fun _ _ _ _ _ _ us hl => match us, hl with | [_], _ => rfl
  have F9 := fun_mk (st := s_q_way) l9 c9 k9
  have b9 := F9.binds (ps := ["_law_tape_here"]) fun _ _ _ _ _ _ us hl => match us, hl with | [_], _ => rfl
  have F10 := fun_mk (st := s_q_counts) l10 c10 k10
  have b10 := F10.binds (ps := ["_law_house", "_law_way_here"]) fun _ _ _ _ _ _ us hl => match us, hl with | [_, _], _ => rfl
  have F11 := fun_mk (st := s_q_told) l11 c11 k11
  have b11 := F11.binds (ps := ["_law_house", "_law_way_here"]) fun _ _ _ _ _ _ us hl => match us, hl with | [_, _], _ => rfl
  have F12 := fun_mk (st := s_law) l12 c12 k12
  have b12 := F12.binds (ps := ["_law_script"]) fun _ _ _ _ _ _ us hl => match us, hl with | [_], _ => rfl
  let T : Txt K mg := ⟨f0, _, F0, PySem.W.mg_of X G a0, b0, f1, _, F1, PySem.W.mg_of X G a1, b1, f2, _, F2, PySem.W.mg_of X G a2, b2, f3, _, F3, PySem.W.mg_of X G a3, b3, f4, _, F4, PySem.W.mg_of X G a4, b4, f5, _, F5, PySem.W.mg_of X G a5, b5, f6, _, F6, PySem.W.mg_of X G a6, b6, f7, _, F7, PySem.W.mg_of X G a7, b7, f8, _, F8, PySem.W.mg_of X G a8, b8, f9, _, F9, PySem.W.mg_of X G a9, b9, f10, _, F10, PySem.W.mg_of X G a10, b10, f11, _, F11, PySem.W.mg_of X G a11, b11, fa, _, F12, PySem.W.mg_of X G a12, b12, PySem.W.mg_none_of X G z_tuple, PySem.W.mg_none_of X G z_len, PySem.W.mg_none_of X G z_list, PySem.W.mg_none_of X G z_int, PySem.W.mg_none_of X G z_sorted, PySem.W.mg_none_of X G z_range, PySem.W.mg_none_of X G z_enumerate, PySem.W.mg_none_of X G z_min, PySem.W.mg_none_of X G z_max, g_KEEPING, PySem.W.mg_of X G a_KEEPING, rfl, fun H => .inr ⟨_, _, _, l_KEEPING, rfl, rfl, Nat.le_of_lt (small1000 (Nat.le_of_ble_eq_true rfl)), (.cons ⟨_, rfl⟩ (.cons ⟨_, rfl⟩ (.cons ⟨_, rfl⟩ (.cons ⟨_, rfl⟩ .nil))))⟩⟩
  exact ⟨T.fd_law, fun s v => .of_eq rfl, fun base _ _ => ok_law T⟩
theorem walk {l : PySem.W.OpenLaw} {q : Program} {loose : List Str} {XP : (Str → Option Value) → Heap → Prop} {YP : World → Heap → Prop} {d : DefRec} {K : Params → PySem.W.Frag} (hn : l.most = some 63) (hdf : d.params.defaults = [])
    (hY : ∀ (w : World) (h : Heap), YP w h → (K w.params).In h)
    (F : ∀ (w : World) (mg : Str → Option Value) (fa : Addr) (h : Heap), (K w.params).In h → h.Ns mainGlobals mg → mg d.name = some (.ref fa) →
      ∃ fd : FuncData, (∀ (s : Shared) (u : Value), BindsTo s fd ⟨[u], []⟩ [("_law_script", u)]) ∧ ∀ base : Heap, (K w.params).In base → base.Ns mainGlobals mg → FnG l.prog w (K w.params) mg base CX0 6 fa fd ["_law_script"] (sp_law (K w.params))) :
    PySem.W.WalkO q loose XP YP l.row.toRowW d [] (fun f vs => PySem.call f vs) :=
  walkG (n := 63) (k := 6) (x := "_law_script") (sp := fun w => sp_law (K w.params)) hn (by decide) hdf ⟨rfl, by decide, by decide⟩ hY F (fun _ _ a ns hl _ hS => ⟨a, ns, rfl, hS, hl, fun _ => rfl⟩)
end Hw
open PySem PySem.W PyProof.Rows
set_option maxRecDepth 100000 in
set_option maxHeartbeats 0 in
theorem PySem.Challenge.cw_hatchwaits_k97_whole_works_of_one_holds : PySem.Challenge.rw_hatchwaits_k97_whole_works_of_one.Holds := by
  w_on; o_law; k_head; (case hw => w_witness2)
  k_fill
  refine Hw.walk (l := PySem.Challenge.rw_hatchwaits_k97_whole_works_of_one) rfl rfl (fun w h Y => PySem.W.kIn_of Y) ?F
  case F =>
    intro w mg fa h KX G hmg
    refine' Hw.all_mk KX G hmg ?a0 ?l0 ?c0 ?k0 ?a1 ?l1 ?c1 ?k1 ?a2 ?l2 ?c2 ?k2 ?a3 ?l3 ?c3 ?k3 ?a4 ?l4 ?c4 ?k4 ?a5 ?l5 ?c5 ?k5 ?a6 ?l6 ?c6 ?k6 ?a7 ?l7 ?c7 ?k7 ?a8 ?l8 ?c8 ?k8 ?a9 ?l9 ?c9 ?k9 ?a10 ?l10 ?c10 ?k10 ?a11 ?l11 ?c11 ?k11 ?a12 ?l12 ?c12 ?k12 ?z_tuple ?z_len ?z_list ?z_int ?z_sorted ?z_range ?z_enumerate ?z_min ?z_max ?a_KEEPING ?l_KEEPING
    (case a0 => k_is); (case l0 => k_is); (case c0 => k_is); (case k0 => k_is)
    (case a1 => k_is); (case l1 => k_is); (case c1 => k_is); (case k1 => k_is)
    (case a2 => k_is); (case l2 => k_is); (case c2 => k_is); (case k2 => k_is)
    (case a3 => k_is); (case l3 => k_is); (case c3 => k_is); (case k3 => k_is)
    (case a4 => k_is); (case l4 => k_is); (case c4 => k_is); (case k4 => k_is)
    (case a5 => k_is); (case l5 => k_is); (case c5 => k_is); (case k5 => k_is)
    (case a6 => k_is); (case l6 => k_is); (case c6 => k_is); (case k6 => k_is)
    (case a7 => k_is); (case l7 => k_is); (case c7 => k_is); (case k7 => k_is)
    (case a8 => k_is); (case l8 => k_is); (case c8 => k_is); (case k8 => k_is)
    (case a9 => k_is); (case l9 => k_is); (case c9 => k_is); (case k9 => k_is)
    (case a10 => k_is); (case l10 => k_is); (case c10 => k_is); (case k10 => k_is)
    (case a11 => k_is); (case l11 => k_is); (case c11 => k_is); (case k11 => k_is)
    (case a12 => k_is); (case l12 => k_is); (case c12 => k_is); (case k12 => k_is)
    (case z_tuple => k_is)
    (case z_len => k_is)
    (case z_list => k_is)
    (case z_int => k_is)
    (case z_sorted => k_is)
    (case z_range => k_is)
    (case z_enumerate => k_is)
    (case z_min => k_is)
    (case z_max => k_is)
    (case a_KEEPING => k_is); (case l_KEEPING => k_is)
#print axioms PySem.Challenge.cw_hatchwaits_k97_whole_works_of_one_holds
