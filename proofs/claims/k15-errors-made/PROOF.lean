import PyProof.Rows.All
import Wide.All
import OpenK.AllK
import Wide.FinOn
import PySem.Challenge.RW_shortestbytes_k15_errors_made
import HandS.ForMost
import HandS.ForExc
import HandS.EndBits
import HandS.IsInst
import HandS.RaiseMore
import HandS.Defaults
import HandS.HeadHook2
import HandS.Head2
import HandS.ExcInit
import HandS.ExcField
import HandS.CallSlots
import HandS.TryMany
import HandS.ExcIs
import KE.KExcIs
import KE.DataCmp
import HandS.Codes
set_option Elab.async false
set_option linter.all false
set_option maxRecDepth 100000
set_option maxHeartbeats 4000000
/-! Sb, part G: contracts of defs that may call repr (they are called while no repr is under way); repr of data; the end of a law over such contracts. -/
namespace Sb
open PySem PySem.Spec PyProof.Rows L2

/-- no repr is under way -/
abbrev Still (A : Around) : Prop := A.guards = some []

section
variable {P : Program} {w : World} {K : PySem.W.Frag} {mg : Str → Option Value} {base : Heap} {CX : CXT} {f : Addr} {fd : FuncData} {ps : List Str} {sp : Sp}

/-- one call of a def of the text, from what its body does in this very surrounding -/
theorem entered {A : Around} {k : Nat} {outer : List Env} {s : Shared} {H : Hp} {args : Args} {us : List Value} {vs : List V} {Q : VK} {E : XK}
    {nm qn : Str} {pars : Arguments} {bd : List Stmt} {sco : Scope} {dV kV dc pm cv ct oc : Value} {an od : Option Addr} {sl : Array (Option Value)} {N : List Str} {t : TS}
    (at_ : K.lookup f = some ⟨oc, od, .func (PySem.W.fnOf nm qn pars bd sco dV kV dc pm an cv ct), sl⟩)
    (cod : PySem.W.codeIn K cv qn = true) (S : FnScope N ps sco) (n : vs.length = ps.length) (room : Room (k + 1) A)
    (env : Env0 P w K mg base A outer s H) (bnd : BindsTo s (PySem.W.fnOf nm qn pars bd sco dV kV dc pm an cv ct) args (ps.zip us)) (rv : Vals vs us)
    (walk : PSs (cxOf CX P w K mg base N qn sco f cv A outer s H E) bd t)
    (read : t { nx := fun _ H' => Q .non H', rt := Q } (start N vs) H) :
    codeAny (model P w) A (.call (.ref f) args) -- what the call does
      (CR CX outer P w H s Q E) s := by
  have old : ∀ b o, base.get? b = some o → s.heap.get? b = some o := fun b o e => (env.bs b o e).1
  have kin := env.mod.kin.keeps old
  have slotOk : ∀ y ∈ ps.zip us, sco.names.lookup y.1 = some .local ∨
      (sco.names.lookup y.1 = some .cell ∧ ((cellsFrom (s.heap.objs.size + 1) sco.names []).lookup y.1).isSome = true) := by
    rintro ⟨x, v⟩ m
    exact (S.par x (List.of_mem_zip m).1).imp id fun c => ⟨c, PySem.W.cellsFrom_some _ _ _ (.inl c)⟩
  apply codeAny_call_function room.depth (kin _ _ at_) rfl S.co S.gen rfl (PySem.W.codeRec_of kin cod)
  apply bnd
  apply wpAny_newFunctionEnv_cells S.kind slotOk
  rintro _ rfl s1 x
  refine ⟨(env.mod.nolimit.keeps old).keeps x.toInCall.keep, codeAny_func ?_⟩
  refine wpAny_mono (walk.run [] s1 (start N vs) H _ (inv_start S room.hd env n rv x) read) ?_ fun _ _ z => z
  intro fl s' z
  match fl, z with
  | .ret u, ⟨v, _, H', J, r, q⟩ => exact ⟨v, H', J.os, J.bare, J.base, J.hok, r, q⟩
  | .next, ⟨_, H', J, q⟩ => exact ⟨.non, H', J.os, J.bare, J.base, J.hok, rfl, q⟩
  | .brk, ⟨_, _, _, q⟩ => exact q.elim
  | .cont, ⟨_, _, _, q⟩ => exact q.elim

/-- the contract of a def that is called while no repr is under way -/
structure FnG (P : Program) (w : World) (K : PySem.W.Frag) (mg : Str → Option Value) (base : Heap) (CX : CXT) (k : Nat) (f : Addr) (fd : FuncData) (ps : List Str) (sp : Sp) : Prop where
  many : ∀ vs H Q E, sp vs H Q E → vs.length = ps.length
  does : ∀ (A : Around) (outer : List Env) (s : Shared) (H : Hp) (args : Args) (us : List Value) (vs : List V) (Q : VK) (E : XK),
    Still A → Room k A → Env0 P w K mg base A outer s H → BindsTo s fd args (ps.zip us) → Vals vs us → sp vs H Q E →
      codeAny (model P w) A (.call (.ref f) args)
        (CR CX outer P w H s Q E) s
theorem FnG.of {k : Nat} (F : FnOk P w K mg base CX k f fd ps sp) : FnG P w K mg base CX k f fd ps sp :=
  ⟨F.len, fun A o s H as us vs Q E _ => F.run A o s H as us vs Q E⟩
theorem FnG.up {j k : Nat} (F : FnG P w K mg base CX j f fd ps sp) (h : j ≤ k) : FnG P w K mg base CX k f fd ps sp :=
  ⟨F.many, fun A o s H as us vs Q E g r => F.does A o s H as us vs Q E g (r.mono h)⟩
theorem FnG.weak {k : Nat} {sp' : Sp} (F : FnG P w K mg base CX k f fd ps sp) (h : ∀ vs H Q E, sp' vs H Q E → sp vs H Q E) : FnG P w K mg base CX k f fd ps sp' :=
  ⟨fun vs H Q E q => F.many vs H Q E (h _ _ _ _ q), fun A o s H as us vs Q E g r e b v q => F.does A o s H as us vs Q E g r e b v (h _ _ _ _ q)⟩

/-- a def that lets no exception out -/
theorem okG {x qn : Str} {pars : Arguments} {bd : List Stmt} {sco : Scope} {dvs : List V} {kws : List (Str × V)} {N : List Str} {k : Nat} (F : FunD K x qn pars bd sco dvs kws f fd) (S : FnScope N ps sco) (many : ∀ vs H Q E, sp vs H Q E → vs.length = ps.length)
    (does : ∀ (cv : Value) (A : Around) (outer : List Env) (s : Shared) (H : Hp) (vs : List V) (Q : VK) (E : XK), Still A → Room k (A.deeper (envOfC qn sco s.heap.objs.size f cv)) → sp vs H Q E →
      ∃ t, PSs (cxOf CX0 P w K mg base N qn sco f cv A outer s H E).nox bd t ∧ t { nx := fun _ H' => Q .non H', rt := Q } (start N vs) H) :
    FnG P w K mg base CX0 (k + 1) f fd ps sp := by
  obtain ⟨_, _, _, _, _, _, _, cv, _, _, rfl, at_, cod, _, _⟩ := F.ex
  refine ⟨many, fun A outer s H args us vs Q E g room env bnd rv h => ?_⟩
  obtain ⟨t, ht, q⟩ := does cv A outer s H vs Q E g (room.deeper _) h
  exact entered at_ cod S (many _ _ _ _ h) room env bnd rv ht.nox q
/-- a def that may raise -/
theorem okXG {x qn : Str} {pars : Arguments} {bd : List Stmt} {sco : Scope} {dvs : List V} {kws : List (Str × V)} {N : List Str} {k : Nat} (F : FunD K x qn pars bd sco dvs kws f fd) (S : FnScope N ps sco) (many : ∀ vs H Q E, sp vs H Q E → vs.length = ps.length)
    (does : ∀ (cv : Value) (A : Around) (outer : List Env) (s : Shared) (H : Hp) (vs : List V) (Q : VK) (E : XK), Still A → Room k (A.deeper (envOfC qn sco s.heap.objs.size f cv)) → sp vs H Q E →
      ∃ t, PSs (cxOf (L2.CX P w) P w K mg base N qn sco f cv A outer s H E) bd t ∧ t { nx := fun _ H' => Q .non H', rt := Q } (start N vs) H) :
    FnG P w K mg base (L2.CX P w) (k + 1) f fd ps sp := by
  obtain ⟨_, _, _, _, _, _, _, cv, _, _, rfl, at_, cod, _, _⟩ := F.ex
  refine ⟨many, fun A outer s H args us vs Q E g room env bnd rv h => ?_⟩
  obtain ⟨t, ht, q⟩ := does cv A outer s H vs Q E g (room.deeper _) h
  exact entered at_ cod S (many _ _ _ _ h) room env bnd rv ht q
end

section
variable {X : Cx} {CX : CXT} {k : Nat} {f : Addr} {fd : FuncData} {ps : List Str} {sp : Sp} {dvs : List V} {ds : List Value} {E : XK}
/-- such a def is called -/
theorem called {pins : List (Addr × Obj)} {σ : L2.St} {H : Hp} {s : Shared} {Q : VK} {us : List Value} {vs : List V} (F : FnG X.prog X.w X.K X.mg X.base CX k f fd ps sp) (g : Still X.A) (room : Room k X.A)
    (bnd : Binds X.K fd ps ds) (dv : Vals dvs ds) (px : Passes CX X E) (I : Inv X pins σ H s) (rv : Vals vs us) (h : sp (vs ++ dvs) H Q E) :
    wpAny (model X.prog X.w) X.A (call (.ref f) us)
      (EP X pins σ Q) X.xe s := by
  have all := rv.append dv
  have n : (us ++ ds).length = ps.length := all.length.symm.trans (F.many _ _ _ _ h)
  refine wpAny_call (codeAny_mono (F.does X.A X.stack s H ⟨us, []⟩ _ _ Q E g room I.env0 (bnd s us I.kIn n) all h) ?_)
  intro r s' z
  match r, z with
  | .error e, z => exact px pins σ H s e s' I z
  | .ok (.ret u), z => exact I.after z
  | .ok .next, z => exact z.elim
  | .ok .brk, z => exact z.elim
  | .ok .cont, z => exact z.elim
theorem pe_callG {x : Str} {p pos : Pos} {e : Expr} {es : List Expr} {t : TA} (F : FnG X.prog X.w X.K X.mg X.base CX k f fd ps sp) (g : Still X.A) (room : Room k X.A) (gl : Gl X x) (isf : X.mg x = some (.ref f))
    (kp : PySem.W.keepIn X.K (.ref f) = true) (bnd : Binds X.K fd ps ds) (dv : Vals dvs ds) (px : Passes CX X E) (as : PA X (e :: es) t)
    (nd : (x == ("__debug__" : Str)) = false := by decide) (st : starEach (e :: es) X.env = (false, eval e X.env) :: starEach es X.env := by rfl) (pl : (backTo pos (starEach es X.env)).any (·.1) = false := by rfl) :
    PE X (.Call (.Name x p) (e :: es) [] pos) (tCall sp dvs E t) :=
  ⟨fun pins s σ H Q I h => wpAny_Call_Name_kw (ld_glob I gl isf (PySem.W.callWith_K (h₀ := X.base) I.ok.mod.kin kp
    (thn (as.run pos pins s σ H _ I h) fun _ _ ⟨_, _, J, r, q⟩ => ⟨J.kIn, called F g room bnd dv px J r q⟩) st pl) nd)⟩
end

/-! ### a def by its name -/
/-- what the head says of a def of the module: its name and its object; dvs: its defaults -/
structure DefAt (K : PySem.W.Frag) (mg : Str → Option Value) (x : Str) (st : Stmt) (dvs : List V) : Prop where
  g : mg x = some (.ref (He.ga K x))
  F : ∃ fd, FunD K x x (defArgs st) (defBody st) (defScope st) dvs [] (He.ga K x) fd
/-- the module's name x is a def with this contract; the last dvs of its parameters are filled by defaults -/
def Has (P : Program) (w : World) (K : PySem.W.Frag) (mg : Str → Option Value) (base : Heap) (CX : CXT) (k : Nat) (x : Str) (ps : List Str) (dvs : List V) (sp : Sp) : Prop :=
  ∃ (f : Addr) (fd : FuncData) (ds : List Value), FnG P w K mg base CX k f fd ps sp ∧ mg x = some (.ref f) ∧ PySem.W.keepIn K (.ref f) = true ∧ Binds K fd ps ds ∧ Vals dvs ds
section
variable {P : Program} {w : World} {K : PySem.W.Frag} {mg : Str → Option Value} {base : Heap} {k : Nat} {x : Str} {st : Stmt} {ps N : List Str} {sp : Sp}
theorem Has.up {j : Nat} {CX : CXT} {dvs : List V} (h : Has P w K mg base CX j x ps dvs sp) (le : j ≤ k) : Has P w K mg base CX k x ps dvs sp := by
  obtain ⟨f, fd, ds, F, r⟩ := h
  exact ⟨f, fd, ds, F.up le, r⟩
theorem Has.weak {CX : CXT} {dvs : List V} {sp' : Sp} (h : Has P w K mg base CX k x ps dvs sp) (le : ∀ vs H Q E, sp' vs H Q E → sp vs H Q E) : Has P w K mg base CX k x ps dvs sp' := by
  obtain ⟨f, fd, ds, F, r⟩ := h
  exact ⟨f, fd, ds, F.weak le, r⟩
/-- a def without defaults that lets no exception out -/
theorem has0 (D : DefAt K mg x st []) (S : FnScope N ps (defScope st))
    (bnd : ∀ (kV doc pm : Value) (an : Option Addr) (cdv ct : Value) (us : List Value), us.length = ps.length →
      bindArgs (PySem.W.fnOf x x (defArgs st) (defBody st) (defScope st) .none kV doc pm an cdv ct) ⟨us, []⟩ = pure (ps.zip us))
    (many : ∀ vs H Q E, sp vs H Q E → vs.length = ps.length)
    (does : ∀ (cv : Value) (A : Around) (outer : List Env) (s : Shared) (H : Hp) (vs : List V) (Q : VK) (E : XK), Still A → Room k (A.deeper (envOfC x (defScope st) s.heap.objs.size (He.ga K x) cv)) → sp vs H Q E →
      ∃ t, PSs (cxOf CX0 P w K mg base N x (defScope st) (He.ga K x) cv A outer s H E).nox (defBody st) t ∧ t { nx := fun _ H' => Q .non H', rt := Q } (start N vs) H) :
    Has P w K mg base CX0 (k + 1) x ps [] sp := by
  obtain ⟨fd, F⟩ := D.F
  exact ⟨_, fd, [], okG F S many does, D.g, F.kp, F.bindsN bnd, .nil⟩
/-- the same of a def that may raise -/
theorem hasX (D : DefAt K mg x st []) (S : FnScope N ps (defScope st))
    (bnd : ∀ (kV doc pm : Value) (an : Option Addr) (cdv ct : Value) (us : List Value), us.length = ps.length →
      bindArgs (PySem.W.fnOf x x (defArgs st) (defBody st) (defScope st) .none kV doc pm an cdv ct) ⟨us, []⟩ = pure (ps.zip us))
    (many : ∀ vs H Q E, sp vs H Q E → vs.length = ps.length)
    (does : ∀ (cv : Value) (A : Around) (outer : List Env) (s : Shared) (H : Hp) (vs : List V) (Q : VK) (E : XK), Still A → Room k (A.deeper (envOfC x (defScope st) s.heap.objs.size (He.ga K x) cv)) → sp vs H Q E →
      ∃ t, PSs (cxOf (L2.CX P w) P w K mg base N x (defScope st) (He.ga K x) cv A outer s H E) (defBody st) t ∧ t { nx := fun _ H' => Q .non H', rt := Q } (start N vs) H) :
    Has P w K mg base (L2.CX P w) (k + 1) x ps [] sp := by
  obtain ⟨fd, F⟩ := D.F
  exact ⟨_, fd, [], okXG F S many does, D.g, F.kp, F.bindsN bnd, .nil⟩
end
section
variable {X : Cx} {CX : CXT} {k : Nat} {ps : List Str} {sp : Sp} {dvs : List V} {E : XK} {x : Str} {p pos : Pos} {e : Expr} {es : List Expr} {t : TA}
/-- f(e, ..); px: where what it raises goes -/
theorem pe_fnX (C : Has X.prog X.w X.K X.mg X.base CX k x ps dvs sp) (px : Passes CX X E) (g : Still X.A) (room : Room k X.A) (gl : Gl X x) (as : PA X (e :: es) t)
    (nd : (x == ("__debug__" : Str)) = false := by decide) (st : starEach (e :: es) X.env = (false, eval e X.env) :: starEach es X.env := by rfl) (pl : (backTo pos (starEach es X.env)).any (·.1) = false := by rfl) :
    PE X (.Call (.Name x p) (e :: es) [] pos) (tCall sp dvs E t) := by
  obtain ⟨f, fd, ds, F, isf, kp, bnd, dv⟩ := C
  exact pe_callG F g room gl isf kp bnd dv px as nd st pl
/-- f(e, ..) of a def that lets no exception out -/
theorem pe_fn (C : Has X.prog X.w X.K X.mg X.base CX0 k x ps dvs sp) (g : Still X.A) (room : Room k X.A) (gl : Gl X x) (as : PA X (e :: es) t)
    (nd : (x == ("__debug__" : Str)) = false := by decide) (st : starEach (e :: es) X.env = (false, eval e X.env) :: starEach es X.env := by rfl) (pl : (backTo pos (starEach es X.env)).any (·.1) = false := by rfl) :
    PE X (.Call (.Name x p) (e :: es) [] pos) (tCall sp dvs E0 t) := pe_fnX C pass0 g room gl as nd st pl
end

/-! ### repr of data -/
/-- repr(x): x data of at most 100 levels without dicts -/
structure Shows (K : PySem.W.Frag) (H : Hp) (x : V) (d : PyData) : Prop where
  dp : Dp K H x d
  ok : d.showable = true
  nd : d.hasDict = false
  deep : d.depth ≤ 100
  size : d.shown.length ≤ sizeLine
def rRepr (K : PySem.W.Frag) : List V → Hp → VK → Prop := fun xs H Q => ∃ (x : V) (d : PyData), xs = [x] ∧ Shows K H x d ∧ Q (.str d.shown) H
theorem rep_of {A : Around} {k : Nat} (r : Room k A) : A.units + 102 < cLine := by
  have := r.un
  omega
theorem call_repr {X : Cx} (g : Still X.A) (room : X.A.units + 102 < cLine) : CallR X (.builtin "repr") (rRepr X.K) := by
  intro pins s σ H _ us Q I r h
  obtain ⟨x, d, rfl, ⟨hd, hs, hn, hk, hz⟩, q⟩ := h
  obtain ⟨u, rfl, r1⟩ := vals1 r
  obtain ⟨as, rd⟩ := Dp.reads I d x u hd r1
  have fin : ∀ h' u tk, (∀ b o, s.heap.get? b = some o → h'.get? b = some o) → EP X pins σ Q (.str d.shown u) { s with heap := h', toks := tk } :=
    fun h' u tk more => ⟨.str d.shown, H, I.kept more, ⟨_, rfl⟩, q⟩
  have no : d.hasDict = true → sysModules ∉ as := fun z => nomatch hn.symm.trans z
  have same : ∀ (u : Tok) (tk : Nat), EP X pins σ Q (.str d.shown u) { s with toks := tk } := fun u tk => fin s.heap u tk fun _ _ e => e
  cases rd with
  | none => exact PySem.P.repr_of_none (same _ _)
  | bool b => exact PySem.P.repr_of_bool (same _ _)
  | int i t => exact PySem.P.repr_of_int (by simpa [PyData.showable] using hs) (same _ _)
  | str z t => exact PySem.P.repr_of_str (same _ _) hz
  | list h1 h2 h3 h4 => exact repr_of_reads' (.list h1 h2 h3 h4) hs no g (by omega) (fun _ _ e => e) fin hz
  | tuple h1 h2 h3 h4 => exact repr_of_reads' (.tuple h1 h2 h3 h4) hs no g (by omega) (fun _ _ e => e) fin hz
  | dict h1 h2 h3 h4 h5 => exact repr_of_reads' (.dict h1 h2 h3 h4 h5) hs no g (by omega) (fun _ _ e => e) fin hz

/-! ### the end of a law: the bits of the script are told -/
section
variable {P : Program} {w : World} {K : PySem.W.Frag} {mg mb : Str → Option Value} {s : Shared} {a : Addr} {vs : List Value} {ns : List Int}
abbrev scriptObj (vs : List Value) : Obj := { cls := .type "list", data := .seq vs.toArray }
/-- the surroundings of the law's call, where at most the script is tracked -/
theorem top_env {H : Hp} (kin : K.In s.heap) (gl : s.heap.Ns mainGlobals mg) (bl : s.heap.Ns builtinsNs mb) (std : ∀ x : Str, x ≠ "__name__" → mb x = bootBuiltins x) (lim : s.heap.NoLimit) (gens : s.gens = #[])
    (is : s.heap.get? a = some (scriptObj vs)) (only : ∀ b, H b ≠ none → b = a) (off : H a ≠ none → K.lookup a = none) (ok : HOk P w H s.heap) :
    K.In (hidT s.heap H) ∧ (hidT s.heap H).Ns mainGlobals mg ∧ Env0 P w K mg (hidT s.heap H) callerA [] s H := by
  have free : ∀ {b : Addr}, b ≠ a → H b = none := fun {b} ne => Classical.byContradiction fun z => ne (only b z)
  have sub : ∀ {b : Addr} {m : Str → Option Value}, s.heap.Ns b m → (hidT s.heap H).Ns b m := by
    rintro b m ⟨o, es, ep, e, d, r⟩
    refine ⟨o, es, ep, hidT_get e (free fun z => ?_), d, r⟩
    rw [z, is] at e
    cases e
    cases d
  have kin' : K.In (hidT s.heap H) := fun b o e => hidT_get (kin b o e) (Classical.byContradiction fun z => by
    have q := only b z
    subst q
    exact nomatch (off z).symm.trans e)
  obtain ⟨mc, h1, h2⟩ := lim
  refine ⟨kin', sub gl, ⟨rfl, ⟨kin', sub gl, ⟨mb, sub bl, std⟩, ⟨mc, sub h1, h2⟩⟩, fun _ _ e => of_hidT e, Nat.le_of_eq (hidT_size _ _), trivial, fun _ m => (nomatch m), ok, .of_eq gens⟩⟩
theorem law_callG {CX : CXT} {k : Nat} {fa : Addr} {x nm : Str} {sp : Sp}
    (kin : K.In s.heap) (gl : s.heap.Ns mainGlobals mg) (bl : s.heap.Ns builtinsNs mb) (std : ∀ x : Str, x ≠ "__name__" → mb x = bootBuiltins x) (lim : s.heap.NoLimit) (gens : s.gens = #[])
    (is : s.heap.get? a = some (scriptObj vs)) (hi : IntsAre vs ns) (hl : ns.length ≤ sizeLine) (room : Room k callerA)
    (F : ∀ base : Heap, K.In base → base.Ns mainGlobals mg → Has P w K mg base CX k nm [x] [] sp) (isf : mg nm = some (.ref fa))
    (want : ∀ H : Hp, Only H → SqL K H a (ns.map V.int) → sp [.ref a] H (fun v _ => v = .bl true) fun _ _ _ => False)
    (noX : ∀ H e s', CX [] H s (fun _ _ _ => False) e s' → False) :
    codeAny (model P w) callerA (.call (.ref fa) ⟨[.ref a], []⟩) (fun r s' => r = .ok (.ret (.bool true)) ∧ OldK s.heap s'.heap ∧ s'.os = s.os ∧ AllBare s'.gens) s := by
  have from_ : ∀ H : Hp, Only H → SqL K H a (ns.map V.int) → HOk P w H s.heap → (∀ b, H b ≠ none → b = a) → (H a ≠ none → K.lookup a = none) →
      codeAny (model P w) callerA (.call (.ref fa) ⟨[.ref a], []⟩) (fun r s' => r = .ok (.ret (.bool true)) ∧ OldK s.heap s'.heap ∧ s'.os = s.os ∧ AllBare s'.gens) s := by
    intro H hO hS ok only off
    obtain ⟨k1, k2, env⟩ := top_env (H := H) kin gl bl std lim gens is only off ok
    obtain ⟨f, fd, ds, F', g, _, bnd, dv⟩ := F _ k1 k2
    cases dv
    cases g.symm.trans isf
    refine codeAny_mono (F'.does callerA [] s H ⟨[.ref a], []⟩ [.ref a] [.ref a] _ _ rfl room env (bnd s [.ref a] kin rfl) (.cons rfl .nil) (want H hO hS)) ?_
    intro r s' z
    match r, z with
    | .error e, z => exact (noX H e s' z).elim
    | .ok .next, z => exact z.elim
    | .ok .brk, z => exact z.elim
    | .ok .cont, z => exact z.elim
    | .ok (.ret u), ⟨v, H', os, bare, un, ok', r', q⟩ =>
      have q' : v = .bl true := q
      subst q'
      have r2 : u = Value.bool true := r'
      subst r2
      refine ⟨rfl, OldK.of_keep ?_, os, bare⟩
      intro b o e
      rcases hO b with z | ⟨ob, ys, z⟩
      · exact un.keep b o e z (fun m => (nomatch m)) (fun m => (nomatch m))
      · have e1 := (ok b _ z).1
        have e2 := (ok' b _ (un.frzs b ob _ z)).1
        rw [e] at e1
        cases e1
        exact e2
  have rv := vals_ints hi
  cases q : K.lookup a with
  | some o =>
    have e := kin a o q
    rw [is] at e
    cases e
    exact from_ (fun _ => none) (fun _ => .inl rfl) (.inr ⟨_, vs.toArray, _, q, rfl, rfl, rfl, by rw [List.size_toArray, hi.length]; exact hl, by simpa using rv⟩) (fun _ _ z => nomatch z) (fun _ z => (z rfl).elim) fun z => (z rfl).elim
  | none =>
    have here : ∀ b u, (if b = a then some (HO.frz (scriptObj vs) (.lst (ns.map V.int))) else none) = some u → b = a ∧ u = .frz (scriptObj vs) (.lst (ns.map V.int)) := by
      intro b u z
      by_cases c : b = a
      · rw [if_pos c] at z
        exact ⟨c, (Option.some.inj z).symm⟩
      · rw [if_neg c] at z
        cases z
    refine from_ (fun b => if b = a then some (.frz (scriptObj vs) (.lst (ns.map V.int))) else none) ?_ (.inl (.inr ⟨scriptObj vs, if_pos rfl⟩)) ?_ ?_ fun _ => q
    · intro b
      by_cases c : b = a
      · exact .inr ⟨_, _, if_pos c⟩
      · exact .inl (if_neg c)
    · intro b u z
      obtain ⟨c, rfl⟩ := here b u z
      subst c
      exact ⟨is, by rw [List.length_map]; exact hl, vs, _, rv, is⟩
    · intro b z
      by_cases c : b = a
      · exact c
      · exact (z (if_neg c)).elim
end
/-- what k_head (or a head by facts) leaves open, from the law's contract -/
theorem walk_ofG {l : PySem.W.OpenLaw} {n k : Nat} {q : Program} {loose : List Str} {XP : (Str → Option Value) → Heap → Prop} {YP : World → Heap → Prop} {d : DefRec} {CX : World → CXT} {x nm : Str}
    (most : l.most = some n) (few : n ≤ sizeLine) (nodef : d.params.defaults = []) (named : d.name = nm) (room : Room k callerA)
    (F : ∀ (w : World) (mg : Str → Option Value) (h : Heap), YP w h → h.Ns mainGlobals mg → ∃ (K : PySem.W.Frag) (sp : Sp), K.In h ∧
        (∀ (H : Hp) (a : Addr) (ns : List Int), ns.length ≤ n → (∀ z ∈ ns, Builtin.Int.intBits z ≤ 1048576) → Only H → SqL K H a (ns.map V.int) → sp [.ref a] H (fun v _ => v = .bl true) fun _ _ _ => False) ∧
        ∀ base : Heap, K.In base → base.Ns mainGlobals mg → Has l.prog w K mg base (CX w) k nm [x] [] sp)
    (noX : ∀ (w : World) (H : Hp) (s : Shared) (e : Value) (s' : Shared), CX w [] H s (fun _ _ _ => False) e s' → False) :
    PySem.W.WalkO q loose XP YP l.row.toRowW d []
      (fun f vs => PySem.call f vs) := by
  apply Att.attach_callB most nodef
  intro w s0 s1 mg mb fa o pm cd doc a vs ns G Y _ _ _ isf is hi hl bits gens
  obtain ⟨K, sp, kin, want, F'⟩ := F w mg _ Y G.T.g
  exact law_callG kin G.T.g G.T.b G.T.builtins G.T.nolimit gens is hi (Nat.le_trans hl few) room F' (named ▸ isf) (fun H hO hS => want H a ns hl bits hO hS) fun H e s' => noX w H s1 e s'
end Sb

/-! Sb, part E: facts of the top as Boolean functions of the written part; the package's errors: made, raised, caught, asked. -/
namespace Sb
open PySem PySem.Spec PyProof.Rows L2

/-! ### facts of the top -/
abbrev Fb := PySem.W.Frag → Bool
def obsF (fs : List Fb) (fn : List He.DefD) (K : PySem.W.Frag) : He.AlD := (fs.all (fun f => f K) && fn.all (fun d => d.ok K), fn.map fun d => He.fnW K d.at_)
def SaysF (fs : List Fb) (fn : List He.DefD) (K : PySem.W.Frag) : Prop := obsF fs fn K = He.valD fn
/-- what is reached from the module's names and from the interpreter's own table in n steps -/
def reach (g : Addr → Option Obj) : Nat → List Addr
  | 0 => [mainGlobals, cStatics]
  | n + 1 => He.growD g (reach g n)
def lookF (n : Nat) (fs : List Fb) (fn : List He.DefD) (g : Addr → Option Obj) : He.AlD := obsF fs fn (He.frG g (reach g n))
def hookF (n : Nat) (fs : List Fb) (fn : List He.DefD) : PySem.W.Hook :=
  ⟨He.AlD, fun s => lookF n fs fn s.heap.get?, fun _ => He.valD fn, fun _ h => ∃ K : PySem.W.Frag, K.In h ∧ SaysF fs fn K, fun _ _ e => ⟨_, He.frG_in, e⟩,
    fun _ _ _ z more => z.imp fun _ c => ⟨PySem.W.Frag.In.keeps c.1 more, c.2⟩⟩
theorem lookF_eq {n : Nat} {fs : List Fb} {fn : List He.DefD} {g : Addr → Option Obj} {s : Shared} (h : ∀ a, g a = s.heap.get? a) : lookF n fs fn g = (hookF n fs fn).obs s := by
  cases funext h
  rfl
section
variable {fs : List Fb} {fn : List He.DefD} {K : PySem.W.Frag}
theorem SaysF.fact (c : SaysF fs fn K) (i : Nat) {f : Fb} (at_ : fs[i]? = some f) : f K = true := by
  have both : (fs.all (fun f => f K) && fn.all (fun d => d.ok K)) = true := congrArg Prod.fst c
  exact List.all_eq_true.mp (Bool.and_eq_true_iff.mp both).1 f (List.mem_of_getElem? at_)
theorem SaysF.def_ (c : SaysF fs fn K) (i : Nat) {d : He.DefD} (at_ : fn[i]? = some d) : ∃ fd, FunD K d.name d.qual d.params d.body d.scope (d.dvs K) (d.kws K) (He.fAd K d.at_) fd := by
  have both : (fs.all (fun f => f K) && fn.all (fun d => d.ok K)) = true := congrArg Prod.fst c
  have e : (fn.map fun d => He.fnW K d.at_)[i]? = (fn.map He.DefD.val)[i]? := congrArg (·[i]?) (congrArg Prod.snd c)
  simp only [List.getElem?_map, at_, Option.map_some, Option.some.injEq] at e
  exact He.DefD.funD e (List.all_eq_true.mp (Bool.and_eq_true_iff.mp both).2 d (List.mem_of_getElem? at_))
end

/-! ### the package's errors -/
/-- the class at C is an error of the program: over ValueError, with a dict, made by ValueError's own maker -/
def errCls (K : PySem.W.Frag) (C : Addr) : Bool := match K.lookup C with
  | some ⟨.type "type", _, .cls cd, sl⟩ => (match cd.mro, sl.toList with
    | .ref C' :: bm, [_, _, _, _, some (.builtin n), _] => decide (C' = C) && decide (n = "ValueError.__new__") && !cd.hasDel && cd.hasDict && PySem.HandSPX.refsVE bm
    | _, _ => false)
  | _ => false
theorem errCls_ok {K : PySem.W.Frag} {C : Addr} (h : errCls K C = true) :
    ∃ nm q N bs bm sn sub ab col dd k0 k1 k2 k3 k5, K.lookup C = some (excClassObj nm q C N bs bm true sn sub ab col dd k0 k1 k2 k3 k5 "ValueError.__new__") ∧ PySem.HandSPX.refsVE bm = true := by
  unfold errCls at h
  split at h
  · rename_i dd cd sl at_
    split at h
    · rename_i C' bm k0 k1 k2 k3 n k5 e1 e2
      simp only [Bool.and_eq_true, decide_eq_true_eq, Bool.not_eq_true'] at h
      obtain ⟨⟨⟨⟨rfl, rfl⟩, e3⟩, e4⟩, e5⟩ := h
      cases cd
      cases sl
      cases e1
      cases e2
      cases e3
      cases e4
      exact ⟨_, _, _, _, _, _, _, _, _, _, _, _, _, _, _, at_, e5⟩
    · cases h
  · cases h
def errB (K : PySem.W.Frag) (C : Addr) : Bool :=
  errCls K C && decide (PySem.W.findIn K (.ref C) "__setattr__" = some (some (.builtin "object.__setattr__"))) && decide (PySem.W.subIn K (.ref C) (.type "BaseException") = some true) &&
  decide (PySem.W.typeIn K (.ref C) = some (.type "type")) && PySem.W.keepIn K (.ref C) &&
  decide (PySem.W.findIn K (.ref C) "__getattribute__" = some (some (.builtin "BaseException.__getattribute__"))) && decide (PySem.W.findIn K (.ref C) "__getattr__" = some none) && PySem.W.hasDictIn K C &&
  (PySem.W.clsIn K C).isSome && decide (PySem.W.findIn K (.ref C) "__class__" = some (some (.builtin "object.__class__"))) &&
  decide (PySem.W.specialIn K (.builtin "object.__class__") "__get__" = some (some (.builtin "getset_descriptor.__get__"))) && decide (PySem.W.takesIn K (.builtin "object.__class__") = some true) &&
  decide (PySem.W.mroIn K C (.type "object") = some true)
/-- what the written part says of an error class -/
structure ErrC (K : PySem.W.Frag) (C : Addr) : Prop where
  oex : OexC K C
  xf : XfC K C
  cl : (PySem.W.clsIn K C).isSome = true
  ha : PySem.W.findIn K (.ref C) "__class__" = some (some (.builtin "object.__class__"))
  hn : PySem.W.specialIn K (.builtin "object.__class__") "__get__" = some (some (.builtin "getset_descriptor.__get__"))
  ht : PySem.W.takesIn K (.builtin "object.__class__") = some true
  hm : PySem.W.mroIn K C (.type "object") = some true
theorem errB_ok {K : PySem.W.Frag} {C : Addr} (h : errB K C = true) : ErrC K C := by
  simp only [errB, Bool.and_eq_true, decide_eq_true_eq] at h
  obtain ⟨⟨⟨⟨⟨⟨⟨⟨⟨⟨⟨⟨a, b⟩, c⟩, d⟩, e⟩, f⟩, g⟩, i⟩, j⟩, k⟩, l⟩, m⟩, n⟩ := h
  exact ⟨⟨errCls_ok a, b, c, d, e⟩, ⟨f, g, c, i⟩, j, k, l, m, n⟩
/-- the base class of the errors, at S: S.__init__ is ValueError's -/
def baseB (K : PySem.W.Frag) (S : Addr) : Bool :=
  decide (PySem.W.specialIn K (.ref S) "__getattribute__" = some (some (.builtin "type.__getattribute__"))) && PySem.W.readsIn K S (.type "type") &&
  (match PySem.W.findCls K (.ref S) (.type "type") "__init__" with | some (.val (.builtin n)) => decide (n = "ValueError.__init__") | _ => false)
structure BaseC (K : PySem.W.Frag) (S : Addr) : Prop where
  sp : PySem.W.specialIn K (.ref S) "__getattribute__" = some (some (.builtin "type.__getattribute__"))
  rd : PySem.W.readsIn K S (.type "type") = true
  fc : PySem.W.findCls K (.ref S) (.type "type") "__init__" = some (.val (.builtin "ValueError.__init__"))
theorem baseB_ok {K : PySem.W.Frag} {S : Addr} (h : baseB K S = true) : BaseC K S := by
  simp only [baseB, Bool.and_eq_true, decide_eq_true_eq] at h
  obtain ⟨⟨a, b⟩, c⟩ := h
  refine ⟨a, b, ?_⟩
  split at c
  · rename_i n e
    rw [e, of_decide_eq_true c]
  · cases c

section
variable {X : Cx} {e : Expr} {es : List Expr} {ta : TA} {p1 p2 pos : Pos} {x : Str} {S : Addr}
/-- S.__init__(self, ..), S the base class of the errors -/
theorem pe_baseinit {pl : Sem Bool} (gl : Gl X x) (isS : X.mg x = some (.ref S)) (B : BaseC X.K S) (ha : PA X (e :: es) ta)
    (form : eval (.Call (.Attribute (.Name x p1) "__init__" p2) (e :: es) [] pos) X.env = (do
      let ov ← eval (.Name x p1) X.env
      standAt p2.atName
      let (f, first) ← holding [ov] (getMethod ov "__init__" pl)
      callWith pos f first (backTo pos (starEach (e :: es) X.env)) (backToKw pos (keywordEach [] X.env))) := by rfl)
    (nd : (x == ("__debug__" : Str)) = false := by decide) (st : starEach (e :: es) X.env = (false, eval e X.env) :: starEach es X.env := by rfl) (plain : (backTo pos (starEach es X.env)).any (·.1) = false := by rfl) :
    PE X (.Call (.Attribute (.Name x p1) "__init__" p2) (e :: es) [] pos) (tVeI X.K ta) := by
  refine ⟨fun pins s σ H Q I h => PySem.W.methodCall_KW (ld_glob I gl isS ?_ nd) form⟩
  refine PySem.W.method_cls I.kIn B.sp (PySem.W.cls_value I.kIn B.rd B.fc (by decide +kernel) ?_)
  show wpAny _ _ (callWith pos (Value.builtin "ValueError.__init__") [] (backTo pos (starEach (e :: es) X.env)) []) _ _ _
  refine PyProof.Rows.callWith_method1 (thn (ha.run pos pins _ σ H _ (I.tok _) h) ?_) st plain
  rintro us s1 ⟨vs, H1, J, r, a, C, ws, rfl, few, T, isE, q⟩
  cases r with
  | cons ra rr =>
    cases ra
    refine oinit_ok T J isE ?_ fun s' J' => ⟨.non, H1, J', rfl, q⟩
    rw [← Paired.length rr, sizeLine_eq]
    omega
end

/-- __init__ of an error with the field f -/
def spInit (C : Addr) (f : Str) : Sp := fun vs H Q _ => ∃ (a : Addr) (v : V), vs = [.ref a, v] ∧ H a = some (exo a C none) ∧
  ∀ dx, H dx = none → dx ≠ a → Q .non (upd (upd H dx (exd dx [(f, v)])) a (exo a C (some dx)))
/-- the error class named x, with its field f, can be made -/
def Err (P : Program) (w : World) (K : PySem.W.Frag) (mg : Str → Option Value) (base : Heap) (x f : Str) : Prop :=
  mg x = some (.ref (He.ga K x)) ∧ ErrC K (He.ga K x) ∧ ∃ (fI : Addr) (fd : FuncData) (ps : List Str), PySem.W.findIn K (.ref (He.ga K x)) "__init__" = some (some (.ref fI)) ∧ PySem.W.typeIn K (.ref fI) = some (.type "function") ∧
    FnOk P w K mg base CX0 1 fI fd ps (spInit (He.ga K x) f) ∧ Binds K fd ps []
/-- C(e) -/
def tErr (C : Addr) (f : Str) (te : TE) : L2.St → Hp → XK → Prop := fun σ H Q => te σ H fun v H1 => ∀ d, H1 d = none → Q (.ref C) (some d) (upd H1 d (.xd [(f, v)]))
/-- a reading that hands on less -/
def tLess (te : TE) : TE := fun σ H Q => ∃ Q0 : VK, te σ H Q0 ∧ ∀ v H1, Q0 v H1 → Q v H1
section
variable {X : Cx} {e : Expr} {te : TE} {p pos : Pos} {x f : Str}
theorem pe_less (he : PE X e te) : PE X e (tLess te) := by
  refine ⟨fun pins s σ H Q I h => ?_⟩
  obtain ⟨Q0, h0, imp⟩ := h
  refine wpAny_mono (he.run pins s σ H Q0 I h0) ?_ fun _ _ z => z
  rintro u s1 ⟨v, H1, J, r, q⟩
  exact ⟨v, H1, J, r, imp v H1 q⟩
theorem err_made {C a : Addr} {f : Str} {v : V} {H : Hp} {Q : XK} (ha : H a = none) (z : ∀ d, H d = none → Q (.ref C) (some d) (upd H d (.xd [(f, v)]))) :
    spInit C f [.ref a, v] (upd H a (exo a C none)) (fun v H2 => v = .non ∧ ∃ (d : Addr) (fs : List (Str × V)), H2 a = some (exo a C (some d)) ∧ H2 d = some (exd d fs) ∧ H d = none ∧ Q (.ref C) (some d) (upd (del H2 a) d (.xd fs))) (fun _ _ _ => False) := by
  refine ⟨a, v, rfl, upd_same, fun dx hd ne => ⟨rfl, dx, [(f, v)], upd_same, ?_, ?_, ?_⟩⟩
  · rw [upd_ne ne, upd_same]
  · rwa [upd_ne ne] at hd
  · have e : upd (del (upd (upd (upd H a (exo a C none)) dx (exd dx [(f, v)])) a (exo a C (some dx))) a) dx (.xd [(f, v)]) = upd H dx (.xd [(f, v)]) := by
      funext b
      by_cases hb : b = dx
      · rw [hb, upd_same, upd_same]
      · rw [upd_ne hb, upd_ne hb]
        by_cases hb2 : b = a
        · rw [hb2, del_same, ha]
        · rw [del_ne hb2, upd_ne hb2, upd_ne hb, upd_ne hb2]
    rw [e]
    rw [upd_ne ne] at hd
    exact z dx hd
theorem pmk_err {k : Nat} (M : Err X.prog X.w X.K X.mg X.base x f) (room : Room (k + 2) X.A) (gl : Gl X x) (he : PE X e te)
    (nd : (x == ("__debug__" : Str)) = false := by decide) (st : starEach [e] X.env = (false, eval e X.env) :: starEach [] X.env := by rfl) (pl : (backTo pos (starEach [] X.env)).any (·.1) = false := by rfl) :
    PMk X (.Call (.Name x p) [e] [] pos) (tErr (He.ga X.K x) f te) := by
  obtain ⟨g, C, fI, fd, ps, iC, tI, F, bnd⟩ := M
  intro pins s σ H Q I h
  refine pmk_oex (C := He.ga X.K x) C.oex iC tI F (room.mono (by omega)) bnd .nil pass0 gl g (pa_cons (t := tNil) (pe_less he) pa_nil st) nd st pl pins s σ H Q I ?_
  exact ⟨_, h, fun v H1 z => ⟨(by decide : 1 ≤ 1000), fun a ha => err_made ha z⟩⟩
/-- raise C(e) -/
theorem ps_err {k : Nat} {W : WX} {pos2 : Pos} (M : Err X.prog X.w X.K X.mg X.base x f) (calm : X.calm = true) (tk : Takes X W) (room : Room (k + 2) X.A) (gl : Gl X x) (he : PE X e te)
    (nd : (x == ("__debug__" : Str)) = false := by decide) (st : starEach [e] X.env = (false, eval e X.env) :: starEach [] X.env := by rfl) (pl : (backTo pos (starEach [] X.env)).any (·.1) = false := by rfl) :
    PS X (.Raise (some (.Call (.Name x p) [e] [] pos)) none pos2) (fun _ σ H => tErr (He.ga X.K x) f te σ H fun cls d H' => W cls d σ H') := ps_raise calm tk (pmk_err M room gl he nd st pl)
end

/-- the base class of the errors -/
structure BaseAt (K : PySem.W.Frag) (mg : Str → Option Value) (x : Str) : Prop where
  g : mg x = some (.ref (He.ga K x))
  c : ErrC K (He.ga K x)
  b : BaseC K (He.ga K x)
def baseAtB (K : PySem.W.Frag) (x : Str) : Bool := He.eqO (PySem.W.nsIn K mainGlobals x) (some (some (.ref (He.ga K x)))) && errB K (He.ga K x) && baseB K (He.ga K x)
theorem baseAt_ok {K : PySem.W.Frag} {h : Heap} {mg : Str → Option Value} {x : Str} (X : K.In h) (G : h.Ns mainGlobals mg) (b : baseAtB K x = true) : BaseAt K mg x := by
  simp only [baseAtB, Bool.and_eq_true] at b
  exact ⟨PySem.W.mg_of X G (He.eqO_ok b.1.1), errB_ok b.1.2, baseB_ok b.2⟩
/-! ### an error's __init__ in the text -/
/-- what the head says of the error class x and of its __init__, st -/
structure ErrAt (K : PySem.W.Frag) (mg : Str → Option Value) (x f qn : Str) (st : Stmt) : Prop where
  g : mg x = some (.ref (He.ga K x))
  c : ErrC K (He.ga K x)
  i : PySem.W.findIn K (.ref (He.ga K x)) "__init__" = some (some (.ref (He.fAd K (x, some "__init__"))))
  t : PySem.W.typeIn K (.ref (He.fAd K (x, some "__init__"))) = some (.type "function")
  n : PySem.W.findIn K (.ref (He.ga K x)) f = some none
  F : ∃ fd, FunD K "__init__" qn (defArgs st) (defBody st) (defScope st) [] [] (He.fAd K (x, some "__init__")) fd
def errAtB (K : PySem.W.Frag) (x f : Str) : Bool := He.eqO (PySem.W.nsIn K mainGlobals x) (some (some (.ref (He.ga K x)))) && errB K (He.ga K x) &&
  decide (PySem.W.findIn K (.ref (He.ga K x)) "__init__" = some (some (.ref (He.fAd K (x, some "__init__"))))) && decide (PySem.W.typeIn K (.ref (He.fAd K (x, some "__init__"))) = some (.type "function")) &&
  decide (PySem.W.findIn K (.ref (He.ga K x)) f = some none)
theorem errAt_ok {K : PySem.W.Frag} {h : Heap} {mg : Str → Option Value} {x f qn : Str} {st : Stmt} (X : K.In h) (G : h.Ns mainGlobals mg) (b : errAtB K x f = true)
    (F : ∃ fd, FunD K "__init__" qn (defArgs st) (defBody st) (defScope st) [] [] (He.fAd K (x, some "__init__")) fd) : ErrAt K mg x f qn st := by
  simp only [errAtB, Bool.and_eq_true, decide_eq_true_eq] at b
  obtain ⟨⟨⟨⟨a, b⟩, c⟩, d⟩, e⟩ := b
  exact ⟨PySem.W.mg_of X G (He.eqO_ok a), errB_ok b, c, d, e, F⟩
/-! ### calls whose errors are wished for at the caller's slots -/
section
variable {X : Cx} {CX : CXT} {k : Nat} {ps : List Str} {sp : Sp} {dvs : List V} {E : L2.St → XK} {x : Str} {p pos : Pos} {e : Expr} {es : List Expr} {t : TA}
theorem pe_fnS (C : Has X.prog X.w X.K X.mg X.base CX k x ps dvs sp) (px : ∀ σ, PassesAt CX X σ (E σ)) (g : Still X.A) (room : Room k X.A) (gl : Gl X x) (as : PA X (e :: es) t)
    (nd : (x == ("__debug__" : Str)) = false := by decide) (st : starEach (e :: es) X.env = (false, eval e X.env) :: starEach es X.env := by rfl) (pl : (backTo pos (starEach es X.env)).any (·.1) = false := by rfl) :
    PE X (.Call (.Name x p) (e :: es) [] pos) (tCallSD sp dvs E t) := by
  obtain ⟨f, fd, ds, F, isf, kp, bnd, dv⟩ := C
  refine ⟨fun pins s σ H Q I h => wpAny_Call_Name_kw (ld_glob I gl isf (PySem.W.callWith_K (h₀ := X.base) I.ok.mod.kin kp (thn (as.run pos pins s σ H _ I h) ?_) st pl) nd)⟩
  rintro us s1 ⟨vs, H1, J, rv, q⟩
  have all := rv.append dv
  have n : (us ++ ds).length = ps.length := all.length.symm.trans (F.many _ _ _ _ q)
  refine ⟨J.kIn, wpAny_call (codeAny_mono (F.does X.A X.stack s1 H1 ⟨us, []⟩ _ _ Q (E σ) g room J.env0 (bnd s1 us J.kIn n) all q) ?_)⟩
  intro r s' z
  match r, z with
  | .error e, z => exact px σ pins H1 s1 e s' J z
  | .ok (.ret u), z => exact J.after z
  | .ok .next, z => exact z.elim
  | .ok .brk, z => exact z.elim
  | .ok .cont, z => exact z.elim
end

/-- where no error is wished for, none comes -/
theorem no_cx {P : Program} {w : World} {outer : List Env} {H : Hp} {s : Shared} {e : Value} {s' : Shared} (h : L2.CX P w outer H s (fun _ _ _ => False) e s') : False := by
  obtain ⟨_, _, _, _, _, _, _, _, _, _, _, _, z⟩ := h
  exact z
theorem Has.calm {P : Program} {w : World} {K : PySem.W.Frag} {mg : Str → Option Value} {base : Heap} {k : Nat} {x : Str} {ps : List Str} {dvs : List V} {sp sp' : Sp} (h : Has P w K mg base (L2.CX P w) k x ps dvs sp)
    (imp : ∀ vs H Q E, sp' vs H Q E → sp vs H Q (fun _ _ _ => False)) : Has P w K mg base CX0 k x ps dvs sp' := by
  obtain ⟨f, fd, ds, F, r⟩ := h
  refine ⟨f, fd, ds, ⟨fun vs H Q E q => F.many _ _ _ _ (imp _ _ _ _ q), fun A o s H as us vs Q E g ro e b v q => codeAny_mono (F.does A o s H as us vs Q _ g ro e b v (imp _ _ _ _ q)) ?_⟩, r⟩
  intro r s' z
  match r, z with
  | .error _, z => exact no_cx z
  | .ok (.ret _), z => exact z
  | .ok .next, z => exact z
  | .ok .brk, z => exact z
  | .ok .cont, z => exact z
/-! ### isinstance of a caught error -/
/-- isinstance(e, c), e the error at a that the suite holds, of the class cls, with the dict d -/
def rIsX (K : PySem.W.Frag) (a : Addr) (cls : Value) (d : Option Addr) : List V → Hp → VK → Prop := fun xs H Q => ∃ (D dd : Addr) (fs : List (Str × V)) (c : V) (cv : Value) (b : Bool),
  xs = [.ref a, c] ∧ cls = .ref D ∧ d = some dd ∧ H dd = some (.xd fs) ∧ ErrC K D ∧ ClsV c cv ∧ PySem.W.kitOne K (.ref D) cv = some b ∧ Q (.bl b) H
theorem call_isX {X : Cx} {a : Addr} {cls : Value} {d : Option Addr} {oe : Obj} {pn : List (Addr × Obj)} (hz : Zc cls d oe) (hf : ∃ vs, oe.data = .fields vs) :
    CallR (X.suite a ((a, oe) :: pn)) (.builtin "isinstance") (rIsX X.K a cls d) := by
  intro pins s σ H _ us Q I r h
  obtain ⟨D, dd, fs, c, cv, b, rfl, rfl, rfl, hd, T, k, e, q⟩ := h
  obtain ⟨u1, u2, rfl, r1, r2⟩ := vals2 r
  cases r1
  have e2 := k.eq r2
  subst e2
  obtain ⟨here, _⟩ := I.pin (a, oe) (List.mem_append_left _ List.mem_cons_self)
  obtain ⟨mA, hns, _⟩ := (show ObjOk X.prog X.w H s.heap dd (.xd fs) from I.hok dd _ hd)
  obtain ⟨od, ho, _⟩ := lookIn_ns hns
  obtain ⟨vs, hv⟩ := hf
  have J : PySem.W.InstAt s.heap a oe D (some od) := ⟨here, hz.1, by unfold PySem.W.notCls; rw [hv] <;> rfl, by rw [hz.2]; exact ho⟩
  exact PySem.W.kia_one (PySem.W.kitx_exc T.cl T.xf.ga T.xf.gg T.xf.exC T.ha T.hn T.ht T.hm) I.kIn J e (fun z => nomatch z) fun tk => ⟨.bl b, H, I.kept (t' := tk) fun _ _ z => z, rfl, q⟩

/-- repr within an except suite -/
theorem call_reprS {X : Cx} {a : Addr} {pn : List (Addr × Obj)} (g : Still X.A) (room : X.A.units + 102 < cLine) : CallR (X.suite a pn) (.builtin "repr") (rRepr X.K) := call_repr (X := X.suite a pn) g room
/-! ### data stays data -/
section
variable {K : PySem.W.Frag} {H H' : Hp}
theorem seqT_same {a : Addr} {xs : List V} (e : Same H H') (h : SqT K H a xs) : SqT K H' a xs := by
  rcases h with (h | ⟨o, h⟩) | h
  · exact .inl (.inl (e _ _ h))
  · exact .inl (.inr ⟨o, e _ _ h⟩)
  · exact .inr h
mutual
theorem Dp.same (e : Same H H') : ∀ (d : PyData) (v : V), Dp K H v d → Dp K H' v d
  | _, _, .non => .non
  | _, _, .bl b => .bl b
  | _, _, .int i => .int i
  | _, _, .str x => .str x
  | .list ds, _, .lst h hs => .lst (e.seq h) (DpAll.same e ds _ hs)
  | .tuple ds, _, .tup h hs => .tup (seqT_same e h) (DpAll.same e ds _ hs)
theorem DpAll.same (e : Same H H') : ∀ (ds : List PyData) (vs : List V), DpAll K H vs ds → DpAll K H' vs ds
  | [], _, .nil => .nil
  | d :: ds, _, .cons h hs => .cons (Dp.same e d _ h) (DpAll.same e ds _ hs)
end
theorem Shows.same {x : V} {d : PyData} (s : Shows K H x d) (e : Same H H') : Shows K H' x d := ⟨Dp.same e d x s.dp, s.ok, s.nd, s.deep, s.size⟩
theorem tyx_same {x : V} {n : String} (e : Same H H') (h : TyX K H x (.type n)) : TyX K H' x (.type n) := by
  cases h with
  | base b =>
    cases b with
    | non => exact .base .non
    | bl b => exact .base (.bl b)
    | int i => exact .base (.int i)
    | str x => exact .base (.str x)
    | flt x => exact .base (.flt x)
    | lst h => exact .base (.lst (e _ _ h))
    | frz h => exact .base (.frz (e _ _ h))
    | tup h => exact .base (.tup (e _ _ h))
    | dK h => exact .base (.dK (e _ _ h))
    | dT h => exact .base (.dT (e _ _ h))
  | byt b => exact .byt b
  | set h => exact .set (e _ _ h)
  | kList h c => exact .kList h c
  | kTuple h c => exact .kTuple h c
  | kDict h c => exact .kDict h c
  | fTuple h => exact .fTuple (e _ _ h)
  | fDict h => exact .fDict (e _ _ h)
end
/-! ### defs with defaults -/
section
variable {P : Program} {w : World} {K : PySem.W.Frag} {mg : Str → Option Value} {base : Heap} {k : Nat} {x : Str} {st : Stmt} {ps N : List Str} {sp : Sp} {dvs dv : List V}
/-- a def that may raise; bnd tells how its parameters are bound, dv: by which defaults the last ones are filled -/
theorem hasXB (D : DefAt K mg x st dvs) (S : FnScope N ps (defScope st))
    (bnd : ∀ fd, FunD K x x (defArgs st) (defBody st) (defScope st) dvs [] (He.ga K x) fd → ∃ ds, Vals dv ds ∧ Binds K fd ps ds)
    (many : ∀ vs H Q E, sp vs H Q E → vs.length = ps.length)
    (does : ∀ (cv : Value) (A : Around) (outer : List Env) (s : Shared) (H : Hp) (vs : List V) (Q : VK) (E : XK), Still A → Room k (A.deeper (envOfC x (defScope st) s.heap.objs.size (He.ga K x) cv)) → sp vs H Q E →
      ∃ t, PSs (cxOf (L2.CX P w) P w K mg base N x (defScope st) (He.ga K x) cv A outer s H E) (defBody st) t ∧ t { nx := fun _ H' => Q .non H', rt := Q } (start N vs) H) :
    Has P w K mg base (L2.CX P w) (k + 1) x ps dv sp := by
  obtain ⟨fd, F⟩ := D.F
  obtain ⟨ds, v, b⟩ := bnd fd F
  exact ⟨_, fd, ds, okXG F S many does, D.g, F.kp, b, v⟩
end
/-! ### a reading of one's own -/
section
variable {X : Cx} {e : Expr} {st : Stmt}
theorem pt_imp {t t' : TT} (h : PT X e t) (imp : ∀ σ H Q, t' σ H Q → t σ H Q) : PT X e t' := ⟨fun pins s σ H Q I z => h.run pins s σ H Q I (imp _ _ _ z)⟩
theorem pe_imp {t t' : TE} (h : PE X e t) (imp : ∀ σ H Q, t' σ H Q → t σ H Q) : PE X e t' := ⟨fun pins s σ H Q I z => h.run pins s σ H Q I (imp _ _ _ z)⟩
theorem ps_imp {t t' : TS} (h : PS X st t) (imp : ∀ D σ H, t' D σ H → t D σ H) : PS X st t' := ⟨fun pins s σ H D I z => h.run pins s σ H D I (imp _ _ _ z)⟩
end
/-! ### the order of data; lists of ints compared -/
def rLtD (K : PySem.W.Frag) : R2 := fun x y H Q => ∃ d e, Dp K H x d ∧ Dp K H y e ∧ PySem.W.alike d e = true ∧ d ≠ .none ∧ d.depth ≤ 60 ∧ Q (.bl (PySem.W.dataLt d e)) H
theorem op_ltD {X : Cx} (room : X.A.units + 64 < cLine) : OpR X (compareOp .Lt) (rLtD X.K) := by
  intro pins s σ H x y v u Q I rx ry h
  obtain ⟨d, e, hd, he, al, nn, dp, q⟩ := h
  obtain ⟨as, r1⟩ := Dp.reads I d x v hd rx
  obtain ⟨bs, r2⟩ := Dp.reads I e y u he ry
  have le : min d.depth e.depth ≤ d.depth := Nat.min_le_left _ _
  exact PySem.W.lt_data r1 r2 al nn (by omega) ⟨.bl _, H, I, rfl, q⟩
theorem alike_ints : ∀ ns ms : List Int, PySem.W.alikeAll (ns.map PyData.int) (ms.map PyData.int) = true
  | [], _ => by
    show PySem.W.alikeAll [] _ = true
    rw [PySem.W.alikeAll]
  | _ :: _, [] => by
    show PySem.W.alikeAll (_ :: _) [] = true
    rw [PySem.W.alikeAll]
  | n :: ns, m :: ms => by
    show PySem.W.alikeAll (.int n :: ns.map .int) (.int m :: ms.map .int) = true
    rw [PySem.W.alikeAll, alike_ints ns ms, PySem.W.alike]
    rfl
theorem eqv_int (n m : Int) : PyData.eqv (.int n) (.int m) = decide (n = m) := by
  rw [PyData.eqv]
  by_cases e : n = m
  · rw [e]
    simp
  · rw [decide_eq_false e]
    simpa using e
theorem eqv_ints : ∀ ns ms : List Int, PyData.eqvAll (ns.map PyData.int) (ms.map PyData.int) = decide (ns = ms)
  | [], [] => by
    show PyData.eqvAll [] [] = _
    rw [PyData.eqvAll]
    rfl
  | [], m :: ms => by
    show PyData.eqvAll [] (_ :: _) = _
    rw [PyData.eqvAll, decide_eq_false fun e => by cases e]
  | n :: ns, [] => by
    show PyData.eqvAll (_ :: _) [] = _
    rw [PyData.eqvAll, decide_eq_false fun e => by cases e]
  | n :: ns, m :: ms => by
    show PyData.eqvAll (.int n :: ns.map .int) (.int m :: ms.map .int) = _
    rw [PyData.eqvAll, eqv_int, eqv_ints ns ms]
    by_cases e : n = m
    · by_cases e2 : ns = ms
      · rw [e, e2]
        simp
      · rw [decide_eq_false e2, Bool.and_false, decide_eq_false fun z => e2 (List.cons.inj z).2]
    · rw [decide_eq_false e, Bool.false_and, decide_eq_false fun z => e (List.cons.inj z).1]
theorem lt_ints (ns ms : List Int) : PySem.W.dataLt (.list (ns.map PyData.int)) (.list (ms.map PyData.int)) = HT.lexLt ns ms := by
  rw [PySem.W.dataLt_list]
  induction ns generalizing ms with
  | nil =>
    cases ms with
    | nil => rfl
    | cons m ms =>
      show PyProof.Rows.lexLt PyProof.Rows.itemOrd (PySem.W.keyToksAll []) (PySem.W.keyToksAll (.int m :: ms.map .int)) = _
      rw [PySem.W.toks_all_cons]
      rfl
  | cons n ns ih =>
    cases ms with
    | nil =>
      show PyProof.Rows.lexLt PyProof.Rows.itemOrd (PySem.W.keyToksAll (.int n :: ns.map .int)) (PySem.W.keyToksAll []) = _
      rw [PySem.W.toks_all_cons]
      rfl
    | cons m ms =>
      have al : PySem.W.alike (.int n) (.int m) = true := by rw [PySem.W.alike]
      show PyProof.Rows.lexLt PyProof.Rows.itemOrd (PySem.W.keyToksAll (.int n :: ns.map .int)) (PySem.W.keyToksAll (.int m :: ms.map .int)) = _
      rw [HT.lexLt_cons]
      by_cases e : n = m
      · rw [PySem.W.dataLt_all_yes al (by rw [eqv_int, decide_eq_true e]), if_pos e]
        exact ih ms
      · rw [PySem.W.dataLt_all_no al (by rw [eqv_int, decide_eq_false e]), if_neg e, PySem.W.dataLt_int]
theorem canLay_ints : ∀ ns : List Int, PyData.canLayAll0 (ns.map PyData.int) = true
  | [] => rfl
  | n :: ns => by
    show (PyData.canLay0 (.int n) && PyData.canLayAll0 (ns.map PyData.int)) = true
    rw [canLay_ints ns]
    rfl
/-! ### rules that name the written part, whatever stands around -/
section
variable {X : Cx} {K : PySem.W.Frag}
theorem ix_listK (e : X.K = K) : IxR X (rIxL K) := e ▸ ix_list
theorem ix_tupK (e : X.K = K) : IxR X (rIxT K) := e ▸ ix_tup
theorem sl_listK (e : X.K = K) : SlR X (rSlL K) := e ▸ sl_list
theorem sl_tupK (e : X.K = K) : SlR X (rSlT K) := e ▸ sl_tup
def rLenK (K : PySem.W.Frag) : List V → Hp → VK → Prop := fun xs H Q => ∃ p ys, xs = [.ref p] ∧ (SqL K H p ys ∨ SqT K H p ys) ∧ Q (.int ys.length) H
theorem call_lenK (e : X.K = K) : CallR X (.builtin "len") (rLenK K) := by
  subst e
  exact call_len_seq
def rListK (K : PySem.W.Frag) : List V → Hp → VK → Prop := fun xs H Q => ∃ p ys, xs = [.ref p] ∧ (SqL K H p ys ∨ SqT K H p ys) ∧ ∀ l, H l = none → Q (.ref l) (upd H l (.lst ys))
theorem call_listK (e : X.K = K) : CallR X (.type "list") (rListK K) := by
  subst e
  exact call_list_of
def rTupleK (K : PySem.W.Frag) : List V → Hp → VK → Prop := fun xs H Q => ∃ p ys, xs = [.ref p] ∧ ((SqL K H p ys ∧ ∀ l, H l = none → Q (.ref l) (upd H l (.tup ys))) ∨ (SqT K H p ys ∧ Q (.ref p) H))
theorem call_tupleK (e : X.K = K) : CallR X (.type "tuple") (rTupleK K) := by
  subst e
  exact call_tuple_of
theorem call_isiK' (e : X.K = K) : CallR X (.builtin "isinstance") (rIsi K) := e ▸ call_isi
theorem cr_allK (e : X.K = K) (c : X.calm = true) : CallR X (.builtin "all") (rAll K) := e ▸ cr_all c
theorem call_reprK (e : X.K = K) (g : Still X.A) (room : X.A.units + 102 < cLine) : CallR X (.builtin "repr") (rRepr K) := e ▸ call_repr g room
theorem op_eqK (e : X.K = K) (room : X.A.units + 64 < cLine) : OpR X (compareOp .Eq) (rEqD K) := e ▸ op_eqD room
theorem op_neK (e : X.K = K) (room : X.A.units + 64 < cLine) : OpR X (compareOp .NotEq) (rNeD K) := e ▸ op_neD room
theorem op_ltK (e : X.K = K) (room : X.A.units + 64 < cLine) : OpR X (compareOp .Lt) (rLtD K) := e ▸ op_ltD room
theorem pi_listK {tg l : Expr} {tl : TE} (e : X.K = K) (h : PE X l tl) : PI X tg l (iList K tl) := e ▸ pi_list h
theorem pi_tupK {tg l : Expr} {tl : TE} (e : X.K = K) (h : PE X l tl) : PI X tg l (iTup K tl) := e ▸ pi_tup h
end
/-! ### lists of ints cut and compared -/
theorem cut_take {α : Type} (f : α → V) (xs : List α) (n : Nat) : cutV (xs.map f) none (some (n : Int)) = (xs.take n).map f := by
  unfold cutV
  rw [HT.sIx_nat, HT.sIx_none, List.drop_zero, Nat.sub_zero, List.length_map, List.map_take]
  by_cases h : n ≤ xs.length
  · rw [Nat.min_eq_left h]
  · rw [Nat.min_eq_right (by omega), List.take_of_length_le (by rw [List.length_map]; exact Nat.le_refl _), List.take_of_length_le (by rw [List.length_map]; omega)]
theorem dp_ints' {K : PySem.W.Frag} {H : Hp} : ∀ ns : List Int, DpAll K H (ns.map V.int) (ns.map PyData.int)
  | [] => .nil
  | n :: r => .cons (.int n) (dp_ints' r)
theorem depth_ints' : ∀ ns : List Int, PyData.depthAll (ns.map PyData.int) = 0
  | [] => rfl
  | n :: r => by
    show max 0 (PyData.depthAll (r.map PyData.int)) = 0
    rw [depth_ints' r]
    rfl
theorem shaped_ints (ns : List Int) : SeqAt.shaped (.list (ns.map PyData.int)) = true := by
  show (PyData.canLayAll0 (ns.map PyData.int) && decide (PyData.depthAll (ns.map PyData.int) + 1 ≤ 64)) = true
  rw [canLay_ints, depth_ints']
  rfl
theorem shaped_intsT (ns : List Int) : SeqAt.shaped (.tuple (ns.map PyData.int)) = true := by
  show (PyData.canLayAll0 (ns.map PyData.int) && decide (PyData.depthAll (ns.map PyData.int) + 1 ≤ 64)) = true
  rw [canLay_ints, depth_ints']
  rfl
/-- two lists of ints, == and != -/
theorem eq_lists {K : PySem.W.Frag} {H : Hp} {a b : Addr} {ns ms : List Int} {Q : VK} (ha : SqL K H a (ns.map V.int)) (hb : SqL K H b (ms.map V.int)) (q : Q (.bl (decide (ns = ms))) H) : rEqD K (.ref a) (.ref b) H Q := by
  refine ⟨_, _, .lst ha (dp_ints' ns), .lst hb (dp_ints' ms), shaped_ints ns, shaped_ints ms, ?_⟩
  rw [PyData.eqv, eqv_ints]
  exact q
theorem ne_lists {K : PySem.W.Frag} {H : Hp} {a b : Addr} {ns ms : List Int} {Q : VK} (ha : SqL K H a (ns.map V.int)) (hb : SqL K H b (ms.map V.int)) (q : Q (.bl (!decide (ns = ms))) H) : rNeD K (.ref a) (.ref b) H Q := by
  refine ⟨_, _, .lst ha (dp_ints' ns), .lst hb (dp_ints' ms), shaped_ints ns, shaped_ints ms, ?_⟩
  rw [PyData.eqv, eqv_ints]
  exact q
theorem lt_lists {K : PySem.W.Frag} {H : Hp} {a b : Addr} {ns ms : List Int} {Q : VK} (ha : SqL K H a (ns.map V.int)) (hb : SqL K H b (ms.map V.int)) (q : Q (.bl (HT.lexLt ns ms)) H) : rLtD K (.ref a) (.ref b) H Q := by
  refine ⟨_, _, .lst ha (dp_ints' ns), .lst hb (dp_ints' ms), ?_, fun z => (nomatch z), ?_, ?_⟩
  · rw [PySem.W.alike]
    exact alike_ints ns ms
  · show PyData.depthAll (ns.map .int) + 1 ≤ 60
    rw [depth_ints']
    decide
  · rw [lt_ints]
    exact q
end Sb

/-! Sb, part T: a try with several clauses «except C as e». -/
namespace Sb
open PySem PySem.Spec PyProof.Rows L2
/-- a clause: its class, the slot of its name, its suite -/
structure Cl where
  c : Value
  i : Nat
  ts : Addr → Value → Option Addr → TS
/-- behind a suite the name is gone -/
def Ends.less (D : Ends) (i : Nat) : Ends := ⟨fun σ H => D.nx (σ.set i none) H, D.rt, fun σ H => D.bk (σ.set i none) H, fun σ H => D.ct (σ.set i none) H⟩
/-- what the clauses wish of an error: the first one that fits runs -/
def wCl (K : PySem.W.Frag) (Wout : WX) (D : Ends) : List Cl → WX
  | [] => Wout
  | k :: r => fun cls d σ H => ∃ b, PySem.W.exmOne K cls k.c = some b ∧ (b = true → ∀ a, H a = none → k.ts a cls d (Ends.less D k.i) (σ.set k.i (some (.ref a))) H) ∧ (b = false → wCl K Wout D r cls d σ H)
inductive Cls_ (X : Cx) : List ExceptHandler → List Cl → Prop
  | nil : Cls_ X [] []
  | cons (c : Value) (i : Nat) {ts : Addr → Value → Option Addr → TS} {x n : Str} {st : Stmt} {su : List Stmt} {np pos : Pos} {hs : List ExceptHandler} {l : List Cl} (slot : X.N[i]? = some n) (loc : X.env.kindOf n = some .local) (nm : Names X x c)
      (run : ∀ (a : Addr) (oe : Obj) (cls : Value) (d : Option Addr) (pn : List (Addr × Obj)), Zc cls d oe → (∃ vs, oe.data = .fields vs) → PSs (X.suite a ((a, oe) :: pn)) (st :: su) (ts a cls d))
      (r : Cls_ X hs l) : Cls_ X (.ExceptHandler (some (.Name x np)) (some n) (st :: su) pos :: hs) (⟨c, i, ts⟩ :: l)

section
variable {X : Cx} {pins : List (Addr × Obj)} {σ : L2.St} {H : Hp} {a : Addr} {B : Heap} {sI s' : Shared} {cls : Value} {d : Option Addr} {D : Ends} {Wout : WX} {h3 : Heap}
/-- an error has landed: the clauses are asked one after another -/
theorem clauses_run (ok : X.Ok) (hs : X.stack = X.env :: X.outer) (hf : X.env.frame = some X.env.locals) (nd : X.N.Nodup) (tk : Takes X Wout)
    (J : Inv X pins σ H sI) (nb : ∀ b o, sI.heap.get? b = some o → b ∉ frs X.stack → B.get? b = some o) (up : sI.heap.UpToSlots s'.heap) (os : s'.os = sI.os) (ag : AllBare s'.gens) (na : H a = none)
    (fl : HandSPX.FlyingZ B (X.env :: X.outer) a (Zc cls d) h3) (up3 : s'.heap.UpToSlots h3) :
    ∀ {hds : List ExceptHandler} {l : List Cl}, Cls_ X hds l → wCl X.K Wout D l cls d σ H → wpAny (model X.prog X.w) X.A (handleBy (.ref a) X.env hds) (SP X pins D) X.xe { s' with heap := h3 } := by
  have J3 : Inv X pins σ H { s' with heap := h3 } := J.landed nb fl.1 (up.trans up3) os ag
  obtain ⟨o3, v3, g3, z3, d3⟩ := fl.there
  have out : a ∉ frs (X.env :: X.outer) := by
    intro m
    obtain ⟨_, o', e', no⟩ := fl.2.2.1.mem m
    cases g3.symm.trans e'
    exact no _ d3
  have nL : a ≠ X.env.locals := by
    intro z
    exact out (List.mem_filterMap.mpr ⟨X.env, List.mem_cons_self, by rw [hf, z]⟩)
  have nF : a ∉ X.fs := by
    intro m
    obtain ⟨e, he, q⟩ := List.mem_filterMap.mp m
    exact out (List.mem_filterMap.mpr ⟨e, List.mem_cons_of_mem _ he, q⟩)
  have S3 := J3.suite g3 d3 na nL nF
  intro hds l hk
  induction hk with
  | nil =>
    intro w
    apply wpAny_handleBy_nil
    obtain ⟨_, _, _, oe, vs, T, oT, _, he, _, hd, h1, _⟩ := id fl
    have fin : wpAny (model X.prog X.w) X.A (setFlight (.ref a) X.env.frame) (fun _ s4 => wpAny (model X.prog X.w) X.A (throw (.ref a) : Sem Flow) (SP X pins D) X.xe s4) X.xe { s' with heap := h3 } := by
      rw [hf]
      apply HandSPX.setFlight_upZ fl
      intro h4 hh4 up4
      exact wpAny_throw (tk _ _ ⟨a, B, sI, pins, σ, H, cls, d, rfl, J, nb, (up.trans up3).trans up4, .inr (.inr (by rw [hs]; exact hh4)), na, os, ag, w⟩)
    unfold PySem.passOn
    apply wpAny_bind
    apply wpAny_field he hd h1
    rw [if_neg (show ¬ ((Value.ref T == Value.none) = true) by simp)]
    first
      | exact wpAny_bind (wpAny_pure (wpAny_bind fin))
      | exact wpAny_bind fin
  | cons c i slot loc nm run r ih =>
    rename_i ts x n st su np pos hs2 l2
    intro w
    obtain ⟨b, eb, yes, no⟩ := w
    apply wpAny_handleBy_cons _ (by intro q; cases q)
    apply codeAny_handlers_test
    have ty : PySem.W.Looks (model X.prog X.w) h3 (typeOf (.ref a)) cls := fun A Q E s kp q => wpAny_typeOf_ref (kp _ _ g3) (by rw [z3.1]; exact q)
    have fits := PySem.W.exm_one (M := model X.prog X.w) J3.kIn ty eb
    have named : ∀ {Q : Value → Shared → Prop} {E : Value → Shared → Prop}, Q c { s' with heap := h3 } → wpAny (model X.prog X.w) (X.A.mark (some (.ref a))) (eval (.Name x np) X.env) Q E { s' with heap := h3 } := by
      intro Q E q
      obtain ⟨gl, nd', g | ⟨g, bl, nn⟩⟩ := nm
      · exact ld_glob (X := X.suite a ((a, o3) :: (X.pn ++ pins))) S3 gl g q nd'
      · exact ld_blt (X := X.suite a ((a, o3) :: (X.pn ++ pins))) S3 gl g bl q nn nd'
    apply named
    apply fits.here
    cases b with
    | false => exact ih (no rfl)
    | true =>
      apply codeAny_handlers_suite_as
      apply HandSPX.lands_againZ fl
      intro h4 fl4 up4
      have J4 : Inv X pins σ H { s' with heap := h4 } := J.landed nb fl4.1 ((up.trans up3).trans up4) os ag
      obtain ⟨o4, v4, g4, z4, d4⟩ := fl4.there
      have S4 := J4.suite g4 d4 na nL nF
      refine store_ok (X := X.suite a ((a, o4) :: (X.pn ++ pins))) (v := .ref a) S4 nd slot (.inl loc) rfl ?_ (.inr loc)
      intro s5 S5
      refine wpAny_mono ((run a o4 cls d (X.pn ++ pins) z4 ⟨_, d4⟩).run [] s5 _ H _ S5 (yes rfl a na)) ?_ fun _ _ z => z.elim
      intro f s6 sp
      have gone : ∀ {σ6 : L2.St} {H6 : Hp} {Q : Shared → Prop}, Inv (X.suite a ((a, o4) :: (X.pn ++ pins))) [] σ6 H6 s6 → (∀ s7, Inv X pins (σ6.set i none) H6 s7 → Q s7) →
          wpAny (model X.prog X.w) X.A (do bindName X.env n .none; unbindBehindTheSuite X.env n pos) (fun _ s7 => Q s7) X.xe s6 := fun S6 hq => gone_ok (S6.unsuite ok) nd slot loc hq
      match f, sp with
      | .next, ⟨_, _, S6, q6⟩ => exact gone S6 fun s7 J7 => ⟨_, _, J7, q6⟩
      | .brk, ⟨_, _, S6, q6⟩ => exact gone S6 fun s7 J7 => ⟨_, _, J7, q6⟩
      | .cont, ⟨_, _, S6, q6⟩ => exact gone S6 fun s7 J7 => ⟨_, _, J7, q6⟩
      | .ret u, ⟨_, _, _, S6, r6, q6⟩ => exact gone S6 fun s7 J7 => ⟨_, _, _, J7, r6, q6⟩
end
section
variable {X : Cx} {body : List Stmt} {h0 : ExceptHandler} {hds : List ExceptHandler} {l : List Cl} {pos : Pos} {tb : WX → TS} {Wout : WX}
/-- try: .. except C as e: .. except D as e: .. -/
theorem ps_try_cl (hs : X.stack = X.env :: X.outer) (hf : X.env.frame = some X.env.locals) (nd : X.N.Nodup) (tk : Takes X Wout)
    (hb : ∀ (W : WX) (pn : List (Addr × Obj)) (xe : Value → Shared → Prop), Takes (X.tr pn xe) W → PassesOwn (model X.prog X.w) X.A X.env xe → PSs (X.tr pn xe) body (tb W))
    (cl : Cls_ X (h0 :: hds) l) : PS X (.Try body (h0 :: hds) [] [] pos) (fun D σ H => tb (wCl X.K Wout D l) D σ H) := by
  refine ⟨fun pins s σ H D I h => ?_⟩
  have ok := I.ok
  apply wpAny_Try_except
  refine wpAny_mono ((hb (wCl X.K Wout D l) (X.pn ++ pins) (fun e s1 => wpAny (model X.prog X.w) X.A (noteFrame e X.env) (fun _ s2 => wpAny (model X.prog X.w) X.A (setFlight e none) (fun _ s3 =>
    wpAny (model X.prog X.w) X.A (handleBy e X.env (h0 :: hds)) (SP X pins D) X.xe s3) X.xe s2) X.xe s1) ?_ PassesOwn.looking).run [] s σ H D (I.toTry _) h) ?_ fun _ _ z => z
  · rintro u s' ⟨a, B, sI, _, σ', H', cls, d, rfl, J', nb, up, sky, na, os, ag, w⟩
    show wpAny (model X.prog X.w) X.A (noteFrame (.ref a) X.env) _ _ _
    refine Sky.land Zc.steady (by rw [ok.frames, hs]) hf (hs ▸ sky) ?_
    intro h3 fl3 up3
    exact clauses_run ok hs hf nd tk (J'.ofTry ok) nb up os ag na fl3 up3 cl w
  · intro f s1 sp
    match f, sp with
    | .next, ⟨σ', H', J', q⟩ => exact wpAny_execs_nil ⟨σ', H', J'.ofTry ok, q⟩
    | .brk, ⟨σ', H', J', q⟩ => exact ⟨σ', H', J'.ofTry ok, q⟩
    | .cont, ⟨σ', H', J', q⟩ => exact ⟨σ', H', J'.ofTry ok, q⟩
    | .ret u, ⟨v, σ', H', J', r, q⟩ => exact ⟨v, σ', H', J'.ofTry ok, r, q⟩
end
/-- e.f in a suite, the written part by its own name -/
theorem pe_xfK {X : Cx} {K : PySem.W.Frag} {a C : Addr} {oe : Obj} {cls : Value} {d : Option Addr} {pn : List (Addr × Obj)} {e : Expr} {te : TE} {pos : Pos} {n : Str} (T : XfC K C) (hno : PySem.W.findIn K (.ref C) n = some none)
    (hz : Zc cls d oe) (hf : ∃ vs, oe.data = .fields vs) (he : PE (X.suite a ((a, oe) :: pn)) e te) (eK : X.K = K := by rfl) (hb : attributeBase e n X.env (eval e X.env) = eval e X.env := by rfl) :
    PE (X.suite a ((a, oe) :: pn)) (.Attribute e n pos) (tXf a cls d C n te) := by
  subst eK
  exact pe_xf T hno hz hf he hb
end Sb

/-! Sb, part X: the package's errors as values: made, their fields read, asked by isinstance. -/
namespace Sb
open PySem PySem.Spec PyProof.Rows L2
/-- at a: an error of the class at C with the field f = v, not raised -/
def Made (H : Hp) (a C : Addr) (f : Str) (v : V) : Prop := ∃ d, H a = some (exo a C (some d)) ∧ H d = some (exd d [(f, v)])
theorem Made.same {H H' : Hp} {a C : Addr} {f : Str} {v : V} (h : Made H a C f v) (s : Same H H') : Made H' a C f v := by
  obtain ⟨d, h1, h2⟩ := h
  exact ⟨d, s _ _ h1, s _ _ h2⟩
/-- C(e) as a value -/
def tMkV (C : Addr) (f : Str) (te : TE) : TE := fun σ H Q => te σ H fun v H1 => ∀ (a : Addr) (H' : Hp), H1 a = none → Same H1 H' → Made H' a C f v → Q (.ref a) H'
section
variable {X : Cx} {e : Expr} {te : TE} {p pos : Pos} {x f : Str}
theorem pe_mkV {k : Nat} {C : Addr} (M : Err X.prog X.w X.K X.mg X.base x f) (isC : He.ga X.K x = C) (room : Room (k + 2) X.A) (gl : Gl X x) (he : PE X e te)
    (nd : (x == ("__debug__" : Str)) = false := by decide) (st : starEach [e] X.env = (false, eval e X.env) :: starEach [] X.env := by rfl) (pl : (backTo pos (starEach [] X.env)).any (·.1) = false := by rfl) :
    PE X (.Call (.Name x p) [e] [] pos) (tMkV C f te) := by
  subst isC
  obtain ⟨g, T, fI, fd, ps, iC, tI, F, bnd⟩ := M
  obtain ⟨nm, q, N, bs, bm, sn, sub, ab, col, dd, k0, k1, k2, k3, k5, hC, hbm⟩ := T.oex.cls
  refine ⟨fun pins s σ H Q I h => ?_⟩
  have as := (pa_cons (t := tNil) (pe_less he) pa_nil st).run pos pins s σ H (fun vs H1 => ∃ v, vs = [v] ∧ ∀ (a : Addr) (H' : Hp), H1 a = none → Same H1 H' → Made H' a (He.ga X.K x) f v → Q (.ref a) H') I ⟨_, h, fun v H1 z => ⟨v, rfl, z⟩⟩
  refine wpAny_Call_Name_kw (ld_glob I gl g (PySem.W.callWith_K (h₀ := X.base) I.ok.mod.kin T.oex.kC (thn as ?_) st pl) nd)
  rintro us s1 ⟨vs, H1, J, rv, v, rfl, want⟩
  refine ⟨J.kIn, ?_⟩
  obtain ⟨u, rfl, r1⟩ := vals1 rv
  obtain ⟨hp, g1, dr, tk, os⟩ := s1
  have le : hp.objs.size ≤ hp.objs.size + 1 := Nat.le_succ _
  have free : H1 (hp.objs.size + 1) = none := J.hok.fresh le
  have grow : ∀ b o, hp.get? b = some o → ((hp.push (PySem.W.kdv_tup [u])).push (PySem.HandSPX.excO (He.ga X.K x) hp.objs.size)).get? b = some o := fun b o e => Heap.get?_push_of_some _ (Heap.get?_push_of_some _ e)
  have here : ((hp.push (PySem.W.kdv_tup [u])).push (PySem.HandSPX.excO (He.ga X.K x) hp.objs.size)).get? (hp.objs.size + 1) = some (PySem.HandSPX.excO (He.ga X.K x) hp.objs.size) := by heap_get
  have I2 : Inv X pins σ (upd H1 (hp.objs.size + 1) (exo (hp.objs.size + 1) (He.ga X.K x) none)) ⟨(hp.push (PySem.W.kdv_tup [u])).push (PySem.HandSPX.excO (He.ga X.K x) hp.objs.size), g1, dr, tk, os⟩ :=
    J.laid (t' := tk) (a := hp.objs.size + 1) (o := exo (hp.objs.size + 1) (He.ga X.K x) none) (h' := (hp.push (PySem.W.kdv_tup [u])).push (PySem.HandSPX.excO (He.ga X.K x) hp.objs.size)) grow le (exo_ok here)
  have r2 : Vals [V.ref (hp.objs.size + 1), v] [Value.ref (hp.objs.size + 1), u] := .cons rfl (.cons r1 .nil)
  have sp : spInit (He.ga X.K x) f [.ref (hp.objs.size + 1), v] (upd H1 (hp.objs.size + 1) (exo (hp.objs.size + 1) (He.ga X.K x) none)) (fun z H2 => z = .non ∧ Q (.ref (hp.objs.size + 1)) H2) (fun _ _ _ => False) := by
    refine ⟨hp.objs.size + 1, v, rfl, upd_same, fun dx hd ne => ⟨rfl, want _ _ free ?_ ⟨dx, upd_same, ?_⟩⟩⟩
    · intro b o e
      have hd1 : H1 dx = none := by rwa [upd_ne ne] at hd
      rw [upd_ne (ne_of_none e free), upd_ne (ne_of_none e hd1), upd_ne (ne_of_none e free)]
      exact e
    · rw [upd_ne ne, upd_same]
  have n : ([Value.ref (hp.objs.size + 1), u] ++ ([] : List Value)).length = ps.length := by
    have e := F.len _ _ _ _ sp
    simpa using e
  have one : ([u] : List Value).length ≤ sizeLine := by
    rw [sizeLine_eq]
    exact (by decide : 1 ≤ 16777216)
  refine wpAny_call (PySem.HandSPX.call_own PySem.F.excBase_ValueError (fun Y => PySem.HandSPX.refsVE_contains Y bm hbm) (J.kIn _ _ hC) (PySem.W.looks_findIn J.kIn iC) (fun self => PySem.W.bind_fn J.kIn self tI) one ?_)
  have room1 : Room 1 (X.A.under (.builtin "type.__call__" ⟨.ref (He.ga X.K x) :: [u], []⟩)) := (room.mono (by omega : 2 ≤ k + 2)).make (He.ga X.K x) [u] []
  refine codeAny_mono (F.run _ X.stack _ _ ⟨[Value.ref (hp.objs.size + 1), u], []⟩ [Value.ref (hp.objs.size + 1), u] _ _ (fun _ _ _ => False) room1 (I2.env0.make (He.ga X.K x) [u] []) (by simpa using bnd _ [Value.ref (hp.objs.size + 1), u] I2.kIn n) r2 sp) ?_
  intro r s' z
  match r, z with
  | .error er, z => exact z.elim
  | .ok .next, z => exact z.elim
  | .ok .brk, z => exact z.elim
  | .ok .cont, z => exact z.elim
  | .ok (.ret u'), z =>
    obtain ⟨v', H2, J2, r', rfl, q2⟩ := I2.after z
    exact ⟨r', .ref (hp.objs.size + 1), H2, J2, rfl, q2⟩
end

/-! ### its fields, its classes -/
/-- e.f, e such an error -/
def tXfV (K : PySem.W.Frag) (f : Str) (te : TE) : TE := fun σ H Q => te σ H fun x H1 => ∃ (a C : Addr) (v : V), x = .ref a ∧ Made H1 a C f v ∧ XfC K C ∧ PySem.W.findIn K (.ref C) f = some none ∧ Q v H1
theorem inst_of {X : Cx} {pins : List (Addr × Obj)} {σ : L2.St} {H : Hp} {s : Shared} {a C : Addr} {f : Str} {v : V} (I : Inv X pins σ H s) (h : Made H a C f v) :
    ∃ (oe : Obj) (od : Obj) (u : Value), PySem.W.InstAt s.heap a oe C (some od) ∧ RelV v u ∧ PySem.W.lookIn f od = some (some u) := by
  obtain ⟨d, h1, h2⟩ := h
  obtain ⟨t1, ho⟩ := exo_at I.hok h1
  obtain ⟨mA, hns, rel⟩ := exd_at I.hok h2
  obtain ⟨od, hd, hl⟩ := lookIn_ns hns
  have l : List.lookup f [(f, v)] = some v := by simp [List.lookup]
  obtain ⟨u, hu, ru⟩ := RelO.some_of (v := v) (o := mA f) (by rw [← l]; exact rel f)
  exact ⟨_, od, u, ⟨ho, rfl, rfl, hd⟩, ru, by rw [hl, hu]⟩
theorem pe_xfV {X : Cx} {K : PySem.W.Frag} {e : Expr} {te : TE} {pos : Pos} {f : Str} (eK : X.K = K) (he : PE X e te) (hb : attributeBase e f X.env (eval e X.env) = eval e X.env := by rfl) : PE X (.Attribute e f pos) (tXfV K f te) := by
  subst eK
  refine ⟨fun pins s σ H Q I h => attr_of hb (thn (he.run pins s σ H _ I h) ?_)⟩
  rintro u s1 ⟨x, H1, J, rx, a, C, v, rfl, m, T, no, q⟩
  cases rx
  obtain ⟨oe, od, u, inst, ru, lk⟩ := inst_of J m
  exact HandSPX.exc_get J.kIn inst T.ga T.gg T.exC (PySem.W.findObj_own T.hdC no rfl lk) (handed_of ru) ⟨v, H1, J.tok _, ru, q⟩
/-- isinstance(e, c), e such an error -/
def rIsV (K : PySem.W.Frag) : List V → Hp → VK → Prop := fun xs H Q => ∃ (a C : Addr) (f : Str) (v c : V) (cv : Value) (b : Bool), xs = [.ref a, c] ∧ Made H a C f v ∧ ErrC K C ∧ ClsV c cv ∧ PySem.W.kitOne K (.ref C) cv = some b ∧ Q (.bl b) H
theorem call_isV {X : Cx} {K : PySem.W.Frag} (eK : X.K = K) : CallR X (.builtin "isinstance") (rIsV K) := by
  subst eK
  intro pins s σ H _ us Q I r h
  obtain ⟨a, C, f, v, c, cv, b, rfl, m, T, k, e, q⟩ := h
  obtain ⟨u1, u2, rfl, r1, r2⟩ := vals2 r
  cases r1
  have e2 := k.eq r2
  subst e2
  obtain ⟨oe, od, u, inst, _, _⟩ := inst_of I m
  exact PySem.W.kia_one (PySem.W.kitx_exc T.cl T.xf.ga T.xf.gg T.xf.exC T.ha T.hn T.ht T.hm) I.kIn inst e (fun z => nomatch z) fun tk => ⟨.bl b, H, I.kept (t' := tk) fun _ _ z => z, rfl, q⟩
/-! ### all errors of the package -/
def errNames : List Str := ["BadNumber", "BadValue", "WrongByte", "Unfinished", "TooDeep", "BadItem", "BadPath", "BadDeed", "DuplicateKey", "BadShape", "UnknownName", "Circular", "Ambiguous", "Barren", "TooLong", "NoDocument"]
def errFields : List Str := ["number", "path", "at", "at", "reached", "at", "at", "at", "at", "word", "name", "name", "name", "name", "debt", "number"]
/-- none is another one -/
def pairsB (K : PySem.W.Frag) : Bool := errNames.zipIdx.all fun p => errNames.zipIdx.all fun r => decide (PySem.W.kitOne K (.ref (He.ga K p.1)) (.ref (He.ga K r.1)) = some (p.2 == r.2))
theorem pairs_ok {K : PySem.W.Frag} (h : pairsB K = true) {j k : Nat} {x y : Str} (hx : errNames[j]? = some x) (hy : errNames[k]? = some y) : PySem.W.kitOne K (.ref (He.ga K x)) (.ref (He.ga K y)) = some (j == k) := by
  have mx : (x, j) ∈ errNames.zipIdx := List.mk_mem_zipIdx_iff_getElem?.mpr hx
  have my : (y, k) ∈ errNames.zipIdx := List.mk_mem_zipIdx_iff_getElem?.mpr hy
  exact of_decide_eq_true (List.all_eq_true.mp (List.all_eq_true.mp h _ mx) _ my)
/-- each is an error of the package and a ValueError -/
def overB (K : PySem.W.Frag) : Bool := errNames.all fun x => errB K (He.ga K x) && decide (PySem.W.kitOne K (.ref (He.ga K x)) (.ref (He.ga K "ShortestBytesError")) = some true) && decide (PySem.W.kitOne K (.ref (He.ga K x)) (.type "ValueError") = some true)
theorem over_ok {K : PySem.W.Frag} (h : overB K = true) {j : Nat} {x : Str} (hx : errNames[j]? = some x) : ErrC K (He.ga K x) ∧ PySem.W.kitOne K (.ref (He.ga K x)) (.ref (He.ga K "ShortestBytesError")) = some true ∧ PySem.W.kitOne K (.ref (He.ga K x)) (.type "ValueError") = some true := by
  have q := List.all_eq_true.mp h x (List.mem_of_getElem? hx)
  simp only [Bool.and_eq_true, decide_eq_true_eq] at q
  exact ⟨errB_ok q.1.1, q.1.2, q.2⟩
theorem names_16 : errNames.length = 16 := rfl
end Sb

namespace Sb
open PySem PySem.Spec PyProof.Rows L2
/-! ### the text -/
def topS (i : Nat) : Stmt := PySem.Challenge.pw_shortestbytes_k15_errors_made.main.body.getD i (.Pass ⟨0, 0, 0, 0⟩)
abbrev s__law_take : Stmt := topS 20
abbrev s__law_bag : Stmt := topS 19
abbrev s__law_of : Stmt := topS 21
abbrev s__law_made : Stmt := topS 22
abbrev s__law_fields : Stmt := topS 23
abbrev s__law_kinds : Stmt := topS 24
abbrev s_law : Stmt := topS 25
abbrev s_init_BadNumber : Stmt := inClass (topS 2) 0
theorem sc_init_BadNumber : FnScope ["self", "number"] ["self", "number"] (defScope s_init_BadNumber) := ⟨rfl, rfl, rfl, by decide +kernel, rfl, by decide +kernel, by decide +kernel⟩
abbrev s_init_BadValue : Stmt := inClass (topS 3) 0
theorem sc_init_BadValue : FnScope ["self", "path"] ["self", "path"] (defScope s_init_BadValue) := ⟨rfl, rfl, rfl, by decide +kernel, rfl, by decide +kernel, by decide +kernel⟩
abbrev s_init_WrongByte : Stmt := inClass (topS 4) 0
theorem sc_init_WrongByte : FnScope ["self", "at"] ["self", "at"] (defScope s_init_WrongByte) := ⟨rfl, rfl, rfl, by decide +kernel, rfl, by decide +kernel, by decide +kernel⟩
abbrev s_init_Unfinished : Stmt := inClass (topS 5) 0
theorem sc_init_Unfinished : FnScope ["self", "at"] ["self", "at"] (defScope s_init_Unfinished) := ⟨rfl, rfl, rfl, by decide +kernel, rfl, by decide +kernel, by decide +kernel⟩
abbrev s_init_TooDeep : Stmt := inClass (topS 6) 0
theorem sc_init_TooDeep : FnScope ["self", "reached"] ["self", "reached"] (defScope s_init_TooDeep) := ⟨rfl, rfl, rfl, by decide +kernel, rfl, by decide +kernel, by decide +kernel⟩
abbrev s_init_BadItem : Stmt := inClass (topS 7) 0
theorem sc_init_BadItem : FnScope ["self", "at"] ["self", "at"] (defScope s_init_BadItem) := ⟨rfl, rfl, rfl, by decide +kernel, rfl, by decide +kernel, by decide +kernel⟩
abbrev s_init_BadPath : Stmt := inClass (topS 8) 0
theorem sc_init_BadPath : FnScope ["self", "at"] ["self", "at"] (defScope s_init_BadPath) := ⟨rfl, rfl, rfl, by decide +kernel, rfl, by decide +kernel, by decide +kernel⟩
abbrev s_init_BadDeed : Stmt := inClass (topS 9) 0
theorem sc_init_BadDeed : FnScope ["self", "at"] ["self", "at"] (defScope s_init_BadDeed) := ⟨rfl, rfl, rfl, by decide +kernel, rfl, by decide +kernel, by decide +kernel⟩
abbrev s_init_DuplicateKey : Stmt := inClass (topS 10) 0
theorem sc_init_DuplicateKey : FnScope ["self", "at"] ["self", "at"] (defScope s_init_DuplicateKey) := ⟨rfl, rfl, rfl, by decide +kernel, rfl, by decide +kernel, by decide +kernel⟩
abbrev s_init_BadShape : Stmt := inClass (topS 11) 0
theorem sc_init_BadShape : FnScope ["self", "word"] ["self", "word"] (defScope s_init_BadShape) := ⟨rfl, rfl, rfl, by decide +kernel, rfl, by decide +kernel, by decide +kernel⟩
abbrev s_init_UnknownName : Stmt := inClass (topS 12) 0
theorem sc_init_UnknownName : FnScope ["self", "name"] ["self", "name"] (defScope s_init_UnknownName) := ⟨rfl, rfl, rfl, by decide +kernel, rfl, by decide +kernel, by decide +kernel⟩
abbrev s_init_Circular : Stmt := inClass (topS 13) 0
theorem sc_init_Circular : FnScope ["self", "name"] ["self", "name"] (defScope s_init_Circular) := ⟨rfl, rfl, rfl, by decide +kernel, rfl, by decide +kernel, by decide +kernel⟩
abbrev s_init_Ambiguous : Stmt := inClass (topS 14) 0
theorem sc_init_Ambiguous : FnScope ["self", "name"] ["self", "name"] (defScope s_init_Ambiguous) := ⟨rfl, rfl, rfl, by decide +kernel, rfl, by decide +kernel, by decide +kernel⟩
abbrev s_init_Barren : Stmt := inClass (topS 15) 0
theorem sc_init_Barren : FnScope ["self", "name"] ["self", "name"] (defScope s_init_Barren) := ⟨rfl, rfl, rfl, by decide +kernel, rfl, by decide +kernel, by decide +kernel⟩
abbrev s_init_TooLong : Stmt := inClass (topS 16) 0
theorem sc_init_TooLong : FnScope ["self", "debt"] ["self", "debt"] (defScope s_init_TooLong) := ⟨rfl, rfl, rfl, by decide +kernel, rfl, by decide +kernel, by decide +kernel⟩
abbrev s_init_NoDocument : Stmt := inClass (topS 17) 0
theorem sc_init_NoDocument : FnScope ["self", "number"] ["self", "number"] (defScope s_init_NoDocument) := ⟨rfl, rfl, rfl, by decide +kernel, rfl, by decide +kernel, by decide +kernel⟩
/-- what the top leaves: the defs, the built-in names that are free, the constants -/
structure Txt (K : PySem.W.Frag) (mg : Str → Option Value) : Prop where
  d__law_take : DefAt K mg "_law_take" s__law_take []
  d__law_bag : DefAt K mg "_law_bag" s__law_bag []
  d__law_of : DefAt K mg "_law_of" s__law_of []
  d__law_made : DefAt K mg "_law_made" s__law_made []
  d__law_fields : DefAt K mg "_law_fields" s__law_fields []
  d__law_kinds : DefAt K mg "_law_kinds" s__law_kinds []
  d_law : DefAt K mg "law" s_law []
  m_ValueError : mg "ValueError" = none
  m_abs : mg "abs" = none
  m_int : mg "int" = none
  m_isinstance : mg "isinstance" = none
  m_len : mg "len" = none
  m_max : mg "max" = none
  m_range : mg "range" = none
  m_repr : mg "repr" = none
  e_base : BaseAt K mg "ShortestBytesError"
  e_BadNumber : ErrAt K mg "BadNumber" "number" "BadNumber.__init__" s_init_BadNumber
  e_BadValue : ErrAt K mg "BadValue" "path" "BadValue.__init__" s_init_BadValue
  e_WrongByte : ErrAt K mg "WrongByte" "at" "WrongByte.__init__" s_init_WrongByte
  e_Unfinished : ErrAt K mg "Unfinished" "at" "Unfinished.__init__" s_init_Unfinished
  e_TooDeep : ErrAt K mg "TooDeep" "reached" "TooDeep.__init__" s_init_TooDeep
  e_BadItem : ErrAt K mg "BadItem" "at" "BadItem.__init__" s_init_BadItem
  e_BadPath : ErrAt K mg "BadPath" "at" "BadPath.__init__" s_init_BadPath
  e_BadDeed : ErrAt K mg "BadDeed" "at" "BadDeed.__init__" s_init_BadDeed
  e_DuplicateKey : ErrAt K mg "DuplicateKey" "at" "DuplicateKey.__init__" s_init_DuplicateKey
  e_BadShape : ErrAt K mg "BadShape" "word" "BadShape.__init__" s_init_BadShape
  e_UnknownName : ErrAt K mg "UnknownName" "name" "UnknownName.__init__" s_init_UnknownName
  e_Circular : ErrAt K mg "Circular" "name" "Circular.__init__" s_init_Circular
  e_Ambiguous : ErrAt K mg "Ambiguous" "name" "Ambiguous.__init__" s_init_Ambiguous
  e_Barren : ErrAt K mg "Barren" "name" "Barren.__init__" s_init_Barren
  e_TooLong : ErrAt K mg "TooLong" "debt" "TooLong.__init__" s_init_TooLong
  e_NoDocument : ErrAt K mg "NoDocument" "number" "NoDocument.__init__" s_init_NoDocument
  x_pairs : pairsB K = true
  x_over : overB K = true
section
variable {P : Program} {w : World} {K : PySem.W.Frag} {mg : Str → Option Value} {base : Heap}
theorem er_BadNumber (T : Txt K mg) : Err P w K mg base "BadNumber" "number" := by
  obtain ⟨fd, F⟩ := T.e_BadNumber.F
  refine ⟨T.e_BadNumber.g, T.e_BadNumber.c, _, fd, ["self", "number"], T.e_BadNumber.i, T.e_BadNumber.t, F.ok (CX := CX0) sc_init_BadNumber (fun vs H Q E h => ?_) (fun cv A outer s H vs Q E hr h => ?_), F.bindsN fun _ _ _ _ _ _ us hl => match us, hl with | [_, _], _ => rfl⟩
  · obtain ⟨a, v, rfl, _⟩ := h
    rfl
  · obtain ⟨a, v, rfl, isE, q⟩ := h
    refine ⟨_, PSs.nox (pss_cons (ps_expr (pe_baseinit (by rfl) T.e_base.g T.e_base.b (pa_cons (pv 0) (pa_cons pe_str pa_nil)))) (pss_one (ps_ost (pv 0) (pv 1)))), ?_⟩
    refine ⟨_, rfl, a, He.ga K "BadNumber", _, rfl, (by show 1 ≤ 1000; decide), T.e_BadNumber.c.oex, isE, ?_⟩
    exact ⟨_, rfl, _, rfl, a, _, rfl, T.e_BadNumber.c.oex, T.e_BadNumber.n, .inl ⟨isE, q⟩⟩
theorem er_BadValue (T : Txt K mg) : Err P w K mg base "BadValue" "path" := by
  obtain ⟨fd, F⟩ := T.e_BadValue.F
  refine ⟨T.e_BadValue.g, T.e_BadValue.c, _, fd, ["self", "path"], T.e_BadValue.i, T.e_BadValue.t, F.ok (CX := CX0) sc_init_BadValue (fun vs H Q E h => ?_) (fun cv A outer s H vs Q E hr h => ?_), F.bindsN fun _ _ _ _ _ _ us hl => match us, hl with | [_, _], _ => rfl⟩
  · obtain ⟨a, v, rfl, _⟩ := h
    rfl
  · obtain ⟨a, v, rfl, isE, q⟩ := h
    refine ⟨_, PSs.nox (pss_cons (ps_expr (pe_baseinit (by rfl) T.e_base.g T.e_base.b (pa_cons (pv 0) (pa_cons pe_str pa_nil)))) (pss_one (ps_ost (pv 0) (pv 1)))), ?_⟩
    refine ⟨_, rfl, a, He.ga K "BadValue", _, rfl, (by show 1 ≤ 1000; decide), T.e_BadValue.c.oex, isE, ?_⟩
    exact ⟨_, rfl, _, rfl, a, _, rfl, T.e_BadValue.c.oex, T.e_BadValue.n, .inl ⟨isE, q⟩⟩
theorem er_WrongByte (T : Txt K mg) : Err P w K mg base "WrongByte" "at" := by
  obtain ⟨fd, F⟩ := T.e_WrongByte.F
  refine ⟨T.e_WrongByte.g, T.e_WrongByte.c, _, fd, ["self", "at"], T.e_WrongByte.i, T.e_WrongByte.t, F.ok (CX := CX0) sc_init_WrongByte (fun vs H Q E h => ?_) (fun cv A outer s H vs Q E hr h => ?_), F.bindsN fun _ _ _ _ _ _ us hl => match us, hl with | [_, _], _ => rfl⟩
  · obtain ⟨a, v, rfl, _⟩ := h
    rfl
  · obtain ⟨a, v, rfl, isE, q⟩ := h
    refine ⟨_, PSs.nox (pss_cons (ps_expr (pe_baseinit (by rfl) T.e_base.g T.e_base.b (pa_cons (pv 0) (pa_cons pe_str pa_nil)))) (pss_one (ps_ost (pv 0) (pv 1)))), ?_⟩
    refine ⟨_, rfl, a, He.ga K "WrongByte", _, rfl, (by show 1 ≤ 1000; decide), T.e_WrongByte.c.oex, isE, ?_⟩
    exact ⟨_, rfl, _, rfl, a, _, rfl, T.e_WrongByte.c.oex, T.e_WrongByte.n, .inl ⟨isE, q⟩⟩
theorem er_Unfinished (T : Txt K mg) : Err P w K mg base "Unfinished" "at" := by
  obtain ⟨fd, F⟩ := T.e_Unfinished.F
  refine ⟨T.e_Unfinished.g, T.e_Unfinished.c, _, fd, ["self", "at"], T.e_Unfinished.i, T.e_Unfinished.t, F.ok (CX := CX0) sc_init_Unfinished (fun vs H Q E h => ?_) (fun cv A outer s H vs Q E hr h => ?_), F.bindsN fun _ _ _ _ _ _ us hl => match us, hl with | [_, _], _ => rfl⟩
  · obtain ⟨a, v, rfl, _⟩ := h
    rfl
  · obtain ⟨a, v, rfl, isE, q⟩ := h
    refine ⟨_, PSs.nox (pss_cons (ps_expr (pe_baseinit (by rfl) T.e_base.g T.e_base.b (pa_cons (pv 0) (pa_cons pe_str pa_nil)))) (pss_one (ps_ost (pv 0) (pv 1)))), ?_⟩
    refine ⟨_, rfl, a, He.ga K "Unfinished", _, rfl, (by show 1 ≤ 1000; decide), T.e_Unfinished.c.oex, isE, ?_⟩
    exact ⟨_, rfl, _, rfl, a, _, rfl, T.e_Unfinished.c.oex, T.e_Unfinished.n, .inl ⟨isE, q⟩⟩
theorem er_TooDeep (T : Txt K mg) : Err P w K mg base "TooDeep" "reached" := by
  obtain ⟨fd, F⟩ := T.e_TooDeep.F
  refine ⟨T.e_TooDeep.g, T.e_TooDeep.c, _, fd, ["self", "reached"], T.e_TooDeep.i, T.e_TooDeep.t, F.ok (CX := CX0) sc_init_TooDeep (fun vs H Q E h => ?_) (fun cv A outer s H vs Q E hr h => ?_), F.bindsN fun _ _ _ _ _ _ us hl => match us, hl with | [_, _], _ => rfl⟩
  · obtain ⟨a, v, rfl, _⟩ := h
    rfl
  · obtain ⟨a, v, rfl, isE, q⟩ := h
    refine ⟨_, PSs.nox (pss_cons (ps_expr (pe_baseinit (by rfl) T.e_base.g T.e_base.b (pa_cons (pv 0) (pa_cons pe_str pa_nil)))) (pss_one (ps_ost (pv 0) (pv 1)))), ?_⟩
    refine ⟨_, rfl, a, He.ga K "TooDeep", _, rfl, (by show 1 ≤ 1000; decide), T.e_TooDeep.c.oex, isE, ?_⟩
    exact ⟨_, rfl, _, rfl, a, _, rfl, T.e_TooDeep.c.oex, T.e_TooDeep.n, .inl ⟨isE, q⟩⟩
theorem er_BadItem (T : Txt K mg) : Err P w K mg base "BadItem" "at" := by
  obtain ⟨fd, F⟩ := T.e_BadItem.F
  refine ⟨T.e_BadItem.g, T.e_BadItem.c, _, fd, ["self", "at"], T.e_BadItem.i, T.e_BadItem.t, F.ok (CX := CX0) sc_init_BadItem (fun vs H Q E h => ?_) (fun cv A outer s H vs Q E hr h => ?_), F.bindsN fun _ _ _ _ _ _ us hl => match us, hl with | [_, _], _ => rfl⟩
  · obtain ⟨a, v, rfl, _⟩ := h
    rfl
  · obtain ⟨a, v, rfl, isE, q⟩ := h
    refine ⟨_, PSs.nox (pss_cons (ps_expr (pe_baseinit (by rfl) T.e_base.g T.e_base.b (pa_cons (pv 0) (pa_cons pe_str pa_nil)))) (pss_one (ps_ost (pv 0) (pv 1)))), ?_⟩
    refine ⟨_, rfl, a, He.ga K "BadItem", _, rfl, (by show 1 ≤ 1000; decide), T.e_BadItem.c.oex, isE, ?_⟩
    exact ⟨_, rfl, _, rfl, a, _, rfl, T.e_BadItem.c.oex, T.e_BadItem.n, .inl ⟨isE, q⟩⟩
theorem er_BadPath (T : Txt K mg) : Err P w K mg base "BadPath" "at" := by
  obtain ⟨fd, F⟩ := T.e_BadPath.F
  refine ⟨T.e_BadPath.g, T.e_BadPath.c, _, fd, ["self", "at"], T.e_BadPath.i, T.e_BadPath.t, F.ok (CX := CX0) sc_init_BadPath (fun vs H Q E h => ?_) (fun cv A outer s H vs Q E hr h => ?_), F.bindsN fun _ _ _ _ _ _ us hl => match us, hl with | [_, _], _ => rfl⟩
  · obtain ⟨a, v, rfl, _⟩ := h
    rfl
  · obtain ⟨a, v, rfl, isE, q⟩ := h
    refine ⟨_, PSs.nox (pss_cons (ps_expr (pe_baseinit (by rfl) T.e_base.g T.e_base.b (pa_cons (pv 0) (pa_cons pe_str pa_nil)))) (pss_one (ps_ost (pv 0) (pv 1)))), ?_⟩
    refine ⟨_, rfl, a, He.ga K "BadPath", _, rfl, (by show 1 ≤ 1000; decide), T.e_BadPath.c.oex, isE, ?_⟩
    exact ⟨_, rfl, _, rfl, a, _, rfl, T.e_BadPath.c.oex, T.e_BadPath.n, .inl ⟨isE, q⟩⟩
theorem er_BadDeed (T : Txt K mg) : Err P w K mg base "BadDeed" "at" := by
  obtain ⟨fd, F⟩ := T.e_BadDeed.F
  refine ⟨T.e_BadDeed.g, T.e_BadDeed.c, _, fd, ["self", "at"], T.e_BadDeed.i, T.e_BadDeed.t, F.ok (CX := CX0) sc_init_BadDeed (fun vs H Q E h => ?_) (fun cv A outer s H vs Q E hr h => ?_), F.bindsN fun _ _ _ _ _ _ us hl => match us, hl with | [_, _], _ => rfl⟩
  · obtain ⟨a, v, rfl, _⟩ := h
    rfl
  · obtain ⟨a, v, rfl, isE, q⟩ := h
    refine ⟨_, PSs.nox (pss_cons (ps_expr (pe_baseinit (by rfl) T.e_base.g T.e_base.b (pa_cons (pv 0) (pa_cons pe_str pa_nil)))) (pss_one (ps_ost (pv 0) (pv 1)))), ?_⟩
    refine ⟨_, rfl, a, He.ga K "BadDeed", _, rfl, (by show 1 ≤ 1000; decide), T.e_BadDeed.c.oex, isE, ?_⟩
    exact ⟨_, rfl, _, rfl, a, _, rfl, T.e_BadDeed.c.oex, T.e_BadDeed.n, .inl ⟨isE, q⟩⟩
theorem er_DuplicateKey (T : Txt K mg) : Err P w K mg base "DuplicateKey" "at" := by
  obtain ⟨fd, F⟩ := T.e_DuplicateKey.F
  refine ⟨T.e_DuplicateKey.g, T.e_DuplicateKey.c, _, fd, ["self", "at"], T.e_DuplicateKey.i, T.e_DuplicateKey.t, F.ok (CX := CX0) sc_init_DuplicateKey (fun vs H Q E h => ?_) (fun cv A outer s H vs Q E hr h => ?_), F.bindsN fun _ _ _ _ _ _ us hl => match us, hl with | [_, _], _ => rfl⟩
  · obtain ⟨a, v, rfl, _⟩ := h
    rfl
  · obtain ⟨a, v, rfl, isE, q⟩ := h
    refine ⟨_, PSs.nox (pss_cons (ps_expr (pe_baseinit (by rfl) T.e_base.g T.e_base.b (pa_cons (pv 0) (pa_cons pe_str pa_nil)))) (pss_one (ps_ost (pv 0) (pv 1)))), ?_⟩
    refine ⟨_, rfl, a, He.ga K "DuplicateKey", _, rfl, (by show 1 ≤ 1000; decide), T.e_DuplicateKey.c.oex, isE, ?_⟩
    exact ⟨_, rfl, _, rfl, a, _, rfl, T.e_DuplicateKey.c.oex, T.e_DuplicateKey.n, .inl ⟨isE, q⟩⟩
theorem er_BadShape (T : Txt K mg) : Err P w K mg base "BadShape" "word" := by
  obtain ⟨fd, F⟩ := T.e_BadShape.F
  refine ⟨T.e_BadShape.g, T.e_BadShape.c, _, fd, ["self", "word"], T.e_BadShape.i, T.e_BadShape.t, F.ok (CX := CX0) sc_init_BadShape (fun vs H Q E h => ?_) (fun cv A outer s H vs Q E hr h => ?_), F.bindsN fun _ _ _ _ _ _ us hl => match us, hl with | [_, _], _ => rfl⟩
  · obtain ⟨a, v, rfl, _⟩ := h
    rfl
  · obtain ⟨a, v, rfl, isE, q⟩ := h
    refine ⟨_, PSs.nox (pss_cons (ps_expr (pe_baseinit (by rfl) T.e_base.g T.e_base.b (pa_cons (pv 0) (pa_cons pe_str pa_nil)))) (pss_one (ps_ost (pv 0) (pv 1)))), ?_⟩
    refine ⟨_, rfl, a, He.ga K "BadShape", _, rfl, (by show 1 ≤ 1000; decide), T.e_BadShape.c.oex, isE, ?_⟩
    exact ⟨_, rfl, _, rfl, a, _, rfl, T.e_BadShape.c.oex, T.e_BadShape.n, .inl ⟨isE, q⟩⟩
theorem er_UnknownName (T : Txt K mg) : Err P w K mg base "UnknownName" "name" := by
  obtain ⟨fd, F⟩ := T.e_UnknownName.F
  refine ⟨T.e_UnknownName.g, T.e_UnknownName.c, _, fd, ["self", "name"], T.e_UnknownName.i, T.e_UnknownName.t, F.ok (CX := CX0) sc_init_UnknownName (fun vs H Q E h => ?_) (fun cv A outer s H vs Q E hr h => ?_), F.bindsN fun _ _ _ _ _ _ us hl => match us, hl with | [_, _], _ => rfl⟩
  · obtain ⟨a, v, rfl, _⟩ := h
    rfl
  · obtain ⟨a, v, rfl, isE, q⟩ := h
    refine ⟨_, PSs.nox (pss_cons (ps_expr (pe_baseinit (by rfl) T.e_base.g T.e_base.b (pa_cons (pv 0) (pa_cons pe_str pa_nil)))) (pss_one (ps_ost (pv 0) (pv 1)))), ?_⟩
    refine ⟨_, rfl, a, He.ga K "UnknownName", _, rfl, (by show 1 ≤ 1000; decide), T.e_UnknownName.c.oex, isE, ?_⟩
    exact ⟨_, rfl, _, rfl, a, _, rfl, T.e_UnknownName.c.oex, T.e_UnknownName.n, .inl ⟨isE, q⟩⟩
theorem er_Circular (T : Txt K mg) : Err P w K mg base "Circular" "name" := by
  obtain ⟨fd, F⟩ := T.e_Circular.F
  refine ⟨T.e_Circular.g, T.e_Circular.c, _, fd, ["self", "name"], T.e_Circular.i, T.e_Circular.t, F.ok (CX := CX0) sc_init_Circular (fun vs H Q E h => ?_) (fun cv A outer s H vs Q E hr h => ?_), F.bindsN fun _ _ _ _ _ _ us hl => match us, hl with | [_, _], _ => rfl⟩
  · obtain ⟨a, v, rfl, _⟩ := h
    rfl
  · obtain ⟨a, v, rfl, isE, q⟩ := h
    refine ⟨_, PSs.nox (pss_cons (ps_expr (pe_baseinit (by rfl) T.e_base.g T.e_base.b (pa_cons (pv 0) (pa_cons pe_str pa_nil)))) (pss_one (ps_ost (pv 0) (pv 1)))), ?_⟩
    refine ⟨_, rfl, a, He.ga K "Circular", _, rfl, (by show 1 ≤ 1000; decide), T.e_Circular.c.oex, isE, ?_⟩
    exact ⟨_, rfl, _, rfl, a, _, rfl, T.e_Circular.c.oex, T.e_Circular.n, .inl ⟨isE, q⟩⟩
theorem er_Ambiguous (T : Txt K mg) : Err P w K mg base "Ambiguous" "name" := by
  obtain ⟨fd, F⟩ := T.e_Ambiguous.F
  refine ⟨T.e_Ambiguous.g, T.e_Ambiguous.c, _, fd, ["self", "name"], T.e_Ambiguous.i, T.e_Ambiguous.t, F.ok (CX := CX0) sc_init_Ambiguous (fun vs H Q E h => ?_) (fun cv A outer s H vs Q E hr h => ?_), F.bindsN fun _ _ _ _ _ _ us hl => match us, hl with | [_, _], _ => rfl⟩
  · obtain ⟨a, v, rfl, _⟩ := h
    rfl
  · obtain ⟨a, v, rfl, isE, q⟩ := h
    refine ⟨_, PSs.nox (pss_cons (ps_expr (pe_baseinit (by rfl) T.e_base.g T.e_base.b (pa_cons (pv 0) (pa_cons pe_str pa_nil)))) (pss_one (ps_ost (pv 0) (pv 1)))), ?_⟩
    refine ⟨_, rfl, a, He.ga K "Ambiguous", _, rfl, (by show 1 ≤ 1000; decide), T.e_Ambiguous.c.oex, isE, ?_⟩
    exact ⟨_, rfl, _, rfl, a, _, rfl, T.e_Ambiguous.c.oex, T.e_Ambiguous.n, .inl ⟨isE, q⟩⟩
theorem er_Barren (T : Txt K mg) : Err P w K mg base "Barren" "name" := by
  obtain ⟨fd, F⟩ := T.e_Barren.F
  refine ⟨T.e_Barren.g, T.e_Barren.c, _, fd, ["self", "name"], T.e_Barren.i, T.e_Barren.t, F.ok (CX := CX0) sc_init_Barren (fun vs H Q E h => ?_) (fun cv A outer s H vs Q E hr h => ?_), F.bindsN fun _ _ _ _ _ _ us hl => match us, hl with | [_, _], _ => rfl⟩
  · obtain ⟨a, v, rfl, _⟩ := h
    rfl
  · obtain ⟨a, v, rfl, isE, q⟩ := h
    refine ⟨_, PSs.nox (pss_cons (ps_expr (pe_baseinit (by rfl) T.e_base.g T.e_base.b (pa_cons (pv 0) (pa_cons pe_str pa_nil)))) (pss_one (ps_ost (pv 0) (pv 1)))), ?_⟩
    refine ⟨_, rfl, a, He.ga K "Barren", _, rfl, (by show 1 ≤ 1000; decide), T.e_Barren.c.oex, isE, ?_⟩
    exact ⟨_, rfl, _, rfl, a, _, rfl, T.e_Barren.c.oex, T.e_Barren.n, .inl ⟨isE, q⟩⟩
theorem er_TooLong (T : Txt K mg) : Err P w K mg base "TooLong" "debt" := by
  obtain ⟨fd, F⟩ := T.e_TooLong.F
  refine ⟨T.e_TooLong.g, T.e_TooLong.c, _, fd, ["self", "debt"], T.e_TooLong.i, T.e_TooLong.t, F.ok (CX := CX0) sc_init_TooLong (fun vs H Q E h => ?_) (fun cv A outer s H vs Q E hr h => ?_), F.bindsN fun _ _ _ _ _ _ us hl => match us, hl with | [_, _], _ => rfl⟩
  · obtain ⟨a, v, rfl, _⟩ := h
    rfl
  · obtain ⟨a, v, rfl, isE, q⟩ := h
    refine ⟨_, PSs.nox (pss_cons (ps_expr (pe_baseinit (by rfl) T.e_base.g T.e_base.b (pa_cons (pv 0) (pa_cons pe_str pa_nil)))) (pss_one (ps_ost (pv 0) (pv 1)))), ?_⟩
    refine ⟨_, rfl, a, He.ga K "TooLong", _, rfl, (by show 1 ≤ 1000; decide), T.e_TooLong.c.oex, isE, ?_⟩
    exact ⟨_, rfl, _, rfl, a, _, rfl, T.e_TooLong.c.oex, T.e_TooLong.n, .inl ⟨isE, q⟩⟩
theorem er_NoDocument (T : Txt K mg) : Err P w K mg base "NoDocument" "number" := by
  obtain ⟨fd, F⟩ := T.e_NoDocument.F
  refine ⟨T.e_NoDocument.g, T.e_NoDocument.c, _, fd, ["self", "number"], T.e_NoDocument.i, T.e_NoDocument.t, F.ok (CX := CX0) sc_init_NoDocument (fun vs H Q E h => ?_) (fun cv A outer s H vs Q E hr h => ?_), F.bindsN fun _ _ _ _ _ _ us hl => match us, hl with | [_, _], _ => rfl⟩
  · obtain ⟨a, v, rfl, _⟩ := h
    rfl
  · obtain ⟨a, v, rfl, isE, q⟩ := h
    refine ⟨_, PSs.nox (pss_cons (ps_expr (pe_baseinit (by rfl) T.e_base.g T.e_base.b (pa_cons (pv 0) (pa_cons pe_str pa_nil)))) (pss_one (ps_ost (pv 0) (pv 1)))), ?_⟩
    refine ⟨_, rfl, a, He.ga K "NoDocument", _, rfl, (by show 1 ≤ 1000; decide), T.e_NoDocument.c.oex, isE, ?_⟩
    exact ⟨_, rfl, _, rfl, a, _, rfl, T.e_NoDocument.c.oex, T.e_NoDocument.n, .inl ⟨isE, q⟩⟩
/-! ### the law's bags -/
/-- a bag stands at p; at most m numbers were mixed -/
def Bag (H : Hp) (p : Addr) (m : Int) : Prop := ∃ d e c : Int, H p = some (.lst [.int d, .int e, .int c]) ∧ 0 ≤ d ∧ 0 ≤ e ∧ e < 1099511627776 ∧ 0 ≤ c ∧ c ≤ m
/-- all that is tracked stands as before, but for what is at p -/
def But (p : Addr) (H H' : Hp) : Prop := ∀ b o, b ≠ p → H b = some o → H' b = some o
theorem But.refl (p : Addr) (H : Hp) : But p H H := fun _ _ _ h => h
theorem But.trans {p : Addr} {H H1 H2 : Hp} (a : But p H H1) (b : But p H1 H2) : But p H H2 := fun c o n h => b c o n (a c o n h)
theorem But.upd {p : Addr} {H : Hp} {o : HO} : But p H (upd H p o) := fun b x n h => by
  rw [upd_ne n]
  exact h
theorem But.new {p q : Addr} {H : Hp} {o : HO} (h : H q = none) : But p H (L2.upd H q o) := fun b x _ e => by
  rw [upd_ne (ne_of_none e h)]
  exact e
theorem But.seq {p : Addr} {K : PySem.W.Frag} {H H' : Hp} {a : Addr} {xs : List V} (e : But p H H') (n : a ≠ p) (h : SqL K H a xs) : SqL K H' a xs := by
  rcases h with (h | ⟨o, h⟩) | h
  · exact .inl (.inl (e _ _ n h))
  · exact .inl (.inr ⟨o, e _ _ n h⟩)
  · exact .inr h
theorem Bag.more {H : Hp} {p : Addr} {m n : Int} (h : Bag H p m) (l : m ≤ n) : Bag H p n := by
  obtain ⟨d, e, c, h1, h2, h3, h4, h5, h6⟩ := h
  exact ⟨d, e, c, h1, h2, h3, h4, h5, Int.le_trans h6 l⟩
theorem Bag.new {H : Hp} {p q : Addr} {m : Int} {o : HO} (h : Bag H p m) (z : H q = none) : Bag (L2.upd H q o) p m := by
  obtain ⟨d, e, c, h1, h2⟩ := h
  exact ⟨d, e, c, by rw [upd_ne (ne_of_none h1 z)]; exact h1, h2⟩
theorem Bag.ne {H : Hp} {p q : Addr} {m : Int} (h : Bag H p m) (z : H q = none) : p ≠ q := by
  obtain ⟨d, e, c, h1, h2⟩ := h
  exact ne_of_none h1 z
theorem same_new {H : Hp} {q : Addr} {o : HO} (h : H q = none) : Same H (L2.upd H q o) := fun b x e => by
  rw [upd_ne (ne_of_none e h)]
  exact e
theorem fmod_ge (a : Int) {b : Int} (h : 0 < b) : 0 ≤ a.fmod b := Int.fmod_nonneg_of_pos a h
theorem fmod_lt (a : Int) {b : Int} (h : 0 < b) : a.fmod b < b := Int.fmod_lt_of_pos a h
theorem fdiv_ge {a b : Int} (ha : 0 ≤ a) (hb : 0 ≤ b) : 0 ≤ a.fdiv b := Int.fdiv_nonneg ha hb
theorem same_but {H H1 H2 : Hp} {p : Addr} (a : Same H H1) (b : But p H1 H2) (n : H p = none) : Same H H2 := fun c o e => b c o (ne_of_none e n) (a c o e)
theorem same_put {H H1 : Hp} {p : Addr} {o : HO} (a : Same H H1) (n : H p = none) : Same H (L2.upd H1 p o) := same_but a But.upd n
theorem Bag.same {H H' : Hp} {p : Addr} {m : Int} (h : Bag H p m) (s : Same H H') : Bag H' p m := by
  obtain ⟨d, e, c, h1, h2⟩ := h
  exact ⟨d, e, c, s _ _ h1, h2⟩

/-! ### what repr shows -/
theorem dp_ints {K : PySem.W.Frag} {H : Hp} : ∀ ns : List Int, DpAll K H (ns.map V.int) (ns.map PyData.int)
  | [] => .nil
  | n :: r => .cons (.int n) (dp_ints r)
theorem shown_int {n : Int} {B : Nat} (b : 0 < B) (h : n.natAbs.log2 < B) : (PyData.shown (.int n)).length ≤ B + 1 := by
  show (Str.ofString (toString n)).length ≤ B + 1
  rw [PySem.ofString_length]
  exact int_text_length_le b h
theorem shown_ints {B : Nat} (b : 0 < B) : ∀ ns : List Int, (∀ n ∈ ns, n.natAbs.log2 < B) → ((PyData.shownAll (ns.map PyData.int)).map (·.length)).sum ≤ (B + 1) * ns.length ∧ (PyData.shownAll (ns.map PyData.int)).length = ns.length
  | [], _ => ⟨Nat.zero_le _, rfl⟩
  | n :: r, h => by
    obtain ⟨i1, i2⟩ := shown_ints b r fun x m => h x (List.mem_cons_of_mem _ m)
    have i3 := shown_int b (h n List.mem_cons_self)
    refine ⟨?_, ?_⟩
    · show (PyData.shown (.int n)).length + ((PyData.shownAll (r.map PyData.int)).map (·.length)).sum ≤ (B + 1) * (r.length + 1)
      rw [Nat.mul_add]
      omega
    · show (PyData.shownAll (r.map PyData.int)).length + 1 = r.length + 1
      omega
theorem showable_ints : ∀ ns : List Int, (∀ n ∈ ns, n.natAbs.log2 < 1920) → PyData.showableAll (ns.map PyData.int) = true
  | [], _ => rfl
  | n :: r, h => by
    show (PyData.showable (.int n) && PyData.showableAll (r.map PyData.int)) = true
    rw [showable_ints r fun x m => h x (List.mem_cons_of_mem _ m), Bool.and_true]
    exact decide_eq_true (h n List.mem_cons_self)
theorem nodict_ints : ∀ ns : List Int, PyData.hasDictAll (ns.map PyData.int) = false
  | [] => rfl
  | n :: r => by
    show (PyData.hasDict (.int n) || PyData.hasDictAll (r.map PyData.int)) = false
    rw [nodict_ints r]
    rfl
theorem depth_ints : ∀ ns : List Int, PyData.depthAll (ns.map PyData.int) ≤ 1
  | [] => Nat.zero_le _
  | n :: r => by
    have := depth_ints r
    show max (PyData.depth (.int n)) (PyData.depthAll (r.map PyData.int)) ≤ 1
    exact Nat.max_le.mpr ⟨Nat.zero_le _, this⟩
theorem log2_byte {n : Int} (h : 0 ≤ n ∧ n ≤ 255) : n.natAbs.log2 < 8 := by
  obtain ⟨k, rfl⟩ := Int.eq_ofNat_of_zero_le h.1
  have : k < 256 := by omega
  show k.log2 < 8
  by_cases e : k = 0
  · rw [e]
    decide
  · exact (Nat.log2_lt e).mpr this
/-- repr of a list of bytes -/
theorem show_bytes {K : PySem.W.Frag} {H : Hp} {p : Addr} {ns : List Int} (h : SqL K H p (ns.map V.int)) (b : ∀ n ∈ ns, 0 ≤ n ∧ n ≤ 255) (l : ns.length ≤ 100000) : Shows K H (.ref p) (.list (ns.map .int)) where
  dp := .lst h (dp_ints ns)
  ok := showable_ints ns fun n m => Nat.lt_trans (log2_byte (b n m)) (by decide)
  nd := nodict_ints ns
  deep := by
    have := depth_ints ns
    show PyData.depthAll (ns.map .int) + 1 ≤ 100
    omega
  size := by
    obtain ⟨i1, i2⟩ := shown_ints (B := 8) (by decide) ns fun n m => log2_byte (b n m)
    have := listText_len_le (PyData.shownAll (ns.map .int))
    show (listText (PyData.shownAll (ns.map .int))).length ≤ sizeLine
    rw [sizeLine_eq]
    omega
/-- repr of an int -/
theorem show_int {K : PySem.W.Frag} {H : Hp} {n : Int} (h : n.natAbs.log2 < 1920) : Shows K H (.int n) (.int n) :=
  ⟨.int n, decide_eq_true h, rfl, by show 0 ≤ 100; decide, Nat.le_trans (shown_int (B := 1920) (by decide) h) (by rw [sizeLine_eq]; decide)⟩
/-- repr of a list, a tuple of ints -/
theorem show_ilist {K : PySem.W.Frag} {H : Hp} {p : Addr} {ns : List Int} (h : SqL K H p (ns.map V.int)) (b : ∀ n ∈ ns, n.natAbs.log2 < 1920) (l : ns.length ≤ 8000) : Shows K H (.ref p) (.list (ns.map .int)) where
  dp := .lst h (dp_ints ns)
  ok := showable_ints ns b
  nd := nodict_ints ns
  deep := by
    have := depth_ints ns
    show PyData.depthAll (ns.map .int) + 1 ≤ 100
    omega
  size := by
    obtain ⟨i1, i2⟩ := shown_ints (B := 1920) (by decide) ns b
    have := listText_len_le (PyData.shownAll (ns.map .int))
    show (listText (PyData.shownAll (ns.map .int))).length ≤ sizeLine
    rw [sizeLine_eq]
    omega
theorem show_ituple {K : PySem.W.Frag} {H : Hp} {p : Addr} {ns : List Int} (h : SqT K H p (ns.map V.int)) (b : ∀ n ∈ ns, n.natAbs.log2 < 1920) (l : ns.length ≤ 8000) : Shows K H (.ref p) (.tuple (ns.map .int)) where
  dp := .tup h (dp_ints ns)
  ok := showable_ints ns b
  nd := nodict_ints ns
  deep := by
    have := depth_ints ns
    show PyData.depthAll (ns.map .int) + 1 ≤ 100
    omega
  size := by
    obtain ⟨i1, i2⟩ := shown_ints (B := 1920) (by decide) ns b
    have := tupleText_len_le (PyData.shownAll (ns.map .int))
    show (tupleText (PyData.shownAll (ns.map .int))).length ≤ sizeLine
    rw [sizeLine_eq]
    omega
theorem log2_small {z : Int} (hz : z.natAbs < 2 ^ 1900) : z.natAbs.log2 < 1920 := by
  by_cases e : z.natAbs = 0
  · rw [e]
    decide
  · exact Nat.lt_trans ((Nat.log2_lt e).mpr hz) (by decide)
theorem show_none {K : PySem.W.Frag} {H : Hp} : Shows K H .non .none := ⟨.non, rfl, rfl, by show 0 ≤ 100; decide, by show 4 ≤ sizeLine; decide⟩
theorem show_bool {K : PySem.W.Frag} {H : Hp} (b : Bool) : Shows K H (.bl b) (.bool b) := ⟨.bl b, rfl, rfl, by show 0 ≤ 100; decide, by cases b <;> decide +kernel⟩
theorem show_str {K : PySem.W.Frag} {H : Hp} {x : Str} (h : (reprText x).length ≤ sizeLine) : Shows K H (.str x) (.str x) := ⟨.str x, rfl, rfl, by show 0 ≤ 100; decide, h⟩

/-- the cells that are taken of the script -/
theorem cut_len (xs : List V) (n : Nat) : (cutV xs none (some (n : Int))).length ≤ n := by
  unfold cutV
  rw [List.length_take, HT.sIx_nat]
  omega
/-- number_code of a number, as the law calls it -/

theorem sc__law_take : FnScope ["_law_bag_here", "_law_many", "_law_digit", "_law_place", "_law_mixed"] ["_law_bag_here", "_law_many"] (defScope s__law_take) := ⟨rfl, rfl, rfl, by decide +kernel, rfl, by decide +kernel, by decide +kernel⟩
/-- a number from 0 to many - 1 is drawn -/
def spTake : Sp := fun vs H Q _ => ∃ (p : Addr) (n m : Int), vs = [.ref p, .int n] ∧ 0 < n ∧ n < 1073741824 ∧ Bag H p m ∧ m < 1048576 ∧
  ∀ (r : Int) (H' : Hp), 0 ≤ r → r < n → But p H H' → Bag H' p (m + 1) → Q (.int r) H'
theorem ok__law_take (T : Txt K mg) : Has P w K mg base CX0 1 "_law_take" ["_law_bag_here", "_law_many"] [] spTake := by
  refine has0 T.d__law_take sc__law_take (fun _ _ _ _ _ _ us hl => match us, hl with | [_, _], _ => rfl) (fun vs H Q E h => ?_) (fun cv A outer s H vs Q E hg hr h => ?_)
  · obtain ⟨p, n, m, rfl, _⟩ := h
    rfl
  · obtain ⟨p, n, m, rfl, n0, n1, ⟨d, e, c, hp, d0, e0, e1, c0, c1⟩, m1, q⟩ := h
    refine ⟨_, (pss_cons (ps_if (pt_cmpR op_gt (pe_ix (ix_listK (K := K) rfl) (pv 0) pe_int (fun _ _ => rfl)) pe_int (nomark _))
        (pss_cons (ps_set (i := 2) sc__law_take.nd rfl (.inl rfl) (pe_op op_modN (pe_callTy call_int1 (by rfl) T.m_int (by decide +kernel) (pa_cons (pe_ix (ix_listK (K := K) rfl) (pv 0) pe_int (fun _ _ => rfl)) pa_nil)) (pv 1)))
        (pss_cons (ps_asg (pe_op op_fdivN (pe_ix (ix_listK (K := K) rfl) (pv 0) pe_int (fun _ _ => rfl)) (pv 1)) (pg_sub (pv 0) pe_int set_list))
        (pss_one (ps_ret (pv 2)))))
        pss_nil)
        (pss_cons (ps_asg (pe_op op_add (pe_ix (ix_listK (K := K) rfl) (pv 0) pe_int (fun _ _ => rfl)) pe_int) (pg_sub (pv 0) pe_int set_list))
        (pss_cons (ps_set (i := 3) sc__law_take.nd rfl (.inl rfl) (pe_op op_add (pe_ix (ix_listK (K := K) rfl) (pv 0) pe_int (fun _ _ => rfl)) (pe_op op_mul pe_int (pe_ix (ix_listK (K := K) rfl) (pv 0) pe_int (fun _ _ => rfl)))))
        (pss_cons (ps_set (i := 4) sc__law_take.nd rfl (.inl rfl) (pe_op op_modN (pe_callTy call_int1 (by rfl) T.m_int (by decide +kernel) (pa_cons (pe_op op_add (pe_op op_pow (pv 3) pe_int) (pe_op op_mul pe_int (pe_ix (ix_listK (K := K) rfl) (pv 0) pe_int (fun _ _ => rfl)))) pa_nil)) pe_int))
        (pss_cons (ps_set (i := 4) sc__law_take.nd rfl (.inl rfl) (pe_op op_modN (pe_callTy call_int1 (by rfl) T.m_int (by decide +kernel) (pa_cons (pe_op op_add (pe_op op_add (pe_op op_mul (pv 4) (pv 4)) (pe_op op_mul pe_int (pe_ix (ix_listK (K := K) rfl) (pv 0) pe_int (fun _ _ => rfl)))) pe_int) pa_nil)) pe_int))
        (pss_one (ps_ret (pe_op op_modN (pe_callTy call_int1 (by rfl) T.m_int (by decide +kernel) (pa_cons (pe_op op_fdivN (pv 4) pe_int) pa_nil)) (pv 1))))))))), ?_⟩
    refine ⟨.ref p, rfl, p, _, 0, .int d, rfl, rfl, SqL.of hp, atI_nat (j := 0) rfl, d, 0, rfl, rfl, _, rfl, ite2 (fun z => ?_) (fun z => ?_)⟩
    · -- a digit of the cell
      refine ⟨.ref p, rfl, p, _, 0, .int d, rfl, rfl, SqL.of hp, atI_nat (j := 0) rfl, .inl ⟨d, rfl, .int n, rfl, d, n, rfl, rfl, by show n ≠ 0; omega, ?_⟩⟩
      refine ⟨.ref p, rfl, p, _, 0, .int d, rfl, rfl, SqL.of hp, atI_nat (j := 0) rfl, .int n, rfl, d, n, rfl, rfl, ⟨by omega, by omega⟩, ?_⟩
      refine ⟨.ref p, rfl, p, _, 0, 0, rfl, rfl, hp, rfl, ?_⟩
      refine ⟨.int (d.fmod n), rfl, q _ _ (fmod_ge d n0) (fmod_lt d n0) But.upd ⟨d.fdiv n, e, c, upd_same, fdiv_ge d0 (by omega), e0, e1, c0, by omega⟩⟩
    · -- a mixed number
      have hp1 : (upd H p (.lst [.int d, .int e, .int (c + 1)])) p = some (.lst [.int d, .int e, .int (c + 1)]) := upd_same
      refine ⟨.ref p, rfl, p, _, 2, .int c, rfl, rfl, SqL.of hp, atI_nat (j := 2) rfl, c, 1, rfl, rfl, ?_⟩
      refine ⟨.ref p, rfl, p, _, 2, 2, rfl, rfl, hp, rfl, ?_⟩
      refine ⟨.ref p, rfl, p, _, 1, .int e, rfl, rfl, SqL.of hp1, atI_nat (j := 1) rfl, .ref p, rfl, p, _, 2, .int (c + 1), rfl, rfl, SqL.of hp1, atI_nat (j := 2) rfl, 15485863, c + 1, rfl, rfl, .inl ⟨by decide, by decide⟩, e, 15485863 * (c + 1), rfl, rfl, ?_⟩
      refine ⟨_, rfl, e + 15485863 * (c + 1), 3, rfl, rfl, ⟨by decide, by decide, by omega⟩, ?_⟩
      refine ⟨.ref p, rfl, p, _, 2, .int (c + 1), rfl, rfl, SqL.of hp1, atI_nat (j := 2) rfl, 104729, c + 1, rfl, rfl, .inl ⟨by decide, by decide⟩, _, _, rfl, rfl, .inl ⟨_, rfl, _, 2305843009213693951, rfl, rfl, (by show (2305843009213693951 : Int) ≠ 0; decide), ?_⟩⟩
      have k0 := fmod_ge ((e + 15485863 * (c + 1)) ^ (3 : Int).toNat + 104729 * (c + 1)) (b := 2305843009213693951) (by decide)
      have k1 := fmod_lt ((e + 15485863 * (c + 1)) ^ (3 : Int).toNat + 104729 * (c + 1)) (b := 2305843009213693951) (by decide)
      refine ⟨_, rfl, _, rfl, _, _, rfl, rfl, .inl ⟨Int.lt_of_lt_of_le (by decide) k0, Int.lt_trans k1 (by decide)⟩, .ref p, rfl, p, _, 1, .int e, rfl, rfl, SqL.of hp1, atI_nat (j := 1) rfl, 48271, e, rfl, rfl, .inl ⟨by decide, by decide⟩, _, _, rfl, rfl, _, _, rfl, rfl, .inl ⟨_, rfl, _, 2305843009213693921, rfl, rfl, (by show (2305843009213693921 : Int) ≠ 0; decide), ?_⟩⟩
      refine ⟨_, rfl, _, 4096, rfl, rfl, ⟨(by show (4096 : Int) ≠ 0; decide), (by decide : (4096 : Int).natAbs < 1073741824)⟩, .inl ⟨_, rfl, .int n, rfl, _, n, rfl, rfl, by show n ≠ 0; omega, ?_⟩⟩
      exact q _ _ (fmod_ge _ n0) (fmod_lt _ n0) But.upd ⟨d, e, c + 1, upd_same, d0, e0, e1, by omega, by omega⟩

theorem sc__law_bag : FnScope ["_law_script", "_law_at", "_law_cell", "_law_digits"] ["_law_script", "_law_at"] (defScope s__law_bag) := ⟨rfl, rfl, rfl, by decide +kernel, rfl, by decide +kernel, by decide +kernel⟩
/-- the bag of a cell -/
def spBag (K : PySem.W.Frag) : Sp := fun vs H Q _ => ∃ (a : Addr) (ns : List Int) (i : Int), vs = [.ref a, .int i] ∧ SqL K H a (ns.map V.int) ∧ 0 ≤ i ∧ i < 64 ∧
  ∀ (p : Addr) (H' : Hp), Same H H' → H p = none → Bag H' p 0 → Q (.ref p) H'
theorem ok__law_bag (T : Txt K mg) : Has P w K mg base CX0 1 "_law_bag" ["_law_script", "_law_at"] [] (spBag K) := by
  refine has0 T.d__law_bag sc__law_bag (fun _ _ _ _ _ _ us hl => match us, hl with | [_, _], _ => rfl) (fun vs H Q E h => ?_) (fun cv A outer s H vs Q E hg hr h => ?_)
  · obtain ⟨a, ns, i, rfl, _⟩ := h
    rfl
  · obtain ⟨a, ns, i, rfl, hS, i0, i1, q⟩ := h
    refine ⟨_, (pss_cons (ps_set (i := 2) sc__law_bag.nd rfl (.inl rfl) (pe_ifExp (pt_cmpR op_lt (pv 1) (pe_callB (call_lenK (K := K) rfl) (by rfl) T.m_len PySem.boot_len (pa_cons (pv 0) pa_nil)) (nomark _)) (pe_ix (ix_listK (K := K) rfl) (pv 0) (pv 1) (fun _ _ => rfl)) pe_int))
        (pss_cons (ps_set (i := 3) sc__law_bag.nd rfl (.inl rfl) (pe_ifExp (pt_cmpR op_ge (pe_callB call_abs (by rfl) T.m_abs (by decide +kernel) (pa_cons (pv 2) pa_nil)) (pe_op op_pow pe_int pe_int) (nomark _)) (pe_callB call_abs (by rfl) T.m_abs (by decide +kernel) (pa_cons (pv 2) pa_nil)) pe_int))
        (pss_one (ps_ret (pe_lst (pa_cons (pv 3) (pa_cons (pe_op op_add (pe_op op_add (pe_op op_modN (pe_callTy call_int1 (by rfl) T.m_int (by decide +kernel) (pa_cons (pv 2) pa_nil)) pe_int) (pe_op op_mul pe_int (pv 1))) pe_int) (pa_cons pe_int pa_nil)))))))), ?_⟩
    have fin : ∀ (x y : Int), 0 ≤ y → ∀ (p : Addr), H p = none → Q (.ref p) (L2.upd H p (.lst [.int y, .int (x.fmod 2147483629 + 2147483648 * i + 77), .int 0])) := fun x y y0 p hp => by
      have k0 := fmod_ge x (b := 2147483629) (by decide)
      have k1 := fmod_lt x (b := 2147483629) (by decide)
      exact q p _ (same_new hp) hp ⟨_, _, _, upd_same, y0, by omega, by omega, by omega, by omega⟩
    refine ⟨.int i, rfl, .ref a, rfl, a, _, rfl, .inl hS, i, _, rfl, rfl, _, rfl, ite2 (fun z => ?_) (fun z => ?_)⟩
    · have z1 := of_decide_eq_true z
      have z2 : i.toNat < ns.length := by
        rw [List.length_map] at z1
        omega
      have z3 : (ns.map V.int)[i.toNat]? = some (.int ns[i.toNat]) := by
        rw [List.getElem?_map, List.getElem?_eq_getElem z2]
        rfl
      have z4 : atI (ns.map V.int) i = some (.int ns[i.toNat]) := by
        have e := atI_nat z3
        rwa [Int.toNat_of_nonneg i0] at e
      refine ⟨.ref a, rfl, .int i, rfl, a, _, i, .int ns[i.toNat], rfl, rfl, hS, z4, ?_⟩
      generalize ns[i.toNat] = x
      refine ⟨_, rfl, x, rfl, 10, 18, rfl, rfl, ⟨by decide, by decide, by decide⟩, _, _, rfl, rfl, _, rfl, ite2 (fun y => ?_) (fun y => ?_)⟩
      · refine ⟨_, rfl, x, rfl, _, rfl, _, rfl, .inl ⟨x, rfl, x, 2147483629, rfl, rfl, (by show (2147483629 : Int) ≠ 0; decide), _, rfl, 2147483648, i, rfl, rfl, .inl ⟨by decide, by decide⟩, _, _, rfl, rfl, _, _, rfl, rfl, (by show 3 ≤ sizeLine; decide), ?_⟩⟩
        exact fin x _ (by split <;> omega)
      · refine ⟨_, rfl, _, rfl, .inl ⟨x, rfl, x, 2147483629, rfl, rfl, (by show (2147483629 : Int) ≠ 0; decide), _, rfl, 2147483648, i, rfl, rfl, .inl ⟨by decide, by decide⟩, _, _, rfl, rfl, _, _, rfl, rfl, (by show 3 ≤ sizeLine; decide), ?_⟩⟩
        exact fin x _ (Int.le_refl 0)
    · -- no such cell
      refine ⟨_, rfl, 0, rfl, 10, 18, rfl, rfl, ⟨by decide, by decide, by decide⟩, _, _, rfl, rfl, _, rfl, ?_⟩
      refine iteF ?_
      refine ⟨_, rfl, _, rfl, .inl ⟨0, rfl, 0, 2147483629, rfl, rfl, (by show (2147483629 : Int) ≠ 0; decide), _, rfl, 2147483648, i, rfl, rfl, .inl ⟨by decide, by decide⟩, _, _, rfl, rfl, _, _, rfl, rfl, (by show 3 ≤ sizeLine; decide), ?_⟩⟩
      exact fin 0 _ (Int.le_refl 0)

theorem sc__law_of : FnScope ["_law_bag_here", "_law_some"] ["_law_bag_here", "_law_some"] (defScope s__law_of) := ⟨rfl, rfl, rfl, by decide +kernel, rfl, by decide +kernel, by decide +kernel⟩
/-- one of some values is drawn -/
def spOf (K : PySem.W.Frag) : Sp := fun vs H Q _ => ∃ (p l : Addr) (xs : List V) (m : Int), vs = [.ref p, .ref l] ∧ Bag H p m ∧ m < 1048576 ∧ l ≠ p ∧ SqL K H l xs ∧ 0 < xs.length ∧ xs.length < 1000 ∧
  ∀ (j : Nat) (v : V) (H' : Hp), xs[j]? = some v → But p H H' → Bag H' p (m + 1) → Q v H'
theorem ok__law_of (T : Txt K mg) : Has P w K mg base CX0 2 "_law_of" ["_law_bag_here", "_law_some"] [] (spOf K) := by
  refine has0 T.d__law_of sc__law_of (fun _ _ _ _ _ _ us hl => match us, hl with | [_, _], _ => rfl) (fun vs H Q E h => ?_) (fun cv A outer s H vs Q E hg hr h => ?_)
  · obtain ⟨p, l, xs, m, rfl, _⟩ := h
    rfl
  · obtain ⟨p, l, xs, m, rfl, hB, m1, ne, hS, x0, x1, q⟩ := h
    refine ⟨_, (pss_one (ps_ret (pe_ix (ix_listK (K := K) rfl) (pv 1) (pe_fn (ok__law_take T) hg (hr.mono (by decide)) (by rfl) (pa_cons (pv 0) (pa_cons (pe_callB (call_lenK (K := K) rfl) (by rfl) T.m_len PySem.boot_len (pa_cons (pv 1) pa_nil)) pa_nil))) (fun _ _ => rfl)))), ?_⟩
    refine ⟨.ref l, rfl, .ref p, rfl, .ref l, rfl, l, _, rfl, .inl hS, p, (xs.length : Int), m, rfl, by omega, by omega, hB, m1, fun r H' r0 r1 b hB' => ?_⟩
    have r2 : r.toNat < xs.length := by omega
    have e := List.getElem?_eq_getElem r2
    have e2 : atI xs r = some xs[r.toNat] := by
      have e3 := atI_nat e
      rwa [Int.toNat_of_nonneg r0] at e3
    exact ⟨l, xs, r, _, rfl, rfl, b.seq ne hS, e2, q _ _ _ e b hB'⟩

theorem sc__law_made : FnScope ["_law_field", "_law_found"] ["_law_field"] (defScope s__law_made) := ⟨rfl, rfl, rfl, by decide +kernel, rfl, by decide +kernel, by decide +kernel⟩
def spMade (K : PySem.W.Frag) : Sp := fun vs H Q _ => ∃ v : V, vs = [v] ∧ ∀ (l : Addr) (as : List Addr) (H' : Hp), H l = none → Same H H' → H' l = some (.lst (as.map V.ref)) → as.length = 16 →
  (∀ (k : Nat) (x f : Str) (a : Addr), errNames[k]? = some x → errFields[k]? = some f → as[k]? = some a → Made H' a (He.ga K x) f v) → Q (.ref l) H'
theorem ok__law_made (T : Txt K mg) : Has P w K mg base CX0 3 "_law_made" ["_law_field"] [] (spMade K) := by
  refine has0 T.d__law_made sc__law_made (fun _ _ _ _ _ _ us hl => match us, hl with | [_], _ => rfl) (fun vs H Q E h => ?_) (fun cv A outer s H vs Q E hg hr h => ?_)
  · obtain ⟨v, rfl, _⟩ := h
    rfl
  · obtain ⟨v, rfl, q⟩ := h
    refine ⟨_, (pss_cons (ps_set (i := 1) sc__law_made.nd rfl (.inl rfl) (pe_lst (pa_cons (pe_mkV (k := 0) (C := He.ga K "BadNumber") (er_BadNumber T) rfl (hr.mono (by decide)) (by rfl) (pv 0)) (pa_cons (pe_mkV (k := 0) (C := He.ga K "BadValue") (er_BadValue T) rfl (hr.mono (by decide)) (by rfl) (pv 0)) (pa_cons (pe_mkV (k := 0) (C := He.ga K "WrongByte") (er_WrongByte T) rfl (hr.mono (by decide)) (by rfl) (pv 0)) (pa_cons (pe_mkV (k := 0) (C := He.ga K "Unfinished") (er_Unfinished T) rfl (hr.mono (by decide)) (by rfl) (pv 0)) (pa_cons (pe_mkV (k := 0) (C := He.ga K "TooDeep") (er_TooDeep T) rfl (hr.mono (by decide)) (by rfl) (pv 0)) (pa_cons (pe_mkV (k := 0) (C := He.ga K "BadItem") (er_BadItem T) rfl (hr.mono (by decide)) (by rfl) (pv 0)) pa_nil))))))))
        (pss_cons (ps_set (i := 1) sc__law_made.nd rfl (.inl rfl) (pe_op op_cat (pv 1) (pe_lst (pa_cons (pe_mkV (k := 0) (C := He.ga K "BadPath") (er_BadPath T) rfl (hr.mono (by decide)) (by rfl) (pv 0)) (pa_cons (pe_mkV (k := 0) (C := He.ga K "BadDeed") (er_BadDeed T) rfl (hr.mono (by decide)) (by rfl) (pv 0)) (pa_cons (pe_mkV (k := 0) (C := He.ga K "DuplicateKey") (er_DuplicateKey T) rfl (hr.mono (by decide)) (by rfl) (pv 0)) (pa_cons (pe_mkV (k := 0) (C := He.ga K "BadShape") (er_BadShape T) rfl (hr.mono (by decide)) (by rfl) (pv 0)) (pa_cons (pe_mkV (k := 0) (C := He.ga K "UnknownName") (er_UnknownName T) rfl (hr.mono (by decide)) (by rfl) (pv 0)) pa_nil))))))))
        (pss_one (ps_ret (pe_op op_cat (pv 1) (pe_lst (pa_cons (pe_mkV (k := 0) (C := He.ga K "Circular") (er_Circular T) rfl (hr.mono (by decide)) (by rfl) (pv 0)) (pa_cons (pe_mkV (k := 0) (C := He.ga K "Ambiguous") (er_Ambiguous T) rfl (hr.mono (by decide)) (by rfl) (pv 0)) (pa_cons (pe_mkV (k := 0) (C := He.ga K "Barren") (er_Barren T) rfl (hr.mono (by decide)) (by rfl) (pv 0)) (pa_cons (pe_mkV (k := 0) (C := He.ga K "TooLong") (er_TooLong T) rfl (hr.mono (by decide)) (by rfl) (pv 0)) (pa_cons (pe_mkV (k := 0) (C := He.ga K "NoDocument") (er_NoDocument T) rfl (hr.mono (by decide)) (by rfl) (pv 0)) pa_nil))))))))))), ?_⟩
    refine ⟨_, rfl, fun a0 G0 n0 s0 m0 => ?_⟩
    refine ⟨_, rfl, fun a1 G1 n1 s1 m1 => ?_⟩
    refine ⟨_, rfl, fun a2 G2 n2 s2 m2 => ?_⟩
    refine ⟨_, rfl, fun a3 G3 n3 s3 m3 => ?_⟩
    refine ⟨_, rfl, fun a4 G4 n4 s4 m4 => ?_⟩
    refine ⟨_, rfl, fun a5 G5 n5 s5 m5 => ?_⟩
    refine ⟨(by show 6 ≤ sizeLine; decide), fun l0 h0 => ?_⟩
    have t0 := same_new h0 (o := .lst [.ref a0, .ref a1, .ref a2, .ref a3, .ref a4, .ref a5])
    have e0 := upd_same (H := G5) (a := l0) (o := .lst [.ref a0, .ref a1, .ref a2, .ref a3, .ref a4, .ref a5])
    refine ⟨.ref l0, rfl, ?_⟩
    refine ⟨_, rfl, fun a6 G6 n6 s6 m6 => ?_⟩
    refine ⟨_, rfl, fun a7 G7 n7 s7 m7 => ?_⟩
    refine ⟨_, rfl, fun a8 G8 n8 s8 m8 => ?_⟩
    refine ⟨_, rfl, fun a9 G9 n9 s9 m9 => ?_⟩
    refine ⟨_, rfl, fun a10 G10 n10 s10 m10 => ?_⟩
    refine ⟨(by show 5 ≤ sizeLine; decide), fun l1 h1 => ?_⟩
    have t1 := same_new h1 (o := .lst [.ref a6, .ref a7, .ref a8, .ref a9, .ref a10])
    refine ⟨l0, l1, _, _, rfl, rfl, (t1 _ _ (s10 _ _ (s9 _ _ (s8 _ _ (s7 _ _ (s6 _ _ e0)))))), upd_same, (by show 11 ≤ sizeLine; decide), fun c1 g1 => ?_⟩
    have u1 := same_new g1 (o := .lst [.ref a0, .ref a1, .ref a2, .ref a3, .ref a4, .ref a5, .ref a6, .ref a7, .ref a8, .ref a9, .ref a10])
    have e1 := upd_same (H := upd G10 l1 (.lst [.ref a6, .ref a7, .ref a8, .ref a9, .ref a10])) (a := c1) (o := .lst [.ref a0, .ref a1, .ref a2, .ref a3, .ref a4, .ref a5, .ref a6, .ref a7, .ref a8, .ref a9, .ref a10])
    refine ⟨.ref c1, rfl, ?_⟩
    refine ⟨_, rfl, fun a11 G11 n11 s11 m11 => ?_⟩
    refine ⟨_, rfl, fun a12 G12 n12 s12 m12 => ?_⟩
    refine ⟨_, rfl, fun a13 G13 n13 s13 m13 => ?_⟩
    refine ⟨_, rfl, fun a14 G14 n14 s14 m14 => ?_⟩
    refine ⟨_, rfl, fun a15 G15 n15 s15 m15 => ?_⟩
    refine ⟨(by show 5 ≤ sizeLine; decide), fun l2 h2 => ?_⟩
    have t2 := same_new h2 (o := .lst [.ref a11, .ref a12, .ref a13, .ref a14, .ref a15])
    refine ⟨c1, l2, _, _, rfl, rfl, (t2 _ _ (s15 _ _ (s14 _ _ (s13 _ _ (s12 _ _ (s11 _ _ e1)))))), upd_same, (by show 16 ≤ sizeLine; decide), fun c2 g2 => ?_⟩
    have u2 := same_new g2 (o := .lst [.ref a0, .ref a1, .ref a2, .ref a3, .ref a4, .ref a5, .ref a6, .ref a7, .ref a8, .ref a9, .ref a10, .ref a11, .ref a12, .ref a13, .ref a14, .ref a15])
    have e2 := upd_same (H := upd G15 l2 (.lst [.ref a11, .ref a12, .ref a13, .ref a14, .ref a15])) (a := c2) (o := .lst [.ref a0, .ref a1, .ref a2, .ref a3, .ref a4, .ref a5, .ref a6, .ref a7, .ref a8, .ref a9, .ref a10, .ref a11, .ref a12, .ref a13, .ref a14, .ref a15])
    have sm := ((((((((((((((((((((s0.trans s1).trans s2).trans s3).trans s4).trans s5).trans t0).trans s6).trans s7).trans s8).trans s9).trans s10).trans t1).trans u1).trans s11).trans s12).trans s13).trans s14).trans s15).trans t2).trans u2)
    refine q c2 [a0, a1, a2, a3, a4, a5, a6, a7, a8, a9, a10, a11, a12, a13, a14, a15] _ (((((((((((((((((((((s0.trans s1).trans s2).trans s3).trans s4).trans s5).trans t0).trans s6).trans s7).trans s8).trans s9).trans s10).trans t1).trans u1).trans s11).trans s12).trans s13).trans s14).trans s15).trans t2)).free g2) sm upd_same rfl ?_
    intro k x f a hx hf ha
    match k, hx, hf, ha with
    | 0, hx, hf, ha => cases hx; cases hf; cases ha; exact m0.same (((((((((((((((((((s1.trans s2).trans s3).trans s4).trans s5).trans t0).trans s6).trans s7).trans s8).trans s9).trans s10).trans t1).trans u1).trans s11).trans s12).trans s13).trans s14).trans s15).trans t2).trans u2)
    | 1, hx, hf, ha => cases hx; cases hf; cases ha; exact m1.same ((((((((((((((((((s2.trans s3).trans s4).trans s5).trans t0).trans s6).trans s7).trans s8).trans s9).trans s10).trans t1).trans u1).trans s11).trans s12).trans s13).trans s14).trans s15).trans t2).trans u2)
    | 2, hx, hf, ha => cases hx; cases hf; cases ha; exact m2.same (((((((((((((((((s3.trans s4).trans s5).trans t0).trans s6).trans s7).trans s8).trans s9).trans s10).trans t1).trans u1).trans s11).trans s12).trans s13).trans s14).trans s15).trans t2).trans u2)
    | 3, hx, hf, ha => cases hx; cases hf; cases ha; exact m3.same ((((((((((((((((s4.trans s5).trans t0).trans s6).trans s7).trans s8).trans s9).trans s10).trans t1).trans u1).trans s11).trans s12).trans s13).trans s14).trans s15).trans t2).trans u2)
    | 4, hx, hf, ha => cases hx; cases hf; cases ha; exact m4.same (((((((((((((((s5.trans t0).trans s6).trans s7).trans s8).trans s9).trans s10).trans t1).trans u1).trans s11).trans s12).trans s13).trans s14).trans s15).trans t2).trans u2)
    | 5, hx, hf, ha => cases hx; cases hf; cases ha; exact m5.same ((((((((((((((t0.trans s6).trans s7).trans s8).trans s9).trans s10).trans t1).trans u1).trans s11).trans s12).trans s13).trans s14).trans s15).trans t2).trans u2)
    | 6, hx, hf, ha => cases hx; cases hf; cases ha; exact m6.same ((((((((((((s7.trans s8).trans s9).trans s10).trans t1).trans u1).trans s11).trans s12).trans s13).trans s14).trans s15).trans t2).trans u2)
    | 7, hx, hf, ha => cases hx; cases hf; cases ha; exact m7.same (((((((((((s8.trans s9).trans s10).trans t1).trans u1).trans s11).trans s12).trans s13).trans s14).trans s15).trans t2).trans u2)
    | 8, hx, hf, ha => cases hx; cases hf; cases ha; exact m8.same ((((((((((s9.trans s10).trans t1).trans u1).trans s11).trans s12).trans s13).trans s14).trans s15).trans t2).trans u2)
    | 9, hx, hf, ha => cases hx; cases hf; cases ha; exact m9.same (((((((((s10.trans t1).trans u1).trans s11).trans s12).trans s13).trans s14).trans s15).trans t2).trans u2)
    | 10, hx, hf, ha => cases hx; cases hf; cases ha; exact m10.same ((((((((t1.trans u1).trans s11).trans s12).trans s13).trans s14).trans s15).trans t2).trans u2)
    | 11, hx, hf, ha => cases hx; cases hf; cases ha; exact m11.same (((((s12.trans s13).trans s14).trans s15).trans t2).trans u2)
    | 12, hx, hf, ha => cases hx; cases hf; cases ha; exact m12.same ((((s13.trans s14).trans s15).trans t2).trans u2)
    | 13, hx, hf, ha => cases hx; cases hf; cases ha; exact m13.same (((s14.trans s15).trans t2).trans u2)
    | 14, hx, hf, ha => cases hx; cases hf; cases ha; exact m14.same ((s15.trans t2).trans u2)
    | 15, hx, hf, ha => cases hx; cases hf; cases ha; exact m15.same (t2.trans u2)
    | k + 16, hx, _, _ => cases hx

theorem sc__law_fields : FnScope ["_law_some", "_law_found"] ["_law_some"] (defScope s__law_fields) := ⟨rfl, rfl, rfl, by decide +kernel, rfl, by decide +kernel, by decide +kernel⟩
def spFields (K : PySem.W.Frag) : Sp := fun vs H Q _ => ∃ (l : Addr) (as : List Addr) (v : V), vs = [.ref l] ∧ SqL K H l (as.map V.ref) ∧ as.length = 16 ∧
  (∀ (k : Nat) (x f : Str) (a : Addr), errNames[k]? = some x → errFields[k]? = some f → as[k]? = some a → Made H a (He.ga K x) f v) ∧ ∀ (r : Addr) (H' : Hp), Same H H' → H' r = some (.lst (List.replicate 16 v)) → Q (.ref r) H'
theorem ok__law_fields (T : Txt K mg) : Has P w K mg base CX0 1 "_law_fields" ["_law_some"] [] (spFields K) := by
  refine has0 T.d__law_fields sc__law_fields (fun _ _ _ _ _ _ us hl => match us, hl with | [_], _ => rfl) (fun vs H Q E h => ?_) (fun cv A outer s H vs Q E hg hr h => ?_)
  · obtain ⟨l, as, v, rfl, _⟩ := h
    rfl
  · obtain ⟨l, as, v, rfl, hS, len, made, q⟩ := h
    refine ⟨_, (pss_cons (ps_set (i := 1) sc__law_fields.nd rfl (.inl rfl) (pe_lst (pa_cons (pe_xfV (K := K) rfl (pe_ix (ix_listK (K := K) rfl) (pv 0) pe_int (fun _ _ => rfl))) (pa_cons (pe_xfV (K := K) rfl (pe_ix (ix_listK (K := K) rfl) (pv 0) pe_int (fun _ _ => rfl))) (pa_cons (pe_xfV (K := K) rfl (pe_ix (ix_listK (K := K) rfl) (pv 0) pe_int (fun _ _ => rfl))) (pa_cons (pe_xfV (K := K) rfl (pe_ix (ix_listK (K := K) rfl) (pv 0) pe_int (fun _ _ => rfl))) (pa_cons (pe_xfV (K := K) rfl (pe_ix (ix_listK (K := K) rfl) (pv 0) pe_int (fun _ _ => rfl))) (pa_cons (pe_xfV (K := K) rfl (pe_ix (ix_listK (K := K) rfl) (pv 0) pe_int (fun _ _ => rfl))) (pa_cons (pe_xfV (K := K) rfl (pe_ix (ix_listK (K := K) rfl) (pv 0) pe_int (fun _ _ => rfl))) pa_nil)))))))))
        (pss_cons (ps_set (i := 1) sc__law_fields.nd rfl (.inl rfl) (pe_op op_cat (pv 1) (pe_lst (pa_cons (pe_xfV (K := K) rfl (pe_ix (ix_listK (K := K) rfl) (pv 0) pe_int (fun _ _ => rfl))) (pa_cons (pe_xfV (K := K) rfl (pe_ix (ix_listK (K := K) rfl) (pv 0) pe_int (fun _ _ => rfl))) (pa_cons (pe_xfV (K := K) rfl (pe_ix (ix_listK (K := K) rfl) (pv 0) pe_int (fun _ _ => rfl))) (pa_cons (pe_xfV (K := K) rfl (pe_ix (ix_listK (K := K) rfl) (pv 0) pe_int (fun _ _ => rfl))) (pa_cons (pe_xfV (K := K) rfl (pe_ix (ix_listK (K := K) rfl) (pv 0) pe_int (fun _ _ => rfl))) (pa_cons (pe_xfV (K := K) rfl (pe_ix (ix_listK (K := K) rfl) (pv 0) pe_int (fun _ _ => rfl))) pa_nil)))))))))
        (pss_one (ps_ret (pe_op op_cat (pv 1) (pe_lst (pa_cons (pe_xfV (K := K) rfl (pe_ix (ix_listK (K := K) rfl) (pv 0) pe_int (fun _ _ => rfl))) (pa_cons (pe_xfV (K := K) rfl (pe_ix (ix_listK (K := K) rfl) (pv 0) pe_int (fun _ _ => rfl))) (pa_cons (pe_xfV (K := K) rfl (pe_ix (ix_listK (K := K) rfl) (pv 0) pe_int (fun _ _ => rfl))) pa_nil))))))))), ?_⟩
    match as, len, hS, made with
    | [a0, a1, a2, a3, a4, a5, a6, a7, a8, a9, a10, a11, a12, a13, a14, a15], _, hS, made =>
      have m0 := made 0 _ _ a0 rfl rfl rfl
      have m1 := made 1 _ _ a1 rfl rfl rfl
      have m2 := made 2 _ _ a2 rfl rfl rfl
      have m3 := made 3 _ _ a3 rfl rfl rfl
      have m4 := made 4 _ _ a4 rfl rfl rfl
      have m5 := made 5 _ _ a5 rfl rfl rfl
      have m6 := made 6 _ _ a6 rfl rfl rfl
      have m7 := made 7 _ _ a7 rfl rfl rfl
      have m8 := made 8 _ _ a8 rfl rfl rfl
      have m9 := made 9 _ _ a9 rfl rfl rfl
      have m10 := made 10 _ _ a10 rfl rfl rfl
      have m11 := made 11 _ _ a11 rfl rfl rfl
      have m12 := made 12 _ _ a12 rfl rfl rfl
      have m13 := made 13 _ _ a13 rfl rfl rfl
      have m14 := made 14 _ _ a14 rfl rfl rfl
      have m15 := made 15 _ _ a15 rfl rfl rfl
      refine ⟨.ref l, rfl, l, _, 0, .ref a0, rfl, rfl, hS, atI_nat (j := 0) rfl, a0, _, v, rfl, m0, T.e_BadNumber.c.xf, T.e_BadNumber.n, ?_⟩
      refine ⟨.ref l, rfl, l, _, 1, .ref a1, rfl, rfl, hS, atI_nat (j := 1) rfl, a1, _, v, rfl, m1, T.e_BadValue.c.xf, T.e_BadValue.n, ?_⟩
      refine ⟨.ref l, rfl, l, _, 2, .ref a2, rfl, rfl, hS, atI_nat (j := 2) rfl, a2, _, v, rfl, m2, T.e_WrongByte.c.xf, T.e_WrongByte.n, ?_⟩
      refine ⟨.ref l, rfl, l, _, 3, .ref a3, rfl, rfl, hS, atI_nat (j := 3) rfl, a3, _, v, rfl, m3, T.e_Unfinished.c.xf, T.e_Unfinished.n, ?_⟩
      refine ⟨.ref l, rfl, l, _, 4, .ref a4, rfl, rfl, hS, atI_nat (j := 4) rfl, a4, _, v, rfl, m4, T.e_TooDeep.c.xf, T.e_TooDeep.n, ?_⟩
      refine ⟨.ref l, rfl, l, _, 5, .ref a5, rfl, rfl, hS, atI_nat (j := 5) rfl, a5, _, v, rfl, m5, T.e_BadItem.c.xf, T.e_BadItem.n, ?_⟩
      refine ⟨.ref l, rfl, l, _, 6, .ref a6, rfl, rfl, hS, atI_nat (j := 6) rfl, a6, _, v, rfl, m6, T.e_BadPath.c.xf, T.e_BadPath.n, ?_⟩
      refine ⟨(by show 7 ≤ sizeLine; decide), fun r0 h0 => ?_⟩
      have t0 := same_new h0 (o := .lst [v, v, v, v, v, v, v])
      have e0 := upd_same (H := H) (a := r0) (o := .lst [v, v, v, v, v, v, v])
      refine ⟨.ref r0, rfl, ?_⟩
      refine ⟨.ref l, rfl, l, _, 7, .ref a7, rfl, rfl, (t0).seq hS, atI_nat (j := 7) rfl, a7, _, v, rfl, (m7.same t0), T.e_BadDeed.c.xf, T.e_BadDeed.n, ?_⟩
      refine ⟨.ref l, rfl, l, _, 8, .ref a8, rfl, rfl, (t0).seq hS, atI_nat (j := 8) rfl, a8, _, v, rfl, (m8.same t0), T.e_DuplicateKey.c.xf, T.e_DuplicateKey.n, ?_⟩
      refine ⟨.ref l, rfl, l, _, 9, .ref a9, rfl, rfl, (t0).seq hS, atI_nat (j := 9) rfl, a9, _, v, rfl, (m9.same t0), T.e_BadShape.c.xf, T.e_BadShape.n, ?_⟩
      refine ⟨.ref l, rfl, l, _, 10, .ref a10, rfl, rfl, (t0).seq hS, atI_nat (j := 10) rfl, a10, _, v, rfl, (m10.same t0), T.e_UnknownName.c.xf, T.e_UnknownName.n, ?_⟩
      refine ⟨.ref l, rfl, l, _, 11, .ref a11, rfl, rfl, (t0).seq hS, atI_nat (j := 11) rfl, a11, _, v, rfl, (m11.same t0), T.e_Circular.c.xf, T.e_Circular.n, ?_⟩
      refine ⟨.ref l, rfl, l, _, 12, .ref a12, rfl, rfl, (t0).seq hS, atI_nat (j := 12) rfl, a12, _, v, rfl, (m12.same t0), T.e_Ambiguous.c.xf, T.e_Ambiguous.n, ?_⟩
      refine ⟨(by show 6 ≤ sizeLine; decide), fun r1 h1 => ?_⟩
      have t1 := same_new h1 (o := .lst [v, v, v, v, v, v])
      refine ⟨r0, r1, _, _, rfl, rfl, (t1 _ _ e0), upd_same, (by show 13 ≤ sizeLine; decide), fun c1 g1 => ?_⟩
      have u1 := same_new g1 (o := .lst [v, v, v, v, v, v, v, v, v, v, v, v, v])
      have e1 := upd_same (H := upd (upd H r0 (.lst [v, v, v, v, v, v, v])) r1 (.lst [v, v, v, v, v, v])) (a := c1) (o := .lst [v, v, v, v, v, v, v, v, v, v, v, v, v])
      refine ⟨.ref c1, rfl, ?_⟩
      refine ⟨.ref l, rfl, l, _, 13, .ref a13, rfl, rfl, (((t0.trans t1).trans u1)).seq hS, atI_nat (j := 13) rfl, a13, _, v, rfl, (m13.same ((t0.trans t1).trans u1)), T.e_Barren.c.xf, T.e_Barren.n, ?_⟩
      refine ⟨.ref l, rfl, l, _, 14, .ref a14, rfl, rfl, (((t0.trans t1).trans u1)).seq hS, atI_nat (j := 14) rfl, a14, _, v, rfl, (m14.same ((t0.trans t1).trans u1)), T.e_TooLong.c.xf, T.e_TooLong.n, ?_⟩
      refine ⟨.ref l, rfl, l, _, 15, .ref a15, rfl, rfl, (((t0.trans t1).trans u1)).seq hS, atI_nat (j := 15) rfl, a15, _, v, rfl, (m15.same ((t0.trans t1).trans u1)), T.e_NoDocument.c.xf, T.e_NoDocument.n, ?_⟩
      refine ⟨(by show 3 ≤ sizeLine; decide), fun r2 h2 => ?_⟩
      have t2 := same_new h2 (o := .lst [v, v, v])
      refine ⟨c1, r2, _, _, rfl, rfl, (t2 _ _ e1), upd_same, (by show 16 ≤ sizeLine; decide), fun c2 g2 => ?_⟩
      have u2 := same_new g2 (o := .lst [v, v, v, v, v, v, v, v, v, v, v, v, v, v, v, v])
      have e2 := upd_same (H := upd (upd (upd (upd H r0 (.lst [v, v, v, v, v, v, v])) r1 (.lst [v, v, v, v, v, v])) c1 (.lst [v, v, v, v, v, v, v, v, v, v, v, v, v])) r2 (.lst [v, v, v])) (a := c2) (o := .lst [v, v, v, v, v, v, v, v, v, v, v, v, v, v, v, v])
      exact q c2 _ ((((t0.trans t1).trans u1).trans t2).trans u2) upd_same

theorem sc__law_kinds : FnScope ["_law_e", "_law_found"] ["_law_e"] (defScope s__law_kinds) := ⟨rfl, rfl, rfl, by decide +kernel, rfl, by decide +kernel, by decide +kernel⟩
def spKinds (K : PySem.W.Frag) : Sp := fun vs H Q _ => ∃ (a : Addr) (k : Nat) (x f : Str) (v : V), vs = [.ref a] ∧ errNames[k]? = some x ∧ Made H a (He.ga K x) f v ∧
  ∀ (r : Addr) (H' : Hp), Same H H' → H' r = some (.lst (((List.range 16).map fun j => k == j).map V.bl)) → Q (.ref r) H'
theorem ok__law_kinds (T : Txt K mg) : Has P w K mg base CX0 1 "_law_kinds" ["_law_e"] [] (spKinds K) := by
  refine has0 T.d__law_kinds sc__law_kinds (fun _ _ _ _ _ _ us hl => match us, hl with | [_], _ => rfl) (fun vs H Q E h => ?_) (fun cv A outer s H vs Q E hg hr h => ?_)
  · obtain ⟨a, k, x, f, v, rfl, _⟩ := h
    rfl
  · obtain ⟨a, k, x, f, v, rfl, hx, m, q⟩ := h
    refine ⟨_, (pss_cons (ps_set (i := 1) sc__law_kinds.nd rfl (.inl rfl) (pe_lst (pa_cons (pe_callB (call_isV (K := K) rfl) (by rfl) T.m_isinstance (by decide +kernel) (pa_cons (pv 0) (pa_cons (pe_glob (v := .ref (He.ga K "BadNumber")) (by rfl) T.e_BadNumber.g rfl) pa_nil))) (pa_cons (pe_callB (call_isV (K := K) rfl) (by rfl) T.m_isinstance (by decide +kernel) (pa_cons (pv 0) (pa_cons (pe_glob (v := .ref (He.ga K "BadValue")) (by rfl) T.e_BadValue.g rfl) pa_nil))) (pa_cons (pe_callB (call_isV (K := K) rfl) (by rfl) T.m_isinstance (by decide +kernel) (pa_cons (pv 0) (pa_cons (pe_glob (v := .ref (He.ga K "WrongByte")) (by rfl) T.e_WrongByte.g rfl) pa_nil))) (pa_cons (pe_callB (call_isV (K := K) rfl) (by rfl) T.m_isinstance (by decide +kernel) (pa_cons (pv 0) (pa_cons (pe_glob (v := .ref (He.ga K "Unfinished")) (by rfl) T.e_Unfinished.g rfl) pa_nil))) pa_nil))))))
        (pss_cons (ps_set (i := 1) sc__law_kinds.nd rfl (.inl rfl) (pe_op op_cat (pv 1) (pe_lst (pa_cons (pe_callB (call_isV (K := K) rfl) (by rfl) T.m_isinstance (by decide +kernel) (pa_cons (pv 0) (pa_cons (pe_glob (v := .ref (He.ga K "TooDeep")) (by rfl) T.e_TooDeep.g rfl) pa_nil))) (pa_cons (pe_callB (call_isV (K := K) rfl) (by rfl) T.m_isinstance (by decide +kernel) (pa_cons (pv 0) (pa_cons (pe_glob (v := .ref (He.ga K "BadItem")) (by rfl) T.e_BadItem.g rfl) pa_nil))) (pa_cons (pe_callB (call_isV (K := K) rfl) (by rfl) T.m_isinstance (by decide +kernel) (pa_cons (pv 0) (pa_cons (pe_glob (v := .ref (He.ga K "BadPath")) (by rfl) T.e_BadPath.g rfl) pa_nil))) (pa_cons (pe_callB (call_isV (K := K) rfl) (by rfl) T.m_isinstance (by decide +kernel) (pa_cons (pv 0) (pa_cons (pe_glob (v := .ref (He.ga K "BadDeed")) (by rfl) T.e_BadDeed.g rfl) pa_nil))) pa_nil)))))))
        (pss_cons (ps_set (i := 1) sc__law_kinds.nd rfl (.inl rfl) (pe_op op_cat (pv 1) (pe_lst (pa_cons (pe_callB (call_isV (K := K) rfl) (by rfl) T.m_isinstance (by decide +kernel) (pa_cons (pv 0) (pa_cons (pe_glob (v := .ref (He.ga K "DuplicateKey")) (by rfl) T.e_DuplicateKey.g rfl) pa_nil))) (pa_cons (pe_callB (call_isV (K := K) rfl) (by rfl) T.m_isinstance (by decide +kernel) (pa_cons (pv 0) (pa_cons (pe_glob (v := .ref (He.ga K "BadShape")) (by rfl) T.e_BadShape.g rfl) pa_nil))) (pa_cons (pe_callB (call_isV (K := K) rfl) (by rfl) T.m_isinstance (by decide +kernel) (pa_cons (pv 0) (pa_cons (pe_glob (v := .ref (He.ga K "UnknownName")) (by rfl) T.e_UnknownName.g rfl) pa_nil))) pa_nil))))))
        (pss_cons (ps_set (i := 1) sc__law_kinds.nd rfl (.inl rfl) (pe_op op_cat (pv 1) (pe_lst (pa_cons (pe_callB (call_isV (K := K) rfl) (by rfl) T.m_isinstance (by decide +kernel) (pa_cons (pv 0) (pa_cons (pe_glob (v := .ref (He.ga K "Circular")) (by rfl) T.e_Circular.g rfl) pa_nil))) (pa_cons (pe_callB (call_isV (K := K) rfl) (by rfl) T.m_isinstance (by decide +kernel) (pa_cons (pv 0) (pa_cons (pe_glob (v := .ref (He.ga K "Ambiguous")) (by rfl) T.e_Ambiguous.g rfl) pa_nil))) (pa_cons (pe_callB (call_isV (K := K) rfl) (by rfl) T.m_isinstance (by decide +kernel) (pa_cons (pv 0) (pa_cons (pe_glob (v := .ref (He.ga K "Barren")) (by rfl) T.e_Barren.g rfl) pa_nil))) pa_nil))))))
        (pss_one (ps_ret (pe_op op_cat (pv 1) (pe_lst (pa_cons (pe_callB (call_isV (K := K) rfl) (by rfl) T.m_isinstance (by decide +kernel) (pa_cons (pv 0) (pa_cons (pe_glob (v := .ref (He.ga K "TooLong")) (by rfl) T.e_TooLong.g rfl) pa_nil))) (pa_cons (pe_callB (call_isV (K := K) rfl) (by rfl) T.m_isinstance (by decide +kernel) (pa_cons (pv 0) (pa_cons (pe_glob (v := .ref (He.ga K "NoDocument")) (by rfl) T.e_NoDocument.g rfl) pa_nil))) pa_nil)))))))))), ?_⟩
    obtain ⟨ec, _, _⟩ := over_ok T.x_over hx
    refine ⟨.ref a, rfl, a, _, f, v, _, _, k == 0, rfl, m, ec, .own _, pairs_ok T.x_pairs hx (k := 0) rfl, ?_⟩
    refine ⟨.ref a, rfl, a, _, f, v, _, _, k == 1, rfl, m, ec, .own _, pairs_ok T.x_pairs hx (k := 1) rfl, ?_⟩
    refine ⟨.ref a, rfl, a, _, f, v, _, _, k == 2, rfl, m, ec, .own _, pairs_ok T.x_pairs hx (k := 2) rfl, ?_⟩
    refine ⟨.ref a, rfl, a, _, f, v, _, _, k == 3, rfl, m, ec, .own _, pairs_ok T.x_pairs hx (k := 3) rfl, ?_⟩
    refine ⟨(by show 4 ≤ sizeLine; decide), fun r0 h0 => ?_⟩
    have t0 := same_new h0 (o := .lst [.bl (k == 0), .bl (k == 1), .bl (k == 2), .bl (k == 3)])
    have e0 := upd_same (H := H) (a := r0) (o := .lst [.bl (k == 0), .bl (k == 1), .bl (k == 2), .bl (k == 3)])
    refine ⟨.ref r0, rfl, ?_⟩
    refine ⟨.ref a, rfl, a, _, f, v, _, _, k == 4, rfl, (m.same t0), ec, .own _, pairs_ok T.x_pairs hx (k := 4) rfl, ?_⟩
    refine ⟨.ref a, rfl, a, _, f, v, _, _, k == 5, rfl, (m.same t0), ec, .own _, pairs_ok T.x_pairs hx (k := 5) rfl, ?_⟩
    refine ⟨.ref a, rfl, a, _, f, v, _, _, k == 6, rfl, (m.same t0), ec, .own _, pairs_ok T.x_pairs hx (k := 6) rfl, ?_⟩
    refine ⟨.ref a, rfl, a, _, f, v, _, _, k == 7, rfl, (m.same t0), ec, .own _, pairs_ok T.x_pairs hx (k := 7) rfl, ?_⟩
    refine ⟨(by show 4 ≤ sizeLine; decide), fun r1 h1 => ?_⟩
    have t1 := same_new h1 (o := .lst [.bl (k == 4), .bl (k == 5), .bl (k == 6), .bl (k == 7)])
    refine ⟨r0, r1, _, _, rfl, rfl, (t1 _ _ e0), upd_same, (by show 8 ≤ sizeLine; decide), fun c1 g1 => ?_⟩
    have u1 := same_new g1 (o := .lst [.bl (k == 0), .bl (k == 1), .bl (k == 2), .bl (k == 3), .bl (k == 4), .bl (k == 5), .bl (k == 6), .bl (k == 7)])
    have e1 := upd_same (H := upd (upd H r0 (.lst [.bl (k == 0), .bl (k == 1), .bl (k == 2), .bl (k == 3)])) r1 (.lst [.bl (k == 4), .bl (k == 5), .bl (k == 6), .bl (k == 7)])) (a := c1) (o := .lst [.bl (k == 0), .bl (k == 1), .bl (k == 2), .bl (k == 3), .bl (k == 4), .bl (k == 5), .bl (k == 6), .bl (k == 7)])
    refine ⟨.ref c1, rfl, ?_⟩
    refine ⟨.ref a, rfl, a, _, f, v, _, _, k == 8, rfl, (m.same ((t0.trans t1).trans u1)), ec, .own _, pairs_ok T.x_pairs hx (k := 8) rfl, ?_⟩
    refine ⟨.ref a, rfl, a, _, f, v, _, _, k == 9, rfl, (m.same ((t0.trans t1).trans u1)), ec, .own _, pairs_ok T.x_pairs hx (k := 9) rfl, ?_⟩
    refine ⟨.ref a, rfl, a, _, f, v, _, _, k == 10, rfl, (m.same ((t0.trans t1).trans u1)), ec, .own _, pairs_ok T.x_pairs hx (k := 10) rfl, ?_⟩
    refine ⟨(by show 3 ≤ sizeLine; decide), fun r2 h2 => ?_⟩
    have t2 := same_new h2 (o := .lst [.bl (k == 8), .bl (k == 9), .bl (k == 10)])
    refine ⟨c1, r2, _, _, rfl, rfl, (t2 _ _ e1), upd_same, (by show 11 ≤ sizeLine; decide), fun c2 g2 => ?_⟩
    have u2 := same_new g2 (o := .lst [.bl (k == 0), .bl (k == 1), .bl (k == 2), .bl (k == 3), .bl (k == 4), .bl (k == 5), .bl (k == 6), .bl (k == 7), .bl (k == 8), .bl (k == 9), .bl (k == 10)])
    have e2 := upd_same (H := upd (upd (upd (upd H r0 (.lst [.bl (k == 0), .bl (k == 1), .bl (k == 2), .bl (k == 3)])) r1 (.lst [.bl (k == 4), .bl (k == 5), .bl (k == 6), .bl (k == 7)])) c1 (.lst [.bl (k == 0), .bl (k == 1), .bl (k == 2), .bl (k == 3), .bl (k == 4), .bl (k == 5), .bl (k == 6), .bl (k == 7)])) r2 (.lst [.bl (k == 8), .bl (k == 9), .bl (k == 10)])) (a := c2) (o := .lst [.bl (k == 0), .bl (k == 1), .bl (k == 2), .bl (k == 3), .bl (k == 4), .bl (k == 5), .bl (k == 6), .bl (k == 7), .bl (k == 8), .bl (k == 9), .bl (k == 10)])
    refine ⟨.ref c2, rfl, ?_⟩
    refine ⟨.ref a, rfl, a, _, f, v, _, _, k == 11, rfl, (m.same ((((t0.trans t1).trans u1).trans t2).trans u2)), ec, .own _, pairs_ok T.x_pairs hx (k := 11) rfl, ?_⟩
    refine ⟨.ref a, rfl, a, _, f, v, _, _, k == 12, rfl, (m.same ((((t0.trans t1).trans u1).trans t2).trans u2)), ec, .own _, pairs_ok T.x_pairs hx (k := 12) rfl, ?_⟩
    refine ⟨.ref a, rfl, a, _, f, v, _, _, k == 13, rfl, (m.same ((((t0.trans t1).trans u1).trans t2).trans u2)), ec, .own _, pairs_ok T.x_pairs hx (k := 13) rfl, ?_⟩
    refine ⟨(by show 3 ≤ sizeLine; decide), fun r3 h3 => ?_⟩
    have t3 := same_new h3 (o := .lst [.bl (k == 11), .bl (k == 12), .bl (k == 13)])
    refine ⟨c2, r3, _, _, rfl, rfl, (t3 _ _ e2), upd_same, (by show 14 ≤ sizeLine; decide), fun c3 g3 => ?_⟩
    have u3 := same_new g3 (o := .lst [.bl (k == 0), .bl (k == 1), .bl (k == 2), .bl (k == 3), .bl (k == 4), .bl (k == 5), .bl (k == 6), .bl (k == 7), .bl (k == 8), .bl (k == 9), .bl (k == 10), .bl (k == 11), .bl (k == 12), .bl (k == 13)])
    have e3 := upd_same (H := upd (upd (upd (upd (upd (upd H r0 (.lst [.bl (k == 0), .bl (k == 1), .bl (k == 2), .bl (k == 3)])) r1 (.lst [.bl (k == 4), .bl (k == 5), .bl (k == 6), .bl (k == 7)])) c1 (.lst [.bl (k == 0), .bl (k == 1), .bl (k == 2), .bl (k == 3), .bl (k == 4), .bl (k == 5), .bl (k == 6), .bl (k == 7)])) r2 (.lst [.bl (k == 8), .bl (k == 9), .bl (k == 10)])) c2 (.lst [.bl (k == 0), .bl (k == 1), .bl (k == 2), .bl (k == 3), .bl (k == 4), .bl (k == 5), .bl (k == 6), .bl (k == 7), .bl (k == 8), .bl (k == 9), .bl (k == 10)])) r3 (.lst [.bl (k == 11), .bl (k == 12), .bl (k == 13)])) (a := c3) (o := .lst [.bl (k == 0), .bl (k == 1), .bl (k == 2), .bl (k == 3), .bl (k == 4), .bl (k == 5), .bl (k == 6), .bl (k == 7), .bl (k == 8), .bl (k == 9), .bl (k == 10), .bl (k == 11), .bl (k == 12), .bl (k == 13)])
    refine ⟨.ref c3, rfl, ?_⟩
    refine ⟨.ref a, rfl, a, _, f, v, _, _, k == 14, rfl, (m.same ((((((t0.trans t1).trans u1).trans t2).trans u2).trans t3).trans u3)), ec, .own _, pairs_ok T.x_pairs hx (k := 14) rfl, ?_⟩
    refine ⟨.ref a, rfl, a, _, f, v, _, _, k == 15, rfl, (m.same ((((((t0.trans t1).trans u1).trans t2).trans u2).trans t3).trans u3)), ec, .own _, pairs_ok T.x_pairs hx (k := 15) rfl, ?_⟩
    refine ⟨(by show 2 ≤ sizeLine; decide), fun r4 h4 => ?_⟩
    have t4 := same_new h4 (o := .lst [.bl (k == 14), .bl (k == 15)])
    refine ⟨c3, r4, _, _, rfl, rfl, (t4 _ _ e3), upd_same, (by show 16 ≤ sizeLine; decide), fun c4 g4 => ?_⟩
    have u4 := same_new g4 (o := .lst [.bl (k == 0), .bl (k == 1), .bl (k == 2), .bl (k == 3), .bl (k == 4), .bl (k == 5), .bl (k == 6), .bl (k == 7), .bl (k == 8), .bl (k == 9), .bl (k == 10), .bl (k == 11), .bl (k == 12), .bl (k == 13), .bl (k == 14), .bl (k == 15)])
    have e4 := upd_same (H := upd (upd (upd (upd (upd (upd (upd (upd H r0 (.lst [.bl (k == 0), .bl (k == 1), .bl (k == 2), .bl (k == 3)])) r1 (.lst [.bl (k == 4), .bl (k == 5), .bl (k == 6), .bl (k == 7)])) c1 (.lst [.bl (k == 0), .bl (k == 1), .bl (k == 2), .bl (k == 3), .bl (k == 4), .bl (k == 5), .bl (k == 6), .bl (k == 7)])) r2 (.lst [.bl (k == 8), .bl (k == 9), .bl (k == 10)])) c2 (.lst [.bl (k == 0), .bl (k == 1), .bl (k == 2), .bl (k == 3), .bl (k == 4), .bl (k == 5), .bl (k == 6), .bl (k == 7), .bl (k == 8), .bl (k == 9), .bl (k == 10)])) r3 (.lst [.bl (k == 11), .bl (k == 12), .bl (k == 13)])) c3 (.lst [.bl (k == 0), .bl (k == 1), .bl (k == 2), .bl (k == 3), .bl (k == 4), .bl (k == 5), .bl (k == 6), .bl (k == 7), .bl (k == 8), .bl (k == 9), .bl (k == 10), .bl (k == 11), .bl (k == 12), .bl (k == 13)])) r4 (.lst [.bl (k == 14), .bl (k == 15)])) (a := c4) (o := .lst [.bl (k == 0), .bl (k == 1), .bl (k == 2), .bl (k == 3), .bl (k == 4), .bl (k == 5), .bl (k == 6), .bl (k == 7), .bl (k == 8), .bl (k == 9), .bl (k == 10), .bl (k == 11), .bl (k == 12), .bl (k == 13), .bl (k == 14), .bl (k == 15)])
    exact q c4 _ ((((((((t0.trans t1).trans u1).trans t2).trans u2).trans t3).trans u3).trans t4).trans u4) upd_same

theorem sc_law : FnScope ["_law_script", "_law_at", "_law_bag_here", "_law_field", "_law_some", "_law_k", "_law_place"] ["_law_script"] (defScope s_law) := ⟨rfl, rfl, rfl, by decide +kernel, rfl, by decide +kernel, by decide +kernel⟩
/-- small data -/
structure Slight (K : PySem.W.Frag) (H : Hp) (x : V) (d : PyData) : Prop where
  dp : Dp K H x d
  ok : d.showable = true
  nd : d.hasDict = false
  deep : d.depth ≤ 2
  size : d.shown.length ≤ 1000
theorem Slight.same {K : PySem.W.Frag} {H H' : Hp} {x : V} {d : PyData} (s : Slight K H x d) (e : Same H H') : Slight K H' x d := ⟨Dp.same e d x s.dp, s.ok, s.nd, s.deep, s.size⟩
theorem slight_rep {K : PySem.W.Frag} {H : Hp} {x : V} {d : PyData} (s : Slight K H x d) : ∀ n : Nat, DpAll K H (List.replicate n x) (List.replicate n d) ∧ PyData.showableAll (List.replicate n d) = true ∧ PyData.hasDictAll (List.replicate n d) = false ∧ PyData.depthAll (List.replicate n d) ≤ 2 ∧
    ((PyData.shownAll (List.replicate n d)).map (·.length)).sum ≤ 1000 * n ∧ (PyData.shownAll (List.replicate n d)).length = n
  | 0 => ⟨.nil, rfl, rfl, Nat.zero_le _, Nat.zero_le _, rfl⟩
  | n + 1 => by
    obtain ⟨a, b, c, e, f, g⟩ := slight_rep s n
    refine ⟨.cons s.dp a, ?_, ?_, ?_, ?_, ?_⟩
    · show (PyData.showable d && PyData.showableAll (List.replicate n d)) = true
      rw [s.ok, b]
      rfl
    · show (PyData.hasDict d || PyData.hasDictAll (List.replicate n d)) = false
      rw [s.nd, c]
      rfl
    · show max (PyData.depth d) (PyData.depthAll (List.replicate n d)) ≤ 2
      exact Nat.max_le.mpr ⟨s.deep, e⟩
    · show (PyData.shown d).length + ((PyData.shownAll (List.replicate n d)).map (·.length)).sum ≤ 1000 * (n + 1)
      have := s.size
      omega
    · show (PyData.shownAll (List.replicate n d)).length + 1 = n + 1
      omega
theorem shows_rep {K : PySem.W.Frag} {H : Hp} {x : V} {d : PyData} {l : Addr} (s : Slight K H x d) (h : H l = some (.lst (List.replicate 16 x))) : Shows K H (.ref l) (.list (List.replicate 16 d)) := by
  obtain ⟨a, b, c, e, f, g⟩ := slight_rep s 16
  refine ⟨.lst (SqL.of h) a, b, c, ?_, ?_⟩
  · show PyData.depthAll (List.replicate 16 d) + 1 ≤ 100
    omega
  · have := listText_len_le (PyData.shownAll (List.replicate 16 d))
    show (listText (PyData.shownAll (List.replicate 16 d))).length ≤ sizeLine
    rw [sizeLine_eq]
    omega
theorem slight_int {K : PySem.W.Frag} {H : Hp} {n : Int} (h : n.natAbs.log2 < 200) : Slight K H (.int n) (.int n) :=
  ⟨.int n, decide_eq_true (Nat.lt_trans h (by decide)), rfl, Nat.zero_le _, Nat.le_trans (shown_int (B := 200) (by decide) h) (by decide)⟩
theorem canLay_bools : ∀ bs : List Bool, PyData.canLayAll0 (bs.map PyData.bool) = true
  | [] => rfl
  | b :: bs => by
    show (PyData.canLay0 (.bool b) && PyData.canLayAll0 (bs.map PyData.bool)) = true
    rw [canLay_bools bs]
    rfl
theorem depth_bools : ∀ bs : List Bool, PyData.depthAll (bs.map PyData.bool) = 0
  | [] => rfl
  | b :: bs => by
    show max 0 (PyData.depthAll (bs.map PyData.bool)) = 0
    rw [depth_bools bs]
    rfl
theorem dp_bools {K : PySem.W.Frag} {H : Hp} : ∀ bs : List Bool, DpAll K H (bs.map V.bl) (bs.map PyData.bool)
  | [] => .nil
  | b :: r => .cons (.bl b) (dp_bools r)
theorem ne_bools {K : PySem.W.Frag} {H : Hp} {a b : Addr} {bs : List Bool} {Q : VK} (ha : SqL K H a (bs.map V.bl)) (hb : SqL K H b (bs.map V.bl)) (q : Q (.bl false) H) : rNeD K (.ref a) (.ref b) H Q := by
  have sh : SeqAt.shaped (.list (bs.map PyData.bool)) = true := by
    show (PyData.canLayAll0 (bs.map PyData.bool) && decide (PyData.depthAll (bs.map PyData.bool) + 1 ≤ 64)) = true
    rw [canLay_bools, depth_bools]
    rfl
  refine ⟨_, _, .lst ha (dp_bools bs), .lst hb (dp_bools bs), sh, sh, ?_⟩
  rw [SeqAt.eqv_refl _ (show PyData.canLay0 (.list (bs.map PyData.bool)) = true from canLay_bools bs)]
  exact q
def spLaw (K : PySem.W.Frag) : Sp := fun vs H Q _ => ∃ (a : Addr) (ns : List Int), vs = [.ref a] ∧ SqL K H a (ns.map V.int) ∧ ns.length ≤ 63 ∧ ∀ H', Q (.bl true) H'
theorem ok_law (T : Txt K mg) : Has P w K mg base CX0 4 "law" ["_law_script"] [] (spLaw K) := by
  refine has0 T.d_law sc_law (fun _ _ _ _ _ _ us hl => match us, hl with | [_], _ => rfl) (fun vs H Q E h => ?_) (fun cv A outer s H vs Q E hg hr h => ?_)
  · obtain ⟨a, ns, rfl, _⟩ := h
    rfl
  · obtain ⟨a, ns, rfl, hS, hl, q⟩ := h
    have hrep := rep_of hr
    refine ⟨_, (pss_cons (ps_for PassesOwn.never rfl (pi_range1 (by rfl) T.m_range (pa_cons (pe_callB (call_max2 rfl) (by rfl) T.m_max (by decide +kernel) (pa_cons pe_int (pa_cons (pe_callB (call_lenK (K := K) rfl) (by rfl) T.m_len PySem.boot_len (pa_cons (pe_slice (sl_listK (K := K) rfl) (pv 0) po_none (po_some pe_int)) pa_nil)) pa_nil))) pa_nil)) (pg_name (i := 1) sc_law.nd rfl (.inl rfl))
        (pss_cons (ps_set (i := 2) sc_law.nd rfl (.inl rfl) (pe_fn (ok__law_bag (K := K) T) hg (hr.mono (by decide)) (by rfl) (pa_cons (pv 0) (pa_cons (pv 1) pa_nil))))
        (pss_cons (ps_set (i := 3) sc_law.nd rfl (.inl rfl) (pe_fn (ok__law_of (K := K) T) hg (hr.mono (by decide)) (by rfl) (pa_cons (pv 2) (pa_cons (pe_lst (pa_cons pe_non (pa_cons pe_bl (pa_cons pe_str (pa_cons pe_str (pa_cons (pe_tup (pa_cons pe_int (pa_cons pe_str pa_nil))) (pa_cons (pe_tup pa_nil) (pa_cons (pe_un un_neg pe_int) (pa_cons (pe_op op_pow pe_int pe_int) (pa_cons (pe_fn (ok__law_take T) hg (hr.mono (by decide)) (by rfl) (pa_cons (pv 2) (pa_cons pe_int pa_nil))) pa_nil)))))))))) pa_nil))))
        (pss_cons (ps_set (i := 4) sc_law.nd rfl (.inl rfl) (pe_fn (ok__law_made (K := K) T) hg (hr.mono (by decide)) (by rfl) (pa_cons (pv 3) pa_nil)))
        (pss_cons (ps_if (pt_cmpR op_ne (pe_callB (call_reprK (K := K) rfl hg hrep) (by rfl) T.m_repr (by decide +kernel) (pa_cons (pe_fn (ok__law_fields (K := K) T) hg (hr.mono (by decide)) (by rfl) (pa_cons (pv 4) pa_nil)) pa_nil)) (pe_callB (call_reprK (K := K) rfl hg hrep) (by rfl) T.m_repr (by decide +kernel) (pa_cons (pe_op op_rep (pe_lst (pa_cons (pv 3) pa_nil)) pe_int) pa_nil)) (nomark _))
        (pss_one (ps_ret pe_bl))
        pss_nil)
        (pss_one (ps_for PassesOwn.never rfl (pi_range1 (by rfl) T.m_range (pa_cons pe_int pa_nil)) (pg_name (i := 5) sc_law.nd rfl (.inr rfl))
        (pss_cons (ps_if (pt_cmpR (op_neK (K := K) rfl hr.units) (pe_fn (ok__law_kinds (K := K) T) hg (hr.mono (by decide)) (by rfl) (pa_cons (pe_ix (ix_listK (K := K) rfl) (pv 4) (pv 5) (fun _ _ => rfl)) pa_nil)) (pe_lc (own := [("_law_place", 6)]) (g := gName 6) (tt := tYes) rfl sc_law.nd (pi_range1 (by rfl) T.m_range (pa_cons pe_int pa_nil)) (blkOk_by (own := [("_law_place", 6)]) (N := ["_law_script", "_law_at", "_law_bag_here", "_law_field", "_law_some", "_law_k", "_law_place"]) (sc := defScope s_law) (by decide +kernel)) (fun _ _ _ _ _ => pg_name (i := 6) sc_law.nd rfl (.inl rfl)) (fun _ _ _ _ _ => pts_nil) (fun _ _ _ _ _ => (pe_cmpR op_eq (pv 6) (pv 5) (nomark _)))) (nomark _))
        (pss_one (ps_ret pe_bl))
        pss_nil)
        (pss_one (ps_if (PW.pt (pw_or (pt_not (pt_val (pe_callB (call_isV (K := K) rfl) (by rfl) T.m_isinstance (by decide +kernel) (pa_cons (pe_ix (ix_listK (K := K) rfl) (pv 4) (pv 5) (fun _ _ => rfl)) (pa_cons (pe_glob (v := .ref (He.ga K "ShortestBytesError")) (by rfl) T.e_base.g rfl) pa_nil))))) (pw_or1 (pt_not (pt_val (pe_callB (call_isV (K := K) rfl) (by rfl) T.m_isinstance (by decide +kernel) (pa_cons (pe_ix (ix_listK (K := K) rfl) (pv 4) (pv 5) (fun _ _ => rfl)) (pa_cons (pe_bltn (v := .ty "ValueError") (by rfl) T.m_ValueError (by decide +kernel) rfl) pa_nil))))))))
        (pss_one (ps_ret pe_bl))
        pss_nil))))))))))
        (pss_one (ps_ret pe_bl))), ?_⟩
    refine ⟨.ref a, rfl, 4, rfl, a, _, rfl, hS, fun c hc => ?_⟩
    have few : (cutV (ns.map V.int) none (some 4)).length ≤ 4 := cut_len _ 4
    generalize cutV (ns.map V.int) none (some 4) = cs at few ⊢
    have sm1 : Same H (upd H c (.lst cs)) := same_new hc
    refine ⟨c, cs, rfl, .inl (SqL.of upd_same), 1, _, rfl, _, rfl, ?_, ?_, ?_⟩
    · split <;> omega
    · split <;> omega
    have mx : (if (cs.length : Int) > 1 then (cs.length : Int) else 1) ≤ 4 := by split <;> omega
    generalize (if (cs.length : Int) > 1 then (cs.length : Int) else 1) = mm at mx ⊢
    refine for_range (lo := 0) (n := mm.toNat) (fun _ σ H3 => ∃ y1 y2 y3 y4 y5 y6 : Option V, σ = [some (.ref a), y1, y2, y3, y4, y5, y6] ∧ Same H H3) ⟨_, _, _, _, _, _, rfl, sm1⟩ ?_ ?_
    · rintro i σ H3 hi ⟨y1, y2, y3, y4, y5, y6, rfl, sm3⟩
      refine ⟨.ref a, rfl, .int (0 + i), rfl, a, ns, 0 + i, rfl, sm3.seq hS, by omega, by omega, fun p H4 sm4 np hB => ?_⟩
      have np0 : H p = none := sm3.free np
      -- a field
      refine ⟨.ref p, rfl, (by show 2 ≤ sizeLine; decide), fun t1 ht1 => ⟨(by show 0 ≤ sizeLine; decide), fun t2 ht2 => ?_⟩⟩
      refine ⟨5, rfl, 10, 30, rfl, rfl, ⟨by decide, by decide, by decide⟩, .ref p, rfl, p, 300, _, rfl, by decide, by decide, (hB.new ht1).new ht2, by decide, fun r H5 r0 r1 b5 hB5 => ⟨(by show 9 ≤ sizeLine; decide), fun m hm => ?_⟩⟩
      have nt1 : t1 ≠ p := (hB.ne ht1).symm
      have nt2 : t2 ≠ p := ((hB.new ht1).ne ht2).symm
      have e1 := b5 _ _ nt1 ((same_new ht2 (o := .tup [])) _ _ (upd_same (H := H4) (a := t1) (o := .tup [.int 1, .str "a"])))
      have e2 := b5 _ _ nt2 (upd_same (H := upd H4 t1 (.tup [.int 1, .str "a"])) (a := t2) (o := .tup []))
      have sm5 : Same H H5 := same_but ((sm3.trans sm4).trans ((same_new ht1).trans (same_new ht2))) b5 np0
      refine ⟨p, m, _, _, rfl, hB5.new hm, by decide, (hB5.ne hm).symm, SqL.of upd_same, by show 0 < 9; decide, by show 9 < 1000; decide, fun j v H6 ev b6 hB6 => ?_⟩
      have f1 := b6 _ _ nt1 ((same_new hm) _ _ e1)
      have f2 := b6 _ _ nt2 ((same_new hm) _ _ e2)
      have sm6 : Same H H6 := same_but (sm5.trans (same_new hm)) b6 np0
      have good : ∃ dv, Slight K H6 v dv := by
        match j, ev with
        | 0, ev => cases ev; exact ⟨_, .non, rfl, rfl, Nat.zero_le _, by decide +kernel⟩
        | 1, ev => cases ev; exact ⟨_, .bl true, rfl, rfl, Nat.zero_le _, by decide +kernel⟩
        | 2, ev => cases ev; exact ⟨_, .str _, rfl, rfl, Nat.zero_le _, by decide +kernel⟩
        | 3, ev => cases ev; exact ⟨_, .str _, rfl, rfl, Nat.zero_le _, by decide +kernel⟩
        | 4, ev => cases ev; exact ⟨_, .tup (SqT.of f1) (.cons (.int 1) (.cons (.str _) .nil)), by decide +kernel, rfl, by decide, by decide +kernel⟩
        | 5, ev => cases ev; exact ⟨_, .tup (SqT.of f2) .nil, rfl, rfl, by decide, by decide +kernel⟩
        | 6, ev => cases ev; exact ⟨_, slight_int (by decide +kernel)⟩
        | 7, ev => cases ev; exact ⟨_, slight_int (n := 10 ^ 30) (by decide +kernel)⟩
        | 8, ev =>
          cases ev
          refine ⟨_, slight_int (Nat.lt_of_le_of_lt ?_ (show 9 < 200 by decide))⟩
          by_cases z : r.natAbs = 0
          · rw [z]
            decide
          · have : r.natAbs.log2 < 9 := (Nat.log2_lt z).mpr (by omega)
            omega
        | j + 9, ev => cases ev
      obtain ⟨dv, sv⟩ := good
      -- the errors
      refine ⟨_, rfl, v, rfl, fun l as H7 nl sm7 el len made => ?_⟩
      refine ⟨.ref l, rfl, l, as, v, rfl, SqL.of el, len, made, fun fr H8 sm8 er => ?_⟩
      refine ⟨_, _, rfl, shows_rep ((sv.same sm7).same sm8) er, ?_⟩
      refine ⟨_, rfl, (by show 1 ≤ sizeLine; decide), fun c1 hc1 => ?_⟩
      refine ⟨c1, 16, _, rfl, rfl, upd_same, by decide, by decide, (by show 1 * 16 ≤ sizeLine; decide), fun c2 hc2 => ?_⟩
      have s89 := (same_new hc1 (o := .lst [v])).trans (same_new hc2 (o := .lst (List.replicate (16 : Int).toNat [v]).flatten))
      refine ⟨_, _, rfl, shows_rep (((sv.same sm7).same sm8).same s89) upd_same, rfl, _, rfl, iteNS rfl ?_⟩
      have sm9 : Same H7 (upd (upd H8 c1 (.lst [v])) c2 (.lst (List.replicate (16 : Int).toNat [v]).flatten)) := sm8.trans s89
      refine ⟨16, rfl, by decide, by decide, ?_⟩
      refine for_range (lo := 0) (n := 16) (fun _ σ H' => ∃ y5 y6 : Option V, σ = [some (.ref a), some (.int (0 + i)), some (.ref p), some v, some (.ref l), y5, y6] ∧ Same H7 H') ⟨_, _, rfl, sm9⟩ ?_ ?_
      · rintro k σ H10 hk ⟨z5, z6, rfl, sm10⟩
        obtain ⟨ek, hek⟩ : ∃ e, as[k]? = some e := ⟨_, List.getElem?_eq_getElem (by omega : k < as.length)⟩
        obtain ⟨nk, hnk⟩ : ∃ e, errNames[k]? = some e := ⟨_, List.getElem?_eq_getElem (by rw [names_16]; omega : k < errNames.length)⟩
        obtain ⟨fk, hfk⟩ : ∃ e, errFields[k]? = some e := ⟨_, List.getElem?_eq_getElem (by show k < 16; omega : k < errFields.length)⟩
        have mk := made k nk fk ek hnk hfk hek
        have at0 : atI (as.map V.ref) (0 + (k : Int)) = some (.ref ek) := by
          rw [show (0 : Int) + (k : Int) = ((k : Nat) : Int) by omega]
          exact atI_nat (by rw [List.getElem?_map, hek]; rfl)
        have el10 := sm10 _ _ el
        refine ⟨.ref l, rfl, _, rfl, l, _, _, _, rfl, rfl, SqL.of el10, at0, ?_⟩
        refine ⟨ek, k, nk, fk, v, rfl, hnk, mk.same sm10, fun r H11 sm11 er11 => ?_⟩
        refine ⟨16, rfl, by decide, by decide, fun D hD => ?_⟩
        have sD := same_new hD (o := .lst [])
        refine lc_range (lo := 0) (n := 16) (fun j H' => Same H11 H' ∧ H' D = some (.lst (((List.range j).map fun i => k == i).map V.bl))) ⟨sD, upd_same⟩ ?_ ?_
        · rintro j H12 hj ⟨sm12, eD⟩
          refine ⟨rfl, _, rfl, _, rfl, rfl, _, eD, ?_, same_put sm12 hD, ?_⟩
          · rw [List.length_map, List.length_map, List.length_range]
            exact small1000 (by omega)
          · rw [upd_same, List.range_succ, List.map_append, List.map_append]
            have ee : decide (V.int ((0 : Int) + (j : Int)) = V.int (0 + (k : Int))) = (k == j) := by
              by_cases z : k = j
              · rw [z]
                simp
              · rw [decide_eq_false (fun e => z (by injection e with e; omega)), beq_eq_false_iff_ne.mpr z]
            rw [ee]
            rfl
        · rintro H12 ⟨sm12, eD⟩
          refine ne_bools (SqL.of (sm12 _ _ er11)) (SqL.of eD) ⟨_, rfl, iteF ?_⟩
          obtain ⟨ec, o1, o2⟩ := over_ok T.x_over hnk
          have sm13 := (sm10.trans sm11).trans sm12
          have el13 := sm13 _ _ el
          have m13 := mk.same sm13
          refine ⟨.ref l, rfl, _, rfl, l, _, _, _, rfl, rfl, SqL.of el13, at0, ?_⟩
          refine ⟨ek, _, fk, v, _, _, true, rfl, m13, ec, .own _, o1, ?_⟩
          refine ⟨_, rfl, ?_⟩
          refine iteF ?_
          refine ⟨.ref l, rfl, _, rfl, l, _, _, _, rfl, rfl, SqL.of el13, at0, ?_⟩
          refine ⟨ek, _, fk, v, _, _, true, rfl, m13, ec, .ty "ValueError", o2, _, rfl, iteF ?_⟩
          exact ⟨_, _, rfl, sm13⟩
      · rintro σ H10 ⟨z5, z6, rfl, sm10⟩
        exact ⟨_, _, _, _, _, _, rfl, sm6.trans (sm7.trans sm10)⟩
    · rintro σ H3 ⟨y1, y2, y3, y4, y5, y6, rfl, sm3⟩
      exact q _
theorem law_want (K : PySem.W.Frag) (H : Hp) (a : Addr) (ns : List Int) (hl : ns.length ≤ 63) (_ : ∀ z ∈ ns, Builtin.Int.intBits z ≤ 1048576) (_ : Only H) (hS : SqL K H a (ns.map V.int)) :
    spLaw K [.ref a] H (fun v _ => v = .bl true) fun _ _ _ => False := ⟨a, ns, rfl, hS, hl, fun _ => rfl⟩

end
/-! ### the head -/
def hd__law_take : He.DefD := ⟨("_law_take", none), "_law_take", "_law_take", defArgs s__law_take, defBody s__law_take, defScope s__law_take, [], []⟩
def hd__law_bag : He.DefD := ⟨("_law_bag", none), "_law_bag", "_law_bag", defArgs s__law_bag, defBody s__law_bag, defScope s__law_bag, [], []⟩
def hd__law_of : He.DefD := ⟨("_law_of", none), "_law_of", "_law_of", defArgs s__law_of, defBody s__law_of, defScope s__law_of, [], []⟩
def hd__law_made : He.DefD := ⟨("_law_made", none), "_law_made", "_law_made", defArgs s__law_made, defBody s__law_made, defScope s__law_made, [], []⟩
def hd__law_fields : He.DefD := ⟨("_law_fields", none), "_law_fields", "_law_fields", defArgs s__law_fields, defBody s__law_fields, defScope s__law_fields, [], []⟩
def hd__law_kinds : He.DefD := ⟨("_law_kinds", none), "_law_kinds", "_law_kinds", defArgs s__law_kinds, defBody s__law_kinds, defScope s__law_kinds, [], []⟩
def hd_law : He.DefD := ⟨("law", none), "law", "law", defArgs s_law, defBody s_law, defScope s_law, [], []⟩
def hd_init_BadNumber : He.DefD := ⟨("BadNumber", some "__init__"), "__init__", "BadNumber.__init__", defArgs s_init_BadNumber, defBody s_init_BadNumber, defScope s_init_BadNumber, [], []⟩
def hd_init_BadValue : He.DefD := ⟨("BadValue", some "__init__"), "__init__", "BadValue.__init__", defArgs s_init_BadValue, defBody s_init_BadValue, defScope s_init_BadValue, [], []⟩
def hd_init_WrongByte : He.DefD := ⟨("WrongByte", some "__init__"), "__init__", "WrongByte.__init__", defArgs s_init_WrongByte, defBody s_init_WrongByte, defScope s_init_WrongByte, [], []⟩
def hd_init_Unfinished : He.DefD := ⟨("Unfinished", some "__init__"), "__init__", "Unfinished.__init__", defArgs s_init_Unfinished, defBody s_init_Unfinished, defScope s_init_Unfinished, [], []⟩
def hd_init_TooDeep : He.DefD := ⟨("TooDeep", some "__init__"), "__init__", "TooDeep.__init__", defArgs s_init_TooDeep, defBody s_init_TooDeep, defScope s_init_TooDeep, [], []⟩
def hd_init_BadItem : He.DefD := ⟨("BadItem", some "__init__"), "__init__", "BadItem.__init__", defArgs s_init_BadItem, defBody s_init_BadItem, defScope s_init_BadItem, [], []⟩
def hd_init_BadPath : He.DefD := ⟨("BadPath", some "__init__"), "__init__", "BadPath.__init__", defArgs s_init_BadPath, defBody s_init_BadPath, defScope s_init_BadPath, [], []⟩
def hd_init_BadDeed : He.DefD := ⟨("BadDeed", some "__init__"), "__init__", "BadDeed.__init__", defArgs s_init_BadDeed, defBody s_init_BadDeed, defScope s_init_BadDeed, [], []⟩
def hd_init_DuplicateKey : He.DefD := ⟨("DuplicateKey", some "__init__"), "__init__", "DuplicateKey.__init__", defArgs s_init_DuplicateKey, defBody s_init_DuplicateKey, defScope s_init_DuplicateKey, [], []⟩
def hd_init_BadShape : He.DefD := ⟨("BadShape", some "__init__"), "__init__", "BadShape.__init__", defArgs s_init_BadShape, defBody s_init_BadShape, defScope s_init_BadShape, [], []⟩
def hd_init_UnknownName : He.DefD := ⟨("UnknownName", some "__init__"), "__init__", "UnknownName.__init__", defArgs s_init_UnknownName, defBody s_init_UnknownName, defScope s_init_UnknownName, [], []⟩
def hd_init_Circular : He.DefD := ⟨("Circular", some "__init__"), "__init__", "Circular.__init__", defArgs s_init_Circular, defBody s_init_Circular, defScope s_init_Circular, [], []⟩
def hd_init_Ambiguous : He.DefD := ⟨("Ambiguous", some "__init__"), "__init__", "Ambiguous.__init__", defArgs s_init_Ambiguous, defBody s_init_Ambiguous, defScope s_init_Ambiguous, [], []⟩
def hd_init_Barren : He.DefD := ⟨("Barren", some "__init__"), "__init__", "Barren.__init__", defArgs s_init_Barren, defBody s_init_Barren, defScope s_init_Barren, [], []⟩
def hd_init_TooLong : He.DefD := ⟨("TooLong", some "__init__"), "__init__", "TooLong.__init__", defArgs s_init_TooLong, defBody s_init_TooLong, defScope s_init_TooLong, [], []⟩
def hd_init_NoDocument : He.DefD := ⟨("NoDocument", some "__init__"), "__init__", "NoDocument.__init__", defArgs s_init_NoDocument, defBody s_init_NoDocument, defScope s_init_NoDocument, [], []⟩
def hfn : List He.DefD := ([hd__law_take, hd__law_bag, hd__law_of, hd__law_made, hd__law_fields, hd__law_kinds, hd_law, hd_init_BadNumber, hd_init_BadValue, hd_init_WrongByte, hd_init_Unfinished, hd_init_TooDeep, hd_init_BadItem, hd_init_BadPath, hd_init_BadDeed, hd_init_DuplicateKey, hd_init_BadShape, hd_init_UnknownName, hd_init_Circular, hd_init_Ambiguous] : List He.DefD) ++ ([hd_init_Barren, hd_init_TooLong, hd_init_NoDocument] : List He.DefD)
def hf_0 : Fb := fun K => (He.Fa.glo "_law_take").ok K
def hf_1 : Fb := fun K => (He.Fa.glo "_law_bag").ok K
def hf_2 : Fb := fun K => (He.Fa.glo "_law_of").ok K
def hf_3 : Fb := fun K => (He.Fa.glo "_law_made").ok K
def hf_4 : Fb := fun K => (He.Fa.glo "_law_fields").ok K
def hf_5 : Fb := fun K => (He.Fa.glo "_law_kinds").ok K
def hf_6 : Fb := fun K => (He.Fa.glo "law").ok K
def hf_7 : Fb := fun K => (He.Fa.free "ValueError").ok K
def hf_8 : Fb := fun K => (He.Fa.free "abs").ok K
def hf_9 : Fb := fun K => (He.Fa.free "int").ok K
def hf_10 : Fb := fun K => (He.Fa.free "isinstance").ok K
def hf_11 : Fb := fun K => (He.Fa.free "len").ok K
def hf_12 : Fb := fun K => (He.Fa.free "max").ok K
def hf_13 : Fb := fun K => (He.Fa.free "range").ok K
def hf_14 : Fb := fun K => (He.Fa.free "repr").ok K
def hf_15 : Fb := fun K => baseAtB K "ShortestBytesError"
def hf_16 : Fb := fun K => errAtB K "BadNumber" "number"
def hf_17 : Fb := fun K => errAtB K "BadValue" "path"
def hf_18 : Fb := fun K => errAtB K "WrongByte" "at"
def hf_19 : Fb := fun K => errAtB K "Unfinished" "at"
def hf_20 : Fb := fun K => errAtB K "TooDeep" "reached"
def hf_21 : Fb := fun K => errAtB K "BadItem" "at"
def hf_22 : Fb := fun K => errAtB K "BadPath" "at"
def hf_23 : Fb := fun K => errAtB K "BadDeed" "at"
def hf_24 : Fb := fun K => errAtB K "DuplicateKey" "at"
def hf_25 : Fb := fun K => errAtB K "BadShape" "word"
def hf_26 : Fb := fun K => errAtB K "UnknownName" "name"
def hf_27 : Fb := fun K => errAtB K "Circular" "name"
def hf_28 : Fb := fun K => errAtB K "Ambiguous" "name"
def hf_29 : Fb := fun K => errAtB K "Barren" "name"
def hf_30 : Fb := fun K => errAtB K "TooLong" "debt"
def hf_31 : Fb := fun K => errAtB K "NoDocument" "number"
def hf_32 : Fb := fun K => pairsB K
def hf_33 : Fb := fun K => overB K
def hfa : List Fb := ([hf_0, hf_1, hf_2, hf_3, hf_4, hf_5, hf_6, hf_7, hf_8, hf_9, hf_10, hf_11, hf_12, hf_13, hf_14, hf_15, hf_16, hf_17, hf_18, hf_19] : List Fb) ++ ([hf_20, hf_21, hf_22, hf_23, hf_24, hf_25, hf_26, hf_27, hf_28, hf_29, hf_30, hf_31, hf_32, hf_33] : List Fb)
abbrev hR : PySem.W.OpenRow := PySem.W.OpenLaw.row PySem.Challenge.rw_shortestbytes_k15_errors_made
abbrev hhk : PySem.W.Hook := hookF 6 hfa hfn
def hob (s : PySem.W.SharedT) : He.AlD := lookF 6 hfa hfn (HandSHeadRun.getT s)
theorem hob_eq (s : PySem.W.SharedT) : hob s = hhk.obs s.abs := lookF_eq (HandSHeadRun.getT_eq s)
def hloose : List Str := (["ShortestBytesError", "BadNumber", "BadValue", "WrongByte", "Unfinished", "TooDeep", "BadItem", "BadPath", "BadDeed", "DuplicateKey", "BadShape", "UnknownName", "Circular", "Ambiguous", "Barren", "TooLong", "NoDocument", "_law_bag", "_law_take", "_law_of", "_law_made", "_law_fields", "_law_kinds"] : List Str)
theorem hrun (w : World) : HandSHeadRun.RunEq hR (PySem.W.view hR.prog [25]) hhk hob 6000 hloose w := by
  intro os
  kernel_rfl
theorem txt_of {K : PySem.W.Frag} {h : Heap} {mg : Str → Option Value} (X : K.In h) (G : h.Ns mainGlobals mg) (c : SaysF hfa hfn K) : Txt K mg where
  d__law_take := ⟨He.glo_ok X G (c.fact 0 (f := hf_0) rfl), c.def_ 0 (d := hd__law_take) rfl⟩
  d__law_bag := ⟨He.glo_ok X G (c.fact 1 (f := hf_1) rfl), c.def_ 1 (d := hd__law_bag) rfl⟩
  d__law_of := ⟨He.glo_ok X G (c.fact 2 (f := hf_2) rfl), c.def_ 2 (d := hd__law_of) rfl⟩
  d__law_made := ⟨He.glo_ok X G (c.fact 3 (f := hf_3) rfl), c.def_ 3 (d := hd__law_made) rfl⟩
  d__law_fields := ⟨He.glo_ok X G (c.fact 4 (f := hf_4) rfl), c.def_ 4 (d := hd__law_fields) rfl⟩
  d__law_kinds := ⟨He.glo_ok X G (c.fact 5 (f := hf_5) rfl), c.def_ 5 (d := hd__law_kinds) rfl⟩
  d_law := ⟨He.glo_ok X G (c.fact 6 (f := hf_6) rfl), c.def_ 6 (d := hd_law) rfl⟩
  m_ValueError := He.free_ok X G (c.fact 7 (f := hf_7) rfl)
  m_abs := He.free_ok X G (c.fact 8 (f := hf_8) rfl)
  m_int := He.free_ok X G (c.fact 9 (f := hf_9) rfl)
  m_isinstance := He.free_ok X G (c.fact 10 (f := hf_10) rfl)
  m_len := He.free_ok X G (c.fact 11 (f := hf_11) rfl)
  m_max := He.free_ok X G (c.fact 12 (f := hf_12) rfl)
  m_range := He.free_ok X G (c.fact 13 (f := hf_13) rfl)
  m_repr := He.free_ok X G (c.fact 14 (f := hf_14) rfl)
  e_base := baseAt_ok X G (c.fact 15 (f := hf_15) rfl)
  e_BadNumber := errAt_ok X G (c.fact 16 (f := hf_16) rfl) (c.def_ 7 (d := hd_init_BadNumber) rfl)
  e_BadValue := errAt_ok X G (c.fact 17 (f := hf_17) rfl) (c.def_ 8 (d := hd_init_BadValue) rfl)
  e_WrongByte := errAt_ok X G (c.fact 18 (f := hf_18) rfl) (c.def_ 9 (d := hd_init_WrongByte) rfl)
  e_Unfinished := errAt_ok X G (c.fact 19 (f := hf_19) rfl) (c.def_ 10 (d := hd_init_Unfinished) rfl)
  e_TooDeep := errAt_ok X G (c.fact 20 (f := hf_20) rfl) (c.def_ 11 (d := hd_init_TooDeep) rfl)
  e_BadItem := errAt_ok X G (c.fact 21 (f := hf_21) rfl) (c.def_ 12 (d := hd_init_BadItem) rfl)
  e_BadPath := errAt_ok X G (c.fact 22 (f := hf_22) rfl) (c.def_ 13 (d := hd_init_BadPath) rfl)
  e_BadDeed := errAt_ok X G (c.fact 23 (f := hf_23) rfl) (c.def_ 14 (d := hd_init_BadDeed) rfl)
  e_DuplicateKey := errAt_ok X G (c.fact 24 (f := hf_24) rfl) (c.def_ 15 (d := hd_init_DuplicateKey) rfl)
  e_BadShape := errAt_ok X G (c.fact 25 (f := hf_25) rfl) (c.def_ 16 (d := hd_init_BadShape) rfl)
  e_UnknownName := errAt_ok X G (c.fact 26 (f := hf_26) rfl) (c.def_ 17 (d := hd_init_UnknownName) rfl)
  e_Circular := errAt_ok X G (c.fact 27 (f := hf_27) rfl) (c.def_ 18 (d := hd_init_Circular) rfl)
  e_Ambiguous := errAt_ok X G (c.fact 28 (f := hf_28) rfl) (c.def_ 19 (d := hd_init_Ambiguous) rfl)
  e_Barren := errAt_ok X G (c.fact 29 (f := hf_29) rfl) (c.def_ 20 (d := hd_init_Barren) rfl)
  e_TooLong := errAt_ok X G (c.fact 30 (f := hf_30) rfl) (c.def_ 21 (d := hd_init_TooLong) rfl)
  e_NoDocument := errAt_ok X G (c.fact 31 (f := hf_31) rfl) (c.def_ 22 (d := hd_init_NoDocument) rfl)
  x_pairs := (c.fact 32 (f := hf_32) rfl)
  x_over := (c.fact 33 (f := hf_33) rfl)
end Sb
open PySem PySem.W PySem.Calls PyProof.Rows
set_option maxRecDepth 100000 in
set_option maxHeartbeats 8000000 in
theorem PySem.Challenge.cw_shortestbytes_k15_errors_made_holds : PySem.Challenge.rw_shortestbytes_k15_errors_made.Holds := by
  w_on; o_law
  refine HandSHeadRun.head_any (r := OpenLaw.row PySem.Challenge.rw_shortestbytes_k15_errors_made) (q := view (OpenLaw.row PySem.Challenge.rw_shortestbytes_k15_errors_made).prog [25]) (H := Sb.hhk) (ob := Sb.hob) (M := 6000) (loose := Sb.hloose) (d := HandSHeadRun.topDef (OpenLaw.row PySem.Challenge.rw_shortestbytes_k15_errors_made).prog 25) (kwd := []) Sb.hob_eq
    (by kernel_rfl) (fun s => by kernel_rfl) Sb.hrun (by kernel_rfl) (by kernel_rfl) (by kernel_rfl) (by rfl) (by first | assumption | decide +kernel) (by decide +kernel) ⟨rfl, rfl, rfl, rfl, rfl, by decide +kernel⟩ ?hw ?hc
  case hw => w_witness2
  case hc =>
    refine Sb.walk_ofG (l := PySem.Challenge.rw_shortestbytes_k15_errors_made) (n := 63) (k := 4) (x := "_law_script") (nm := "law") (CX := fun w => L2.CX0) rfl (by decide) (by kernel_rfl) (by kernel_rfl) ⟨rfl, by decide, by decide⟩ ?F (fun _ _ _ _ _ z => z)
    intro w mg h Y G
    obtain ⟨K, KX, c⟩ := Y
    exact ⟨K, Sb.spLaw K, KX, Sb.law_want K, fun base _ _ => Sb.ok_law (Sb.txt_of KX G c)⟩
#print axioms PySem.Challenge.cw_shortestbytes_k15_errors_made_holds
