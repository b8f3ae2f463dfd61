import PyProof.Rows.All
import Wide.All
import OpenK.AllK
import Wide.FinOn
import PySem.Challenge.RW_shortestbytes_k03_wrong_codes
import HandS.ForMost
import HandS.ForExc
import HandS.EndBits
import HandS.IsInst
import HandS.RaiseMore
import HandS.Defaults
import HandS.HeadHook2
import HandS.Head2
import HandS.ExcInit
import HandS.ExcField
import HandS.CallSlots
import HandS.TryMany
import HandS.ExcIs
import KE.KExcIs
import KE.DataCmp
import HandS.Codes
set_option Elab.async false
set_option linter.all false
set_option maxRecDepth 100000
set_option maxHeartbeats 4000000
/-! Sb, part G: contracts of defs that may call repr (they are called while no repr is under way); repr of data; the end of a law over such contracts. -/
namespace Sb
open PySem PySem.Spec PyProof.Rows L2

/-- no repr is under way -/
abbrev Still (A : Around) : Prop := A.guards = some []

section
variable {P : Program} {w : World} {K : PySem.W.Frag} {mg : Str → Option Value} {base : Heap} {CX : CXT} {f : Addr} {fd : FuncData} {ps : List Str} {sp : Sp}

/-- one call of a def of the text, from what its body does in this very surrounding -/
theorem entered {A : Around} {k : Nat} {outer : List Env} {s : Shared} {H : Hp} {args : Args} {us : List Value} {vs : List V} {Q : VK} {E : XK}
    {nm qn : Str} {pars : Arguments} {bd : List Stmt} {sco : Scope} {dV kV dc pm cv ct oc : Value} {an od : Option Addr} {sl : Array (Option Value)} {N : List Str} {t : TS}
    (at_ : K.lookup f = some ⟨oc, od, .func (PySem.W.fnOf nm qn pars bd sco dV kV dc pm an cv ct), sl⟩)
    (cod : PySem.W.codeIn K cv qn = true) (S : FnScope N ps sco) (n : vs.length = ps.length) (room : Room (k + 1) A)
    (env : Env0 P w K mg base A outer s H) (bnd : BindsTo s (PySem.W.fnOf nm qn pars bd sco dV kV dc pm an cv ct) args (ps.zip us)) (rv : Vals vs us)
    (walk : PSs (cxOf CX P w K mg base N qn sco f cv A outer s H E) bd t)
    (read : t { nx := fun _ H' => Q .non H', rt := Q } (start N vs) H) :
    codeAny (model P w) A (.call (.ref f) args) -- what the call does
      (CR CX outer P w H s Q E) s := by
  have old : ∀ b o, base.get? b = some o → s.heap.get? b = some o := fun b o e => (env.bs b o e).1
  have kin := env.mod.kin.keeps old
  have slotOk : ∀ y ∈ ps.zip us, sco.names.lookup y.1 = some .local ∨
      (sco.names.lookup y.1 = some .cell ∧ ((cellsFrom (s.heap.objs.size + 1) sco.names []).lookup y.1).isSome = true) := by
    rintro ⟨x, v⟩ m
    exact (S.par x (List.of_mem_zip m).1).imp id fun c => ⟨c, PySem.W.cellsFrom_some _ _ _ (.inl c)⟩
  apply codeAny_call_function room.depth (kin _ _ at_) rfl S.co S.gen rfl (PySem.W.codeRec_of kin cod)
  apply bnd
  apply wpAny_newFunctionEnv_cells S.kind slotOk
  rintro _ rfl s1 x
  refine ⟨(env.mod.nolimit.keeps old).keeps x.toInCall.keep, codeAny_func ?_⟩
  refine wpAny_mono (walk.run [] s1 (start N vs) H _ (inv_start S room.hd env n rv x) read) ?_ fun _ _ z => z
  intro fl s' z
  match fl, z with
  | .ret u, ⟨v, _, H', J, r, q⟩ => exact ⟨v, H', J.os, J.bare, J.base, J.hok, r, q⟩
  | .next, ⟨_, H', J, q⟩ => exact ⟨.non, H', J.os, J.bare, J.base, J.hok, rfl, q⟩
  | .brk, ⟨_, _, _, q⟩ => exact q.elim
  | .cont, ⟨_, _, _, q⟩ => exact q.elim

/-- the contract of a def that is called while no repr is under way -/
structure FnG (P : Program) (w : World) (K : PySem.W.Frag) (mg : Str → Option Value) (base : Heap) (CX : CXT) (k : Nat) (f : Addr) (fd : FuncData) (ps : List Str) (sp : Sp) : Prop where
  many : ∀ vs H Q E, sp vs H Q E → vs.length = ps.length
  does : ∀ (A : Around) (outer : List Env) (s : Shared) (H : Hp) (args : Args) (us : List Value) (vs : List V) (Q : VK) (E : XK),
    Still A → Room k A → Env0 P w K mg base A outer s H → BindsTo s fd args (ps.zip us) → Vals vs us → sp vs H Q E →
      codeAny (model P w) A (.call (.ref f) args)
        (CR CX outer P w H s Q E) s
theorem FnG.of {k : Nat} (F : FnOk P w K mg base CX k f fd ps sp) : FnG P w K mg base CX k f fd ps sp :=
  ⟨F.len, fun A o s H as us vs Q E _ => F.run A o s H as us vs Q E⟩
theorem FnG.up {j k : Nat} (F : FnG P w K mg base CX j f fd ps sp) (h : j ≤ k) : FnG P w K mg base CX k f fd ps sp :=
  ⟨F.many, fun A o s H as us vs Q E g r => F.does A o s H as us vs Q E g (r.mono h)⟩
theorem FnG.weak {k : Nat} {sp' : Sp} (F : FnG P w K mg base CX k f fd ps sp) (h : ∀ vs H Q E, sp' vs H Q E → sp vs H Q E) : FnG P w K mg base CX k f fd ps sp' :=
  ⟨fun vs H Q E q => F.many vs H Q E (h _ _ _ _ q), fun A o s H as us vs Q E g r e b v q => F.does A o s H as us vs Q E g r e b v (h _ _ _ _ q)⟩

/-- a def that lets no exception out -/
theorem okG {x qn : Str} {pars : Arguments} {bd : List Stmt} {sco : Scope} {dvs : List V} {kws : List (Str × V)} {N : List Str} {k : Nat} (F : FunD K x qn pars bd sco dvs kws f fd) (S : FnScope N ps sco) (many : ∀ vs H Q E, sp vs H Q E → vs.length = ps.length)
    (does : ∀ (cv : Value) (A : Around) (outer : List Env) (s : Shared) (H : Hp) (vs : List V) (Q : VK) (E : XK), Still A → Room k (A.deeper (envOfC qn sco s.heap.objs.size f cv)) → sp vs H Q E →
      ∃ t, PSs (cxOf CX0 P w K mg base N qn sco f cv A outer s H E).nox bd t ∧ t { nx := fun _ H' => Q .non H', rt := Q } (start N vs) H) :
    FnG P w K mg base CX0 (k + 1) f fd ps sp := by
  obtain ⟨_, _, _, _, _, _, _, cv, _, _, rfl, at_, cod, _, _⟩ := F.ex
  refine ⟨many, fun A outer s H args us vs Q E g room env bnd rv h => ?_⟩
  obtain ⟨t, ht, q⟩ := does cv A outer s H vs Q E g (room.deeper _) h
  exact entered at_ cod S (many _ _ _ _ h) room env bnd rv ht.nox q
/-- a def that may raise -/
theorem okXG {x qn : Str} {pars : Arguments} {bd : List Stmt} {sco : Scope} {dvs : List V} {kws : List (Str × V)} {N : List Str} {k : Nat} (F : FunD K x qn pars bd sco dvs kws f fd) (S : FnScope N ps sco) (many : ∀ vs H Q E, sp vs H Q E → vs.length = ps.length)
    (does : ∀ (cv : Value) (A : Around) (outer : List Env) (s : Shared) (H : Hp) (vs : List V) (Q : VK) (E : XK), Still A → Room k (A.deeper (envOfC qn sco s.heap.objs.size f cv)) → sp vs H Q E →
      ∃ t, PSs (cxOf (L2.CX P w) P w K mg base N qn sco f cv A outer s H E) bd t ∧ t { nx := fun _ H' => Q .non H', rt := Q } (start N vs) H) :
    FnG P w K mg base (L2.CX P w) (k + 1) f fd ps sp := by
  obtain ⟨_, _, _, _, _, _, _, cv, _, _, rfl, at_, cod, _, _⟩ := F.ex
  refine ⟨many, fun A outer s H args us vs Q E g room env bnd rv h => ?_⟩
  obtain ⟨t, ht, q⟩ := does cv A outer s H vs Q E g (room.deeper _) h
  exact entered at_ cod S (many _ _ _ _ h) room env bnd rv ht q
end

section
variable {X : Cx} {CX : CXT} {k : Nat} {f : Addr} {fd : FuncData} {ps : List Str} {sp : Sp} {dvs : List V} {ds : List Value} {E : XK}
/-- such a def is called -/
theorem called {pins : List (Addr × Obj)} {σ : L2.St} {H : Hp} {s : Shared} {Q : VK} {us : List Value} {vs : List V} (F : FnG X.prog X.w X.K X.mg X.base CX k f fd ps sp) (g : Still X.A) (room : Room k X.A)
    (bnd : Binds X.K fd ps ds) (dv : Vals dvs ds) (px : Passes CX X E) (I : Inv X pins σ H s) (rv : Vals vs us) (h : sp (vs ++ dvs) H Q E) :
    wpAny (model X.prog X.w) X.A (call (.ref f) us)
      (EP X pins σ Q) X.xe s := by
  have all := rv.append dv
  have n : (us ++ ds).length = ps.length := all.length.symm.trans (F.many _ _ _ _ h)
  refine wpAny_call (codeAny_mono (F.does X.A X.stack s H ⟨us, []⟩ _ _ Q E g room I.env0 (bnd s us I.kIn n) all h) ?_)
  intro r s' z
  match r, z with
  | .error e, z => exact px pins σ H s e s' I z
  | .ok (.ret u), z => exact I.after z
  | .ok .next, z => exact z.elim
  | .ok .brk, z => exact z.elim
  | .ok .cont, z => exact z.elim
theorem pe_callG {x : Str} {p pos : Pos} {e : Expr} {es : List Expr} {t : TA} (F : FnG X.prog X.w X.K X.mg X.base CX k f fd ps sp) (g : Still X.A) (room : Room k X.A) (gl : Gl X x) (isf : X.mg x = some (.ref f))
    (kp : PySem.W.keepIn X.K (.ref f) = true) (bnd : Binds X.K fd ps ds) (dv : Vals dvs ds) (px : Passes CX X E) (as : PA X (e :: es) t)
    (nd : (x == ("__debug__" : Str)) = false := by decide) (st : starEach (e :: es) X.env = (false, eval e X.env) :: starEach es X.env := by rfl) (pl : (backTo pos (starEach es X.env)).any (·.1) = false := by rfl) :
    PE X (.Call (.Name x p) (e :: es) [] pos) (tCall sp dvs E t) :=
  ⟨fun pins s σ H Q I h => wpAny_Call_Name_kw (ld_glob I gl isf (PySem.W.callWith_K (h₀ := X.base) I.ok.mod.kin kp
    (thn (as.run pos pins s σ H _ I h) fun _ _ ⟨_, _, J, r, q⟩ => ⟨J.kIn, called F g room bnd dv px J r q⟩) st pl) nd)⟩
end

/-! ### a def by its name -/
/-- what the head says of a def of the module: its name and its object; dvs: its defaults -/
structure DefAt (K : PySem.W.Frag) (mg : Str → Option Value) (x : Str) (st : Stmt) (dvs : List V) : Prop where
  g : mg x = some (.ref (He.ga K x))
  F : ∃ fd, FunD K x x (defArgs st) (defBody st) (defScope st) dvs [] (He.ga K x) fd
/-- the module's name x is a def with this contract; the last dvs of its parameters are filled by defaults -/
def Has (P : Program) (w : World) (K : PySem.W.Frag) (mg : Str → Option Value) (base : Heap) (CX : CXT) (k : Nat) (x : Str) (ps : List Str) (dvs : List V) (sp : Sp) : Prop :=
  ∃ (f : Addr) (fd : FuncData) (ds : List Value), FnG P w K mg base CX k f fd ps sp ∧ mg x = some (.ref f) ∧ PySem.W.keepIn K (.ref f) = true ∧ Binds K fd ps ds ∧ Vals dvs ds
section
variable {P : Program} {w : World} {K : PySem.W.Frag} {mg : Str → Option Value} {base : Heap} {k : Nat} {x : Str} {st : Stmt} {ps N : List Str} {sp : Sp}
theorem Has.up {j : Nat} {CX : CXT} {dvs : List V} (h : Has P w K mg base CX j x ps dvs sp) (le : j ≤ k) : Has P w K mg base CX k x ps dvs sp := by
  obtain ⟨f, fd, ds, F, r⟩ := h
  exact ⟨f, fd, ds, F.up le, r⟩
theorem Has.weak {CX : CXT} {dvs : List V} {sp' : Sp} (h : Has P w K mg base CX k x ps dvs sp) (le : ∀ vs H Q E, sp' vs H Q E → sp vs H Q E) : Has P w K mg base CX k x ps dvs sp' := by
  obtain ⟨f, fd, ds, F, r⟩ := h
  exact ⟨f, fd, ds, F.weak le, r⟩
/-- a def without defaults that lets no exception out -/
theorem has0 (D : DefAt K mg x st []) (S : FnScope N ps (defScope st))
    (bnd : ∀ (kV doc pm : Value) (an : Option Addr) (cdv ct : Value) (us : List Value), us.length = ps.length →
      bindArgs (PySem.W.fnOf x x (defArgs st) (defBody st) (defScope st) .none kV doc pm an cdv ct) ⟨us, []⟩ = pure (ps.zip us))
    (many : ∀ vs H Q E, sp vs H Q E → vs.length = ps.length)
    (does : ∀ (cv : Value) (A : Around) (outer : List Env) (s : Shared) (H : Hp) (vs : List V) (Q : VK) (E : XK), Still A → Room k (A.deeper (envOfC x (defScope st) s.heap.objs.size (He.ga K x) cv)) → sp vs H Q E →
      ∃ t, PSs (cxOf CX0 P w K mg base N x (defScope st) (He.ga K x) cv A outer s H E).nox (defBody st) t ∧ t { nx := fun _ H' => Q .non H', rt := Q } (start N vs) H) :
    Has P w K mg base CX0 (k + 1) x ps [] sp := by
  obtain ⟨fd, F⟩ := D.F
  exact ⟨_, fd, [], okG F S many does, D.g, F.kp, F.bindsN bnd, .nil⟩
/-- the same of a def that may raise -/
theorem hasX (D : DefAt K mg x st []) (S : FnScope N ps (defScope st))
    (bnd : ∀ (kV doc pm : Value) (an : Option Addr) (cdv ct : Value) (us : List Value), us.length = ps.length →
      bindArgs (PySem.W.fnOf x x (defArgs st) (defBody st) (defScope st) .none kV doc pm an cdv ct) ⟨us, []⟩ = pure (ps.zip us))
    (many : ∀ vs H Q E, sp vs H Q E → vs.length = ps.length)
    (does : ∀ (cv : Value) (A : Around) (outer : List Env) (s : Shared) (H : Hp) (vs : List V) (Q : VK) (E : XK), Still A → Room k (A.deeper (envOfC x (defScope st) s.heap.objs.size (He.ga K x) cv)) → sp vs H Q E →
      ∃ t, PSs (cxOf (L2.CX P w) P w K mg base N x (defScope st) (He.ga K x) cv A outer s H E) (defBody st) t ∧ t { nx := fun _ H' => Q .non H', rt := Q } (start N vs) H) :
    Has P w K mg base (L2.CX P w) (k + 1) x ps [] sp := by
  obtain ⟨fd, F⟩ := D.F
  exact ⟨_, fd, [], okXG F S many does, D.g, F.kp, F.bindsN bnd, .nil⟩
end
section
variable {X : Cx} {CX : CXT} {k : Nat} {ps : List Str} {sp : Sp} {dvs : List V} {E : XK} {x : Str} {p pos : Pos} {e : Expr} {es : List Expr} {t : TA}
/-- f(e, ..); px: where what it raises goes -/
theorem pe_fnX (C : Has X.prog X.w X.K X.mg X.base CX k x ps dvs sp) (px : Passes CX X E) (g : Still X.A) (room : Room k X.A) (gl : Gl X x) (as : PA X (e :: es) t)
    (nd : (x == ("__debug__" : Str)) = false := by decide) (st : starEach (e :: es) X.env = (false, eval e X.env) :: starEach es X.env := by rfl) (pl : (backTo pos (starEach es X.env)).any (·.1) = false := by rfl) :
    PE X (.Call (.Name x p) (e :: es) [] pos) (tCall sp dvs E t) := by
  obtain ⟨f, fd, ds, F, isf, kp, bnd, dv⟩ := C
  exact pe_callG F g room gl isf kp bnd dv px as nd st pl
/-- f(e, ..) of a def that lets no exception out -/
theorem pe_fn (C : Has X.prog X.w X.K X.mg X.base CX0 k x ps dvs sp) (g : Still X.A) (room : Room k X.A) (gl : Gl X x) (as : PA X (e :: es) t)
    (nd : (x == ("__debug__" : Str)) = false := by decide) (st : starEach (e :: es) X.env = (false, eval e X.env) :: starEach es X.env := by rfl) (pl : (backTo pos (starEach es X.env)).any (·.1) = false := by rfl) :
    PE X (.Call (.Name x p) (e :: es) [] pos) (tCall sp dvs E0 t) := pe_fnX C pass0 g room gl as nd st pl
end

/-! ### repr of data -/
/-- repr(x): x data of at most 100 levels without dicts -/
structure Shows (K : PySem.W.Frag) (H : Hp) (x : V) (d : PyData) : Prop where
  dp : Dp K H x d
  ok : d.showable = true
  nd : d.hasDict = false
  deep : d.depth ≤ 100
  size : d.shown.length ≤ sizeLine
def rRepr (K : PySem.W.Frag) : List V → Hp → VK → Prop := fun xs H Q => ∃ (x : V) (d : PyData), xs = [x] ∧ Shows K H x d ∧ Q (.str d.shown) H
theorem rep_of {A : Around} {k : Nat} (r : Room k A) : A.units + 102 < cLine := by
  have := r.un
  omega
theorem call_repr {X : Cx} (g : Still X.A) (room : X.A.units + 102 < cLine) : CallR X (.builtin "repr") (rRepr X.K) := by
  intro pins s σ H _ us Q I r h
  obtain ⟨x, d, rfl, ⟨hd, hs, hn, hk, hz⟩, q⟩ := h
  obtain ⟨u, rfl, r1⟩ := vals1 r
  obtain ⟨as, rd⟩ := Dp.reads I d x u hd r1
  have fin : ∀ h' u tk, (∀ b o, s.heap.get? b = some o → h'.get? b = some o) → EP X pins σ Q (.str d.shown u) { s with heap := h', toks := tk } :=
    fun h' u tk more => ⟨.str d.shown, H, I.kept more, ⟨_, rfl⟩, q⟩
  have no : d.hasDict = true → sysModules ∉ as := fun z => nomatch hn.symm.trans z
  have same : ∀ (u : Tok) (tk : Nat), EP X pins σ Q (.str d.shown u) { s with toks := tk } := fun u tk => fin s.heap u tk fun _ _ e => e
  cases rd with
  | none => exact PySem.P.repr_of_none (same _ _)
  | bool b => exact PySem.P.repr_of_bool (same _ _)
  | int i t => exact PySem.P.repr_of_int (by simpa [PyData.showable] using hs) (same _ _)
  | str z t => exact PySem.P.repr_of_str (same _ _) hz
  | list h1 h2 h3 h4 => exact repr_of_reads' (.list h1 h2 h3 h4) hs no g (by omega) (fun _ _ e => e) fin hz
  | tuple h1 h2 h3 h4 => exact repr_of_reads' (.tuple h1 h2 h3 h4) hs no g (by omega) (fun _ _ e => e) fin hz
  | dict h1 h2 h3 h4 h5 => exact repr_of_reads' (.dict h1 h2 h3 h4 h5) hs no g (by omega) (fun _ _ e => e) fin hz

/-! ### the end of a law: the bits of the script are told -/
section
variable {P : Program} {w : World} {K : PySem.W.Frag} {mg mb : Str → Option Value} {s : Shared} {a : Addr} {vs : List Value} {ns : List Int}
abbrev scriptObj (vs : List Value) : Obj := { cls := .type "list", data := .seq vs.toArray }
/-- the surroundings of the law's call, where at most the script is tracked -/
theorem top_env {H : Hp} (kin : K.In s.heap) (gl : s.heap.Ns mainGlobals mg) (bl : s.heap.Ns builtinsNs mb) (std : ∀ x : Str, x ≠ "__name__" → mb x = bootBuiltins x) (lim : s.heap.NoLimit) (gens : s.gens = #[])
    (is : s.heap.get? a = some (scriptObj vs)) (only : ∀ b, H b ≠ none → b = a) (off : H a ≠ none → K.lookup a = none) (ok : HOk P w H s.heap) :
    K.In (hidT s.heap H) ∧ (hidT s.heap H).Ns mainGlobals mg ∧ Env0 P w K mg (hidT s.heap H) callerA [] s H := by
  have free : ∀ {b : Addr}, b ≠ a → H b = none := fun {b} ne => Classical.byContradiction fun z => ne (only b z)
  have sub : ∀ {b : Addr} {m : Str → Option Value}, s.heap.Ns b m → (hidT s.heap H).Ns b m := by
    rintro b m ⟨o, es, ep, e, d, r⟩
    refine ⟨o, es, ep, hidT_get e (free fun z => ?_), d, r⟩
    rw [z, is] at e
    cases e
    cases d
  have kin' : K.In (hidT s.heap H) := fun b o e => hidT_get (kin b o e) (Classical.byContradiction fun z => by
    have q := only b z
    subst q
    exact nomatch (off z).symm.trans e)
  obtain ⟨mc, h1, h2⟩ := lim
  refine ⟨kin', sub gl, ⟨rfl, ⟨kin', sub gl, ⟨mb, sub bl, std⟩, ⟨mc, sub h1, h2⟩⟩, fun _ _ e => of_hidT e, Nat.le_of_eq (hidT_size _ _), trivial, fun _ m => (nomatch m), ok, .of_eq gens⟩⟩
theorem law_callG {CX : CXT} {k : Nat} {fa : Addr} {x nm : Str} {sp : Sp}
    (kin : K.In s.heap) (gl : s.heap.Ns mainGlobals mg) (bl : s.heap.Ns builtinsNs mb) (std : ∀ x : Str, x ≠ "__name__" → mb x = bootBuiltins x) (lim : s.heap.NoLimit) (gens : s.gens = #[])
    (is : s.heap.get? a = some (scriptObj vs)) (hi : IntsAre vs ns) (hl : ns.length ≤ sizeLine) (room : Room k callerA)
    (F : ∀ base : Heap, K.In base → base.Ns mainGlobals mg → Has P w K mg base CX k nm [x] [] sp) (isf : mg nm = some (.ref fa))
    (want : ∀ H : Hp, Only H → SqL K H a (ns.map V.int) → sp [.ref a] H (fun v _ => v = .bl true) fun _ _ _ => False)
    (noX : ∀ H e s', CX [] H s (fun _ _ _ => False) e s' → False) :
    codeAny (model P w) callerA (.call (.ref fa) ⟨[.ref a], []⟩) (fun r s' => r = .ok (.ret (.bool true)) ∧ OldK s.heap s'.heap ∧ s'.os = s.os ∧ AllBare s'.gens) s := by
  have from_ : ∀ H : Hp, Only H → SqL K H a (ns.map V.int) → HOk P w H s.heap → (∀ b, H b ≠ none → b = a) → (H a ≠ none → K.lookup a = none) →
      codeAny (model P w) callerA (.call (.ref fa) ⟨[.ref a], []⟩) (fun r s' => r = .ok (.ret (.bool true)) ∧ OldK s.heap s'.heap ∧ s'.os = s.os ∧ AllBare s'.gens) s := by
    intro H hO hS ok only off
    obtain ⟨k1, k2, env⟩ := top_env (H := H) kin gl bl std lim gens is only off ok
    obtain ⟨f, fd, ds, F', g, _, bnd, dv⟩ := F _ k1 k2
    cases dv
    cases g.symm.trans isf
    refine codeAny_mono (F'.does callerA [] s H ⟨[.ref a], []⟩ [.ref a] [.ref a] _ _ rfl room env (bnd s [.ref a] kin rfl) (.cons rfl .nil) (want H hO hS)) ?_
    intro r s' z
    match r, z with
    | .error e, z => exact (noX H e s' z).elim
    | .ok .next, z => exact z.elim
    | .ok .brk, z => exact z.elim
    | .ok .cont, z => exact z.elim
    | .ok (.ret u), ⟨v, H', os, bare, un, ok', r', q⟩ =>
      have q' : v = .bl true := q
      subst q'
      have r2 : u = Value.bool true := r'
      subst r2
      refine ⟨rfl, OldK.of_keep ?_, os, bare⟩
      intro b o e
      rcases hO b with z | ⟨ob, ys, z⟩
      · exact un.keep b o e z (fun m => (nomatch m)) (fun m => (nomatch m))
      · have e1 := (ok b _ z).1
        have e2 := (ok' b _ (un.frzs b ob _ z)).1
        rw [e] at e1
        cases e1
        exact e2
  have rv := vals_ints hi
  cases q : K.lookup a with
  | some o =>
    have e := kin a o q
    rw [is] at e
    cases e
    exact from_ (fun _ => none) (fun _ => .inl rfl) (.inr ⟨_, vs.toArray, _, q, rfl, rfl, rfl, by rw [List.size_toArray, hi.length]; exact hl, by simpa using rv⟩) (fun _ _ z => nomatch z) (fun _ z => (z rfl).elim) fun z => (z rfl).elim
  | none =>
    have here : ∀ b u, (if b = a then some (HO.frz (scriptObj vs) (.lst (ns.map V.int))) else none) = some u → b = a ∧ u = .frz (scriptObj vs) (.lst (ns.map V.int)) := by
      intro b u z
      by_cases c : b = a
      · rw [if_pos c] at z
        exact ⟨c, (Option.some.inj z).symm⟩
      · rw [if_neg c] at z
        cases z
    refine from_ (fun b => if b = a then some (.frz (scriptObj vs) (.lst (ns.map V.int))) else none) ?_ (.inl (.inr ⟨scriptObj vs, if_pos rfl⟩)) ?_ ?_ fun _ => q
    · intro b
      by_cases c : b = a
      · exact .inr ⟨_, _, if_pos c⟩
      · exact .inl (if_neg c)
    · intro b u z
      obtain ⟨c, rfl⟩ := here b u z
      subst c
      exact ⟨is, by rw [List.length_map]; exact hl, vs, _, rv, is⟩
    · intro b z
      by_cases c : b = a
      · exact c
      · exact (z (if_neg c)).elim
end
/-- what k_head (or a head by facts) leaves open, from the law's contract -/
theorem walk_ofG {l : PySem.W.OpenLaw} {n k : Nat} {q : Program} {loose : List Str} {XP : (Str → Option Value) → Heap → Prop} {YP : World → Heap → Prop} {d : DefRec} {CX : World → CXT} {x nm : Str}
    (most : l.most = some n) (few : n ≤ sizeLine) (nodef : d.params.defaults = []) (named : d.name = nm) (room : Room k callerA)
    (F : ∀ (w : World) (mg : Str → Option Value) (h : Heap), YP w h → h.Ns mainGlobals mg → ∃ (K : PySem.W.Frag) (sp : Sp), K.In h ∧
        (∀ (H : Hp) (a : Addr) (ns : List Int), ns.length ≤ n → (∀ z ∈ ns, Builtin.Int.intBits z ≤ 1048576) → Only H → SqL K H a (ns.map V.int) → sp [.ref a] H (fun v _ => v = .bl true) fun _ _ _ => False) ∧
        ∀ base : Heap, K.In base → base.Ns mainGlobals mg → Has l.prog w K mg base (CX w) k nm [x] [] sp)
    (noX : ∀ (w : World) (H : Hp) (s : Shared) (e : Value) (s' : Shared), CX w [] H s (fun _ _ _ => False) e s' → False) :
    PySem.W.WalkO q loose XP YP l.row.toRowW d []
      (fun f vs => PySem.call f vs) := by
  apply Att.attach_callB most nodef
  intro w s0 s1 mg mb fa o pm cd doc a vs ns G Y _ _ _ isf is hi hl bits gens
  obtain ⟨K, sp, kin, want, F'⟩ := F w mg _ Y G.T.g
  exact law_callG kin G.T.g G.T.b G.T.builtins G.T.nolimit gens is hi (Nat.le_trans hl few) room F' (named ▸ isf) (fun H hO hS => want H a ns hl bits hO hS) fun H e s' => noX w H s1 e s'
end Sb

/-! Sb, part E: facts of the top as Boolean functions of the written part; the package's errors: made, raised, caught, asked. -/
namespace Sb
open PySem PySem.Spec PyProof.Rows L2

/-! ### facts of the top -/
abbrev Fb := PySem.W.Frag → Bool
def obsF (fs : List Fb) (fn : List He.DefD) (K : PySem.W.Frag) : He.AlD := (fs.all (fun f => f K) && fn.all (fun d => d.ok K), fn.map fun d => He.fnW K d.at_)
def SaysF (fs : List Fb) (fn : List He.DefD) (K : PySem.W.Frag) : Prop := obsF fs fn K = He.valD fn
/-- what is reached from the module's names and from the interpreter's own table in n steps -/
def reach (g : Addr → Option Obj) : Nat → List Addr
  | 0 => [mainGlobals, cStatics]
  | n + 1 => He.growD g (reach g n)
def lookF (n : Nat) (fs : List Fb) (fn : List He.DefD) (g : Addr → Option Obj) : He.AlD := obsF fs fn (He.frG g (reach g n))
def hookF (n : Nat) (fs : List Fb) (fn : List He.DefD) : PySem.W.Hook :=
  ⟨He.AlD, fun s => lookF n fs fn s.heap.get?, fun _ => He.valD fn, fun _ h => ∃ K : PySem.W.Frag, K.In h ∧ SaysF fs fn K, fun _ _ e => ⟨_, He.frG_in, e⟩,
    fun _ _ _ z more => z.imp fun _ c => ⟨PySem.W.Frag.In.keeps c.1 more, c.2⟩⟩
theorem lookF_eq {n : Nat} {fs : List Fb} {fn : List He.DefD} {g : Addr → Option Obj} {s : Shared} (h : ∀ a, g a = s.heap.get? a) : lookF n fs fn g = (hookF n fs fn).obs s := by
  cases funext h
  rfl
section
variable {fs : List Fb} {fn : List He.DefD} {K : PySem.W.Frag}
theorem SaysF.fact (c : SaysF fs fn K) (i : Nat) {f : Fb} (at_ : fs[i]? = some f) : f K = true := by
  have both : (fs.all (fun f => f K) && fn.all (fun d => d.ok K)) = true := congrArg Prod.fst c
  exact List.all_eq_true.mp (Bool.and_eq_true_iff.mp both).1 f (List.mem_of_getElem? at_)
theorem SaysF.def_ (c : SaysF fs fn K) (i : Nat) {d : He.DefD} (at_ : fn[i]? = some d) : ∃ fd, FunD K d.name d.qual d.params d.body d.scope (d.dvs K) (d.kws K) (He.fAd K d.at_) fd := by
  have both : (fs.all (fun f => f K) && fn.all (fun d => d.ok K)) = true := congrArg Prod.fst c
  have e : (fn.map fun d => He.fnW K d.at_)[i]? = (fn.map He.DefD.val)[i]? := congrArg (·[i]?) (congrArg Prod.snd c)
  simp only [List.getElem?_map, at_, Option.map_some, Option.some.injEq] at e
  exact He.DefD.funD e (List.all_eq_true.mp (Bool.and_eq_true_iff.mp both).2 d (List.mem_of_getElem? at_))
end

/-! ### the package's errors -/
/-- the class at C is an error of the program: over ValueError, with a dict, made by ValueError's own maker -/
def errCls (K : PySem.W.Frag) (C : Addr) : Bool := match K.lookup C with
  | some ⟨.type "type", _, .cls cd, sl⟩ => (match cd.mro, sl.toList with
    | .ref C' :: bm, [_, _, _, _, some (.builtin n), _] => decide (C' = C) && decide (n = "ValueError.__new__") && !cd.hasDel && cd.hasDict && PySem.HandSPX.refsVE bm
    | _, _ => false)
  | _ => false
theorem errCls_ok {K : PySem.W.Frag} {C : Addr} (h : errCls K C = true) :
    ∃ nm q N bs bm sn sub ab col dd k0 k1 k2 k3 k5, K.lookup C = some (excClassObj nm q C N bs bm true sn sub ab col dd k0 k1 k2 k3 k5 "ValueError.__new__") ∧ PySem.HandSPX.refsVE bm = true := by
  unfold errCls at h
  split at h
  · rename_i dd cd sl at_
    split at h
    · rename_i C' bm k0 k1 k2 k3 n k5 e1 e2
      simp only [Bool.and_eq_true, decide_eq_true_eq, Bool.not_eq_true'] at h
      obtain ⟨⟨⟨⟨rfl, rfl⟩, e3⟩, e4⟩, e5⟩ := h
      cases cd
      cases sl
      cases e1
      cases e2
      cases e3
      cases e4
      exact ⟨_, _, _, _, _, _, _, _, _, _, _, _, _, _, _, at_, e5⟩
    · cases h
  · cases h
def errB (K : PySem.W.Frag) (C : Addr) : Bool :=
  errCls K C && decide (PySem.W.findIn K (.ref C) "__setattr__" = some (some (.builtin "object.__setattr__"))) && decide (PySem.W.subIn K (.ref C) (.type "BaseException") = some true) &&
  decide (PySem.W.typeIn K (.ref C) = some (.type "type")) && PySem.W.keepIn K (.ref C) &&
  decide (PySem.W.findIn K (.ref C) "__getattribute__" = some (some (.builtin "BaseException.__getattribute__"))) && decide (PySem.W.findIn K (.ref C) "__getattr__" = some none) && PySem.W.hasDictIn K C &&
  (PySem.W.clsIn K C).isSome && decide (PySem.W.findIn K (.ref C) "__class__" = some (some (.builtin "object.__class__"))) &&
  decide (PySem.W.specialIn K (.builtin "object.__class__") "__get__" = some (some (.builtin "getset_descriptor.__get__"))) && decide (PySem.W.takesIn K (.builtin "object.__class__") = some true) &&
  decide (PySem.W.mroIn K C (.type "object") = some true)
/-- what the written part says of an error class -/
structure ErrC (K : PySem.W.Frag) (C : Addr) : Prop where
  oex : OexC K C
  xf : XfC K C
  cl : (PySem.W.clsIn K C).isSome = true
  ha : PySem.W.findIn K (.ref C) "__class__" = some (some (.builtin "object.__class__"))
  hn : PySem.W.specialIn K (.builtin "object.__class__") "__get__" = some (some (.builtin "getset_descriptor.__get__"))
  ht : PySem.W.takesIn K (.builtin "object.__class__") = some true
  hm : PySem.W.mroIn K C (.type "object") = some true
theorem errB_ok {K : PySem.W.Frag} {C : Addr} (h : errB K C = true) : ErrC K C := by
  simp only [errB, Bool.and_eq_true, decide_eq_true_eq] at h
  obtain ⟨⟨⟨⟨⟨⟨⟨⟨⟨⟨⟨⟨a, b⟩, c⟩, d⟩, e⟩, f⟩, g⟩, i⟩, j⟩, k⟩, l⟩, m⟩, n⟩ := h
  exact ⟨⟨errCls_ok a, b, c, d, e⟩, ⟨f, g, c, i⟩, j, k, l, m, n⟩
/-- the base class of the errors, at S: S.__init__ is ValueError's -/
def baseB (K : PySem.W.Frag) (S : Addr) : Bool :=
  decide (PySem.W.specialIn K (.ref S) "__getattribute__" = some (some (.builtin "type.__getattribute__"))) && PySem.W.readsIn K S (.type "type") &&
  (match PySem.W.findCls K (.ref S) (.type "type") "__init__" with | some (.val (.builtin n)) => decide (n = "ValueError.__init__") | _ => false)
structure BaseC (K : PySem.W.Frag) (S : Addr) : Prop where
  sp : PySem.W.specialIn K (.ref S) "__getattribute__" = some (some (.builtin "type.__getattribute__"))
  rd : PySem.W.readsIn K S (.type "type") = true
  fc : PySem.W.findCls K (.ref S) (.type "type") "__init__" = some (.val (.builtin "ValueError.__init__"))
theorem baseB_ok {K : PySem.W.Frag} {S : Addr} (h : baseB K S = true) : BaseC K S := by
  simp only [baseB, Bool.and_eq_true, decide_eq_true_eq] at h
  obtain ⟨⟨a, b⟩, c⟩ := h
  refine ⟨a, b, ?_⟩
  split at c
  · rename_i n e
    rw [e, of_decide_eq_true c]
  · cases c

section
variable {X : Cx} {e : Expr} {es : List Expr} {ta : TA} {p1 p2 pos : Pos} {x : Str} {S : Addr}
/-- S.__init__(self, ..), S the base class of the errors -/
theorem pe_baseinit {pl : Sem Bool} (gl : Gl X x) (isS : X.mg x = some (.ref S)) (B : BaseC X.K S) (ha : PA X (e :: es) ta)
    (form : eval (.Call (.Attribute (.Name x p1) "__init__" p2) (e :: es) [] pos) X.env = (do
      let ov ← eval (.Name x p1) X.env
      standAt p2.atName
      let (f, first) ← holding [ov] (getMethod ov "__init__" pl)
      callWith pos f first (backTo pos (starEach (e :: es) X.env)) (backToKw pos (keywordEach [] X.env))) := by rfl)
    (nd : (x == ("__debug__" : Str)) = false := by decide) (st : starEach (e :: es) X.env = (false, eval e X.env) :: starEach es X.env := by rfl) (plain : (backTo pos (starEach es X.env)).any (·.1) = false := by rfl) :
    PE X (.Call (.Attribute (.Name x p1) "__init__" p2) (e :: es) [] pos) (tVeI X.K ta) := by
  refine ⟨fun pins s σ H Q I h => PySem.W.methodCall_KW (ld_glob I gl isS ?_ nd) form⟩
  refine PySem.W.method_cls I.kIn B.sp (PySem.W.cls_value I.kIn B.rd B.fc (by decide +kernel) ?_)
  show wpAny _ _ (callWith pos (Value.builtin "ValueError.__init__") [] (backTo pos (starEach (e :: es) X.env)) []) _ _ _
  refine PyProof.Rows.callWith_method1 (thn (ha.run pos pins _ σ H _ (I.tok _) h) ?_) st plain
  rintro us s1 ⟨vs, H1, J, r, a, C, ws, rfl, few, T, isE, q⟩
  cases r with
  | cons ra rr =>
    cases ra
    refine oinit_ok T J isE ?_ fun s' J' => ⟨.non, H1, J', rfl, q⟩
    rw [← Paired.length rr, sizeLine_eq]
    omega
end

/-- __init__ of an error with the field f -/
def spInit (C : Addr) (f : Str) : Sp := fun vs H Q _ => ∃ (a : Addr) (v : V), vs = [.ref a, v] ∧ H a = some (exo a C none) ∧
  ∀ dx, H dx = none → dx ≠ a → Q .non (upd (upd H dx (exd dx [(f, v)])) a (exo a C (some dx)))
/-- the error class named x, with its field f, can be made -/
def Err (P : Program) (w : World) (K : PySem.W.Frag) (mg : Str → Option Value) (base : Heap) (x f : Str) : Prop :=
  mg x = some (.ref (He.ga K x)) ∧ ErrC K (He.ga K x) ∧ ∃ (fI : Addr) (fd : FuncData) (ps : List Str), PySem.W.findIn K (.ref (He.ga K x)) "__init__" = some (some (.ref fI)) ∧ PySem.W.typeIn K (.ref fI) = some (.type "function") ∧
    FnOk P w K mg base CX0 1 fI fd ps (spInit (He.ga K x) f) ∧ Binds K fd ps []
/-- C(e) -/
def tErr (C : Addr) (f : Str) (te : TE) : L2.St → Hp → XK → Prop := fun σ H Q => te σ H fun v H1 => ∀ d, H1 d = none → Q (.ref C) (some d) (upd H1 d (.xd [(f, v)]))
/-- a reading that hands on less -/
def tLess (te : TE) : TE := fun σ H Q => ∃ Q0 : VK, te σ H Q0 ∧ ∀ v H1, Q0 v H1 → Q v H1
section
variable {X : Cx} {e : Expr} {te : TE} {p pos : Pos} {x f : Str}
theorem pe_less (he : PE X e te) : PE X e (tLess te) := by
  refine ⟨fun pins s σ H Q I h => ?_⟩
  obtain ⟨Q0, h0, imp⟩ := h
  refine wpAny_mono (he.run pins s σ H Q0 I h0) ?_ fun _ _ z => z
  rintro u s1 ⟨v, H1, J, r, q⟩
  exact ⟨v, H1, J, r, imp v H1 q⟩
theorem err_made {C a : Addr} {f : Str} {v : V} {H : Hp} {Q : XK} (ha : H a = none) (z : ∀ d, H d = none → Q (.ref C) (some d) (upd H d (.xd [(f, v)]))) :
    spInit C f [.ref a, v] (upd H a (exo a C none)) (fun v H2 => v = .non ∧ ∃ (d : Addr) (fs : List (Str × V)), H2 a = some (exo a C (some d)) ∧ H2 d = some (exd d fs) ∧ H d = none ∧ Q (.ref C) (some d) (upd (del H2 a) d (.xd fs))) (fun _ _ _ => False) := by
  refine ⟨a, v, rfl, upd_same, fun dx hd ne => ⟨rfl, dx, [(f, v)], upd_same, ?_, ?_, ?_⟩⟩
  · rw [upd_ne ne, upd_same]
  · rwa [upd_ne ne] at hd
  · have e : upd (del (upd (upd (upd H a (exo a C none)) dx (exd dx [(f, v)])) a (exo a C (some dx))) a) dx (.xd [(f, v)]) = upd H dx (.xd [(f, v)]) := by
      funext b
      by_cases hb : b = dx
      · rw [hb, upd_same, upd_same]
      · rw [upd_ne hb, upd_ne hb]
        by_cases hb2 : b = a
        · rw [hb2, del_same, ha]
        · rw [del_ne hb2, upd_ne hb2, upd_ne hb, upd_ne hb2]
    rw [e]
    rw [upd_ne ne] at hd
    exact z dx hd
theorem pmk_err {k : Nat} (M : Err X.prog X.w X.K X.mg X.base x f) (room : Room (k + 2) X.A) (gl : Gl X x) (he : PE X e te)
    (nd : (x == ("__debug__" : Str)) = false := by decide) (st : starEach [e] X.env = (false, eval e X.env) :: starEach [] X.env := by rfl) (pl : (backTo pos (starEach [] X.env)).any (·.1) = false := by rfl) :
    PMk X (.Call (.Name x p) [e] [] pos) (tErr (He.ga X.K x) f te) := by
  obtain ⟨g, C, fI, fd, ps, iC, tI, F, bnd⟩ := M
  intro pins s σ H Q I h
  refine pmk_oex (C := He.ga X.K x) C.oex iC tI F (room.mono (by omega)) bnd .nil pass0 gl g (pa_cons (t := tNil) (pe_less he) pa_nil st) nd st pl pins s σ H Q I ?_
  exact ⟨_, h, fun v H1 z => ⟨(by decide : 1 ≤ 1000), fun a ha => err_made ha z⟩⟩
/-- raise C(e) -/
theorem ps_err {k : Nat} {W : WX} {pos2 : Pos} (M : Err X.prog X.w X.K X.mg X.base x f) (calm : X.calm = true) (tk : Takes X W) (room : Room (k + 2) X.A) (gl : Gl X x) (he : PE X e te)
    (nd : (x == ("__debug__" : Str)) = false := by decide) (st : starEach [e] X.env = (false, eval e X.env) :: starEach [] X.env := by rfl) (pl : (backTo pos (starEach [] X.env)).any (·.1) = false := by rfl) :
    PS X (.Raise (some (.Call (.Name x p) [e] [] pos)) none pos2) (fun _ σ H => tErr (He.ga X.K x) f te σ H fun cls d H' => W cls d σ H') := ps_raise calm tk (pmk_err M room gl he nd st pl)
end

/-- the base class of the errors -/
structure BaseAt (K : PySem.W.Frag) (mg : Str → Option Value) (x : Str) : Prop where
  g : mg x = some (.ref (He.ga K x))
  c : ErrC K (He.ga K x)
  b : BaseC K (He.ga K x)
def baseAtB (K : PySem.W.Frag) (x : Str) : Bool := He.eqO (PySem.W.nsIn K mainGlobals x) (some (some (.ref (He.ga K x)))) && errB K (He.ga K x) && baseB K (He.ga K x)
theorem baseAt_ok {K : PySem.W.Frag} {h : Heap} {mg : Str → Option Value} {x : Str} (X : K.In h) (G : h.Ns mainGlobals mg) (b : baseAtB K x = true) : BaseAt K mg x := by
  simp only [baseAtB, Bool.and_eq_true] at b
  exact ⟨PySem.W.mg_of X G (He.eqO_ok b.1.1), errB_ok b.1.2, baseB_ok b.2⟩
/-! ### an error's __init__ in the text -/
/-- what the head says of the error class x and of its __init__, st -/
structure ErrAt (K : PySem.W.Frag) (mg : Str → Option Value) (x f qn : Str) (st : Stmt) : Prop where
  g : mg x = some (.ref (He.ga K x))
  c : ErrC K (He.ga K x)
  i : PySem.W.findIn K (.ref (He.ga K x)) "__init__" = some (some (.ref (He.fAd K (x, some "__init__"))))
  t : PySem.W.typeIn K (.ref (He.fAd K (x, some "__init__"))) = some (.type "function")
  n : PySem.W.findIn K (.ref (He.ga K x)) f = some none
  F : ∃ fd, FunD K "__init__" qn (defArgs st) (defBody st) (defScope st) [] [] (He.fAd K (x, some "__init__")) fd
def errAtB (K : PySem.W.Frag) (x f : Str) : Bool := He.eqO (PySem.W.nsIn K mainGlobals x) (some (some (.ref (He.ga K x)))) && errB K (He.ga K x) &&
  decide (PySem.W.findIn K (.ref (He.ga K x)) "__init__" = some (some (.ref (He.fAd K (x, some "__init__"))))) && decide (PySem.W.typeIn K (.ref (He.fAd K (x, some "__init__"))) = some (.type "function")) &&
  decide (PySem.W.findIn K (.ref (He.ga K x)) f = some none)
theorem errAt_ok {K : PySem.W.Frag} {h : Heap} {mg : Str → Option Value} {x f qn : Str} {st : Stmt} (X : K.In h) (G : h.Ns mainGlobals mg) (b : errAtB K x f = true)
    (F : ∃ fd, FunD K "__init__" qn (defArgs st) (defBody st) (defScope st) [] [] (He.fAd K (x, some "__init__")) fd) : ErrAt K mg x f qn st := by
  simp only [errAtB, Bool.and_eq_true, decide_eq_true_eq] at b
  obtain ⟨⟨⟨⟨a, b⟩, c⟩, d⟩, e⟩ := b
  exact ⟨PySem.W.mg_of X G (He.eqO_ok a), errB_ok b, c, d, e, F⟩
/-! ### calls whose errors are wished for at the caller's slots -/
section
variable {X : Cx} {CX : CXT} {k : Nat} {ps : List Str} {sp : Sp} {dvs : List V} {E : L2.St → XK} {x : Str} {p pos : Pos} {e : Expr} {es : List Expr} {t : TA}
theorem pe_fnS (C : Has X.prog X.w X.K X.mg X.base CX k x ps dvs sp) (px : ∀ σ, PassesAt CX X σ (E σ)) (g : Still X.A) (room : Room k X.A) (gl : Gl X x) (as : PA X (e :: es) t)
    (nd : (x == ("__debug__" : Str)) = false := by decide) (st : starEach (e :: es) X.env = (false, eval e X.env) :: starEach es X.env := by rfl) (pl : (backTo pos (starEach es X.env)).any (·.1) = false := by rfl) :
    PE X (.Call (.Name x p) (e :: es) [] pos) (tCallSD sp dvs E t) := by
  obtain ⟨f, fd, ds, F, isf, kp, bnd, dv⟩ := C
  refine ⟨fun pins s σ H Q I h => wpAny_Call_Name_kw (ld_glob I gl isf (PySem.W.callWith_K (h₀ := X.base) I.ok.mod.kin kp (thn (as.run pos pins s σ H _ I h) ?_) st pl) nd)⟩
  rintro us s1 ⟨vs, H1, J, rv, q⟩
  have all := rv.append dv
  have n : (us ++ ds).length = ps.length := all.length.symm.trans (F.many _ _ _ _ q)
  refine ⟨J.kIn, wpAny_call (codeAny_mono (F.does X.A X.stack s1 H1 ⟨us, []⟩ _ _ Q (E σ) g room J.env0 (bnd s1 us J.kIn n) all q) ?_)⟩
  intro r s' z
  match r, z with
  | .error e, z => exact px σ pins H1 s1 e s' J z
  | .ok (.ret u), z => exact J.after z
  | .ok .next, z => exact z.elim
  | .ok .brk, z => exact z.elim
  | .ok .cont, z => exact z.elim
end

/-- where no error is wished for, none comes -/
theorem no_cx {P : Program} {w : World} {outer : List Env} {H : Hp} {s : Shared} {e : Value} {s' : Shared} (h : L2.CX P w outer H s (fun _ _ _ => False) e s') : False := by
  obtain ⟨_, _, _, _, _, _, _, _, _, _, _, _, z⟩ := h
  exact z
theorem Has.calm {P : Program} {w : World} {K : PySem.W.Frag} {mg : Str → Option Value} {base : Heap} {k : Nat} {x : Str} {ps : List Str} {dvs : List V} {sp sp' : Sp} (h : Has P w K mg base (L2.CX P w) k x ps dvs sp)
    (imp : ∀ vs H Q E, sp' vs H Q E → sp vs H Q (fun _ _ _ => False)) : Has P w K mg base CX0 k x ps dvs sp' := by
  obtain ⟨f, fd, ds, F, r⟩ := h
  refine ⟨f, fd, ds, ⟨fun vs H Q E q => F.many _ _ _ _ (imp _ _ _ _ q), fun A o s H as us vs Q E g ro e b v q => codeAny_mono (F.does A o s H as us vs Q _ g ro e b v (imp _ _ _ _ q)) ?_⟩, r⟩
  intro r s' z
  match r, z with
  | .error _, z => exact no_cx z
  | .ok (.ret _), z => exact z
  | .ok .next, z => exact z
  | .ok .brk, z => exact z
  | .ok .cont, z => exact z
/-! ### isinstance of a caught error -/
/-- isinstance(e, c), e the error at a that the suite holds, of the class cls, with the dict d -/
def rIsX (K : PySem.W.Frag) (a : Addr) (cls : Value) (d : Option Addr) : List V → Hp → VK → Prop := fun xs H Q => ∃ (D dd : Addr) (fs : List (Str × V)) (c : V) (cv : Value) (b : Bool),
  xs = [.ref a, c] ∧ cls = .ref D ∧ d = some dd ∧ H dd = some (.xd fs) ∧ ErrC K D ∧ ClsV c cv ∧ PySem.W.kitOne K (.ref D) cv = some b ∧ Q (.bl b) H
theorem call_isX {X : Cx} {a : Addr} {cls : Value} {d : Option Addr} {oe : Obj} {pn : List (Addr × Obj)} (hz : Zc cls d oe) (hf : ∃ vs, oe.data = .fields vs) :
    CallR (X.suite a ((a, oe) :: pn)) (.builtin "isinstance") (rIsX X.K a cls d) := by
  intro pins s σ H _ us Q I r h
  obtain ⟨D, dd, fs, c, cv, b, rfl, rfl, rfl, hd, T, k, e, q⟩ := h
  obtain ⟨u1, u2, rfl, r1, r2⟩ := vals2 r
  cases r1
  have e2 := k.eq r2
  subst e2
  obtain ⟨here, _⟩ := I.pin (a, oe) (List.mem_append_left _ List.mem_cons_self)
  obtain ⟨mA, hns, _⟩ := (show ObjOk X.prog X.w H s.heap dd (.xd fs) from I.hok dd _ hd)
  obtain ⟨od, ho, _⟩ := lookIn_ns hns
  obtain ⟨vs, hv⟩ := hf
  have J : PySem.W.InstAt s.heap a oe D (some od) := ⟨here, hz.1, by unfold PySem.W.notCls; rw [hv] <;> rfl, by rw [hz.2]; exact ho⟩
  exact PySem.W.kia_one (PySem.W.kitx_exc T.cl T.xf.ga T.xf.gg T.xf.exC T.ha T.hn T.ht T.hm) I.kIn J e (fun z => nomatch z) fun tk => ⟨.bl b, H, I.kept (t' := tk) fun _ _ z => z, rfl, q⟩

/-- repr within an except suite -/
theorem call_reprS {X : Cx} {a : Addr} {pn : List (Addr × Obj)} (g : Still X.A) (room : X.A.units + 102 < cLine) : CallR (X.suite a pn) (.builtin "repr") (rRepr X.K) := call_repr (X := X.suite a pn) g room
/-! ### data stays data -/
section
variable {K : PySem.W.Frag} {H H' : Hp}
theorem seqT_same {a : Addr} {xs : List V} (e : Same H H') (h : SqT K H a xs) : SqT K H' a xs := by
  rcases h with (h | ⟨o, h⟩) | h
  · exact .inl (.inl (e _ _ h))
  · exact .inl (.inr ⟨o, e _ _ h⟩)
  · exact .inr h
mutual
theorem Dp.same (e : Same H H') : ∀ (d : PyData) (v : V), Dp K H v d → Dp K H' v d
  | _, _, .non => .non
  | _, _, .bl b => .bl b
  | _, _, .int i => .int i
  | _, _, .str x => .str x
  | .list ds, _, .lst h hs => .lst (e.seq h) (DpAll.same e ds _ hs)
  | .tuple ds, _, .tup h hs => .tup (seqT_same e h) (DpAll.same e ds _ hs)
theorem DpAll.same (e : Same H H') : ∀ (ds : List PyData) (vs : List V), DpAll K H vs ds → DpAll K H' vs ds
  | [], _, .nil => .nil
  | d :: ds, _, .cons h hs => .cons (Dp.same e d _ h) (DpAll.same e ds _ hs)
end
theorem Shows.same {x : V} {d : PyData} (s : Shows K H x d) (e : Same H H') : Shows K H' x d := ⟨Dp.same e d x s.dp, s.ok, s.nd, s.deep, s.size⟩
theorem tyx_same {x : V} {n : String} (e : Same H H') (h : TyX K H x (.type n)) : TyX K H' x (.type n) := by
  cases h with
  | base b =>
    cases b with
    | non => exact .base .non
    | bl b => exact .base (.bl b)
    | int i => exact .base (.int i)
    | str x => exact .base (.str x)
    | flt x => exact .base (.flt x)
    | lst h => exact .base (.lst (e _ _ h))
    | frz h => exact .base (.frz (e _ _ h))
    | tup h => exact .base (.tup (e _ _ h))
    | dK h => exact .base (.dK (e _ _ h))
    | dT h => exact .base (.dT (e _ _ h))
  | byt b => exact .byt b
  | set h => exact .set (e _ _ h)
  | kList h c => exact .kList h c
  | kTuple h c => exact .kTuple h c
  | kDict h c => exact .kDict h c
  | fTuple h => exact .fTuple (e _ _ h)
  | fDict h => exact .fDict (e _ _ h)
end
/-! ### defs with defaults -/
section
variable {P : Program} {w : World} {K : PySem.W.Frag} {mg : Str → Option Value} {base : Heap} {k : Nat} {x : Str} {st : Stmt} {ps N : List Str} {sp : Sp} {dvs dv : List V}
/-- a def that may raise; bnd tells how its parameters are bound, dv: by which defaults the last ones are filled -/
theorem hasXB (D : DefAt K mg x st dvs) (S : FnScope N ps (defScope st))
    (bnd : ∀ fd, FunD K x x (defArgs st) (defBody st) (defScope st) dvs [] (He.ga K x) fd → ∃ ds, Vals dv ds ∧ Binds K fd ps ds)
    (many : ∀ vs H Q E, sp vs H Q E → vs.length = ps.length)
    (does : ∀ (cv : Value) (A : Around) (outer : List Env) (s : Shared) (H : Hp) (vs : List V) (Q : VK) (E : XK), Still A → Room k (A.deeper (envOfC x (defScope st) s.heap.objs.size (He.ga K x) cv)) → sp vs H Q E →
      ∃ t, PSs (cxOf (L2.CX P w) P w K mg base N x (defScope st) (He.ga K x) cv A outer s H E) (defBody st) t ∧ t { nx := fun _ H' => Q .non H', rt := Q } (start N vs) H) :
    Has P w K mg base (L2.CX P w) (k + 1) x ps dv sp := by
  obtain ⟨fd, F⟩ := D.F
  obtain ⟨ds, v, b⟩ := bnd fd F
  exact ⟨_, fd, ds, okXG F S many does, D.g, F.kp, b, v⟩
end
/-! ### a reading of one's own -/
section
variable {X : Cx} {e : Expr} {st : Stmt}
theorem pt_imp {t t' : TT} (h : PT X e t) (imp : ∀ σ H Q, t' σ H Q → t σ H Q) : PT X e t' := ⟨fun pins s σ H Q I z => h.run pins s σ H Q I (imp _ _ _ z)⟩
theorem pe_imp {t t' : TE} (h : PE X e t) (imp : ∀ σ H Q, t' σ H Q → t σ H Q) : PE X e t' := ⟨fun pins s σ H Q I z => h.run pins s σ H Q I (imp _ _ _ z)⟩
theorem ps_imp {t t' : TS} (h : PS X st t) (imp : ∀ D σ H, t' D σ H → t D σ H) : PS X st t' := ⟨fun pins s σ H D I z => h.run pins s σ H D I (imp _ _ _ z)⟩
end
/-! ### the order of data; lists of ints compared -/
def rLtD (K : PySem.W.Frag) : R2 := fun x y H Q => ∃ d e, Dp K H x d ∧ Dp K H y e ∧ PySem.W.alike d e = true ∧ d ≠ .none ∧ d.depth ≤ 60 ∧ Q (.bl (PySem.W.dataLt d e)) H
theorem op_ltD {X : Cx} (room : X.A.units + 64 < cLine) : OpR X (compareOp .Lt) (rLtD X.K) := by
  intro pins s σ H x y v u Q I rx ry h
  obtain ⟨d, e, hd, he, al, nn, dp, q⟩ := h
  obtain ⟨as, r1⟩ := Dp.reads I d x v hd rx
  obtain ⟨bs, r2⟩ := Dp.reads I e y u he ry
  have le : min d.depth e.depth ≤ d.depth := Nat.min_le_left _ _
  exact PySem.W.lt_data r1 r2 al nn (by omega) ⟨.bl _, H, I, rfl, q⟩
theorem alike_ints : ∀ ns ms : List Int, PySem.W.alikeAll (ns.map PyData.int) (ms.map PyData.int) = true
  | [], _ => by
    show PySem.W.alikeAll [] _ = true
    rw [PySem.W.alikeAll]
  | _ :: _, [] => by
    show PySem.W.alikeAll (_ :: _) [] = true
    rw [PySem.W.alikeAll]
  | n :: ns, m :: ms => by
    show PySem.W.alikeAll (.int n :: ns.map .int) (.int m :: ms.map .int) = true
    rw [PySem.W.alikeAll, alike_ints ns ms, PySem.W.alike]
    rfl
theorem eqv_int (n m : Int) : PyData.eqv (.int n) (.int m) = decide (n = m) := by
  rw [PyData.eqv]
  by_cases e : n = m
  · rw [e]
    simp
  · rw [decide_eq_false e]
    simpa using e
theorem eqv_ints : ∀ ns ms : List Int, PyData.eqvAll (ns.map PyData.int) (ms.map PyData.int) = decide (ns = ms)
  | [], [] => by
    show PyData.eqvAll [] [] = _
    rw [PyData.eqvAll]
    rfl
  | [], m :: ms => by
    show PyData.eqvAll [] (_ :: _) = _
    rw [PyData.eqvAll, decide_eq_false fun e => by cases e]
  | n :: ns, [] => by
    show PyData.eqvAll (_ :: _) [] = _
    rw [PyData.eqvAll, decide_eq_false fun e => by cases e]
  | n :: ns, m :: ms => by
    show PyData.eqvAll (.int n :: ns.map .int) (.int m :: ms.map .int) = _
    rw [PyData.eqvAll, eqv_int, eqv_ints ns ms]
    by_cases e : n = m
    · by_cases e2 : ns = ms
      · rw [e, e2]
        simp
      · rw [decide_eq_false e2, Bool.and_false, decide_eq_false fun z => e2 (List.cons.inj z).2]
    · rw [decide_eq_false e, Bool.false_and, decide_eq_false fun z => e (List.cons.inj z).1]
theorem lt_ints (ns ms : List Int) : PySem.W.dataLt (.list (ns.map PyData.int)) (.list (ms.map PyData.int)) = HT.lexLt ns ms := by
  rw [PySem.W.dataLt_list]
  induction ns generalizing ms with
  | nil =>
    cases ms with
    | nil => rfl
    | cons m ms =>
      show PyProof.Rows.lexLt PyProof.Rows.itemOrd (PySem.W.keyToksAll []) (PySem.W.keyToksAll (.int m :: ms.map .int)) = _
      rw [PySem.W.toks_all_cons]
      rfl
  | cons n ns ih =>
    cases ms with
    | nil =>
      show PyProof.Rows.lexLt PyProof.Rows.itemOrd (PySem.W.keyToksAll (.int n :: ns.map .int)) (PySem.W.keyToksAll []) = _
      rw [PySem.W.toks_all_cons]
      rfl
    | cons m ms =>
      have al : PySem.W.alike (.int n) (.int m) = true := by rw [PySem.W.alike]
      show PyProof.Rows.lexLt PyProof.Rows.itemOrd (PySem.W.keyToksAll (.int n :: ns.map .int)) (PySem.W.keyToksAll (.int m :: ms.map .int)) = _
      rw [HT.lexLt_cons]
      by_cases e : n = m
      · rw [PySem.W.dataLt_all_yes al (by rw [eqv_int, decide_eq_true e]), if_pos e]
        exact ih ms
      · rw [PySem.W.dataLt_all_no al (by rw [eqv_int, decide_eq_false e]), if_neg e, PySem.W.dataLt_int]
theorem canLay_ints : ∀ ns : List Int, PyData.canLayAll0 (ns.map PyData.int) = true
  | [] => rfl
  | n :: ns => by
    show (PyData.canLay0 (.int n) && PyData.canLayAll0 (ns.map PyData.int)) = true
    rw [canLay_ints ns]
    rfl
/-! ### rules that name the written part, whatever stands around -/
section
variable {X : Cx} {K : PySem.W.Frag}
theorem ix_listK (e : X.K = K) : IxR X (rIxL K) := e ▸ ix_list
theorem ix_tupK (e : X.K = K) : IxR X (rIxT K) := e ▸ ix_tup
theorem sl_listK (e : X.K = K) : SlR X (rSlL K) := e ▸ sl_list
theorem sl_tupK (e : X.K = K) : SlR X (rSlT K) := e ▸ sl_tup
def rLenK (K : PySem.W.Frag) : List V → Hp → VK → Prop := fun xs H Q => ∃ p ys, xs = [.ref p] ∧ (SqL K H p ys ∨ SqT K H p ys) ∧ Q (.int ys.length) H
theorem call_lenK (e : X.K = K) : CallR X (.builtin "len") (rLenK K) := by
  subst e
  exact call_len_seq
def rListK (K : PySem.W.Frag) : List V → Hp → VK → Prop := fun xs H Q => ∃ p ys, xs = [.ref p] ∧ (SqL K H p ys ∨ SqT K H p ys) ∧ ∀ l, H l = none → Q (.ref l) (upd H l (.lst ys))
theorem call_listK (e : X.K = K) : CallR X (.type "list") (rListK K) := by
  subst e
  exact call_list_of
def rTupleK (K : PySem.W.Frag) : List V → Hp → VK → Prop := fun xs H Q => ∃ p ys, xs = [.ref p] ∧ ((SqL K H p ys ∧ ∀ l, H l = none → Q (.ref l) (upd H l (.tup ys))) ∨ (SqT K H p ys ∧ Q (.ref p) H))
theorem call_tupleK (e : X.K = K) : CallR X (.type "tuple") (rTupleK K) := by
  subst e
  exact call_tuple_of
theorem call_isiK' (e : X.K = K) : CallR X (.builtin "isinstance") (rIsi K) := e ▸ call_isi
theorem cr_allK (e : X.K = K) (c : X.calm = true) : CallR X (.builtin "all") (rAll K) := e ▸ cr_all c
theorem call_reprK (e : X.K = K) (g : Still X.A) (room : X.A.units + 102 < cLine) : CallR X (.builtin "repr") (rRepr K) := e ▸ call_repr g room
theorem op_eqK (e : X.K = K) (room : X.A.units + 64 < cLine) : OpR X (compareOp .Eq) (rEqD K) := e ▸ op_eqD room
theorem op_neK (e : X.K = K) (room : X.A.units + 64 < cLine) : OpR X (compareOp .NotEq) (rNeD K) := e ▸ op_neD room
theorem op_ltK (e : X.K = K) (room : X.A.units + 64 < cLine) : OpR X (compareOp .Lt) (rLtD K) := e ▸ op_ltD room
theorem pi_listK {tg l : Expr} {tl : TE} (e : X.K = K) (h : PE X l tl) : PI X tg l (iList K tl) := e ▸ pi_list h
theorem pi_tupK {tg l : Expr} {tl : TE} (e : X.K = K) (h : PE X l tl) : PI X tg l (iTup K tl) := e ▸ pi_tup h
end
/-! ### lists of ints cut and compared -/
theorem cut_take {α : Type} (f : α → V) (xs : List α) (n : Nat) : cutV (xs.map f) none (some (n : Int)) = (xs.take n).map f := by
  unfold cutV
  rw [HT.sIx_nat, HT.sIx_none, List.drop_zero, Nat.sub_zero, List.length_map, List.map_take]
  by_cases h : n ≤ xs.length
  · rw [Nat.min_eq_left h]
  · rw [Nat.min_eq_right (by omega), List.take_of_length_le (by rw [List.length_map]; exact Nat.le_refl _), List.take_of_length_le (by rw [List.length_map]; omega)]
theorem dp_ints' {K : PySem.W.Frag} {H : Hp} : ∀ ns : List Int, DpAll K H (ns.map V.int) (ns.map PyData.int)
  | [] => .nil
  | n :: r => .cons (.int n) (dp_ints' r)
theorem depth_ints' : ∀ ns : List Int, PyData.depthAll (ns.map PyData.int) = 0
  | [] => rfl
  | n :: r => by
    show max 0 (PyData.depthAll (r.map PyData.int)) = 0
    rw [depth_ints' r]
    rfl
theorem shaped_ints (ns : List Int) : SeqAt.shaped (.list (ns.map PyData.int)) = true := by
  show (PyData.canLayAll0 (ns.map PyData.int) && decide (PyData.depthAll (ns.map PyData.int) + 1 ≤ 64)) = true
  rw [canLay_ints, depth_ints']
  rfl
theorem shaped_intsT (ns : List Int) : SeqAt.shaped (.tuple (ns.map PyData.int)) = true := by
  show (PyData.canLayAll0 (ns.map PyData.int) && decide (PyData.depthAll (ns.map PyData.int) + 1 ≤ 64)) = true
  rw [canLay_ints, depth_ints']
  rfl
/-- two lists of ints, == and != -/
theorem eq_lists {K : PySem.W.Frag} {H : Hp} {a b : Addr} {ns ms : List Int} {Q : VK} (ha : SqL K H a (ns.map V.int)) (hb : SqL K H b (ms.map V.int)) (q : Q (.bl (decide (ns = ms))) H) : rEqD K (.ref a) (.ref b) H Q := by
  refine ⟨_, _, .lst ha (dp_ints' ns), .lst hb (dp_ints' ms), shaped_ints ns, shaped_ints ms, ?_⟩
  rw [PyData.eqv, eqv_ints]
  exact q
theorem ne_lists {K : PySem.W.Frag} {H : Hp} {a b : Addr} {ns ms : List Int} {Q : VK} (ha : SqL K H a (ns.map V.int)) (hb : SqL K H b (ms.map V.int)) (q : Q (.bl (!decide (ns = ms))) H) : rNeD K (.ref a) (.ref b) H Q := by
  refine ⟨_, _, .lst ha (dp_ints' ns), .lst hb (dp_ints' ms), shaped_ints ns, shaped_ints ms, ?_⟩
  rw [PyData.eqv, eqv_ints]
  exact q
theorem lt_lists {K : PySem.W.Frag} {H : Hp} {a b : Addr} {ns ms : List Int} {Q : VK} (ha : SqL K H a (ns.map V.int)) (hb : SqL K H b (ms.map V.int)) (q : Q (.bl (HT.lexLt ns ms)) H) : rLtD K (.ref a) (.ref b) H Q := by
  refine ⟨_, _, .lst ha (dp_ints' ns), .lst hb (dp_ints' ms), ?_, fun z => (nomatch z), ?_, ?_⟩
  · rw [PySem.W.alike]
    exact alike_ints ns ms
  · show PyData.depthAll (ns.map .int) + 1 ≤ 60
    rw [depth_ints']
    decide
  · rw [lt_ints]
    exact q
end Sb

/-! Sb, part T: a try with several clauses «except C as e». -/
namespace Sb
open PySem PySem.Spec PyProof.Rows L2
/-- a clause: its class, the slot of its name, its suite -/
structure Cl where
  c : Value
  i : Nat
  ts : Addr → Value → Option Addr → TS
/-- behind a suite the name is gone -/
def Ends.less (D : Ends) (i : Nat) : Ends := ⟨fun σ H => D.nx (σ.set i none) H, D.rt, fun σ H => D.bk (σ.set i none) H, fun σ H => D.ct (σ.set i none) H⟩
/-- what the clauses wish of an error: the first one that fits runs -/
def wCl (K : PySem.W.Frag) (Wout : WX) (D : Ends) : List Cl → WX
  | [] => Wout
  | k :: r => fun cls d σ H => ∃ b, PySem.W.exmOne K cls k.c = some b ∧ (b = true → ∀ a, H a = none → k.ts a cls d (Ends.less D k.i) (σ.set k.i (some (.ref a))) H) ∧ (b = false → wCl K Wout D r cls d σ H)
inductive Cls_ (X : Cx) : List ExceptHandler → List Cl → Prop
  | nil : Cls_ X [] []
  | cons (c : Value) (i : Nat) {ts : Addr → Value → Option Addr → TS} {x n : Str} {st : Stmt} {su : List Stmt} {np pos : Pos} {hs : List ExceptHandler} {l : List Cl} (slot : X.N[i]? = some n) (loc : X.env.kindOf n = some .local) (nm : Names X x c)
      (run : ∀ (a : Addr) (oe : Obj) (cls : Value) (d : Option Addr) (pn : List (Addr × Obj)), Zc cls d oe → (∃ vs, oe.data = .fields vs) → PSs (X.suite a ((a, oe) :: pn)) (st :: su) (ts a cls d))
      (r : Cls_ X hs l) : Cls_ X (.ExceptHandler (some (.Name x np)) (some n) (st :: su) pos :: hs) (⟨c, i, ts⟩ :: l)

section
variable {X : Cx} {pins : List (Addr × Obj)} {σ : L2.St} {H : Hp} {a : Addr} {B : Heap} {sI s' : Shared} {cls : Value} {d : Option Addr} {D : Ends} {Wout : WX} {h3 : Heap}
/-- an error has landed: the clauses are asked one after another -/
theorem clauses_run (ok : X.Ok) (hs : X.stack = X.env :: X.outer) (hf : X.env.frame = some X.env.locals) (nd : X.N.Nodup) (tk : Takes X Wout)
    (J : Inv X pins σ H sI) (nb : ∀ b o, sI.heap.get? b = some o → b ∉ frs X.stack → B.get? b = some o) (up : sI.heap.UpToSlots s'.heap) (os : s'.os = sI.os) (ag : AllBare s'.gens) (na : H a = none)
    (fl : HandSPX.FlyingZ B (X.env :: X.outer) a (Zc cls d) h3) (up3 : s'.heap.UpToSlots h3) :
    ∀ {hds : List ExceptHandler} {l : List Cl}, Cls_ X hds l → wCl X.K Wout D l cls d σ H → wpAny (model X.prog X.w) X.A (handleBy (.ref a) X.env hds) (SP X pins D) X.xe { s' with heap := h3 } := by
  have J3 : Inv X pins σ H { s' with heap := h3 } := J.landed nb fl.1 (up.trans up3) os ag
  obtain ⟨o3, v3, g3, z3, d3⟩ := fl.there
  have out : a ∉ frs (X.env :: X.outer) := by
    intro m
    obtain ⟨_, o', e', no⟩ := fl.2.2.1.mem m
    cases g3.symm.trans e'
    exact no _ d3
  have nL : a ≠ X.env.locals := by
    intro z
    exact out (List.mem_filterMap.mpr ⟨X.env, List.mem_cons_self, by rw [hf, z]⟩)
  have nF : a ∉ X.fs := by
    intro m
    obtain ⟨e, he, q⟩ := List.mem_filterMap.mp m
    exact out (List.mem_filterMap.mpr ⟨e, List.mem_cons_of_mem _ he, q⟩)
  have S3 := J3.suite g3 d3 na nL nF
  intro hds l hk
  induction hk with
  | nil =>
    intro w
    apply wpAny_handleBy_nil
    obtain ⟨_, _, _, oe, vs, T, oT, _, he, _, hd, h1, _⟩ := id fl
    have fin : wpAny (model X.prog X.w) X.A (setFlight (.ref a) X.env.frame) (fun _ s4 => wpAny (model X.prog X.w) X.A (throw (.ref a) : Sem Flow) (SP X pins D) X.xe s4) X.xe { s' with heap := h3 } := by
      rw [hf]
      apply HandSPX.setFlight_upZ fl
      intro h4 hh4 up4
      exact wpAny_throw (tk _ _ ⟨a, B, sI, pins, σ, H, cls, d, rfl, J, nb, (up.trans up3).trans up4, .inr (.inr (by rw [hs]; exact hh4)), na, os, ag, w⟩)
    unfold PySem.passOn
    apply wpAny_bind
    apply wpAny_field he hd h1
    rw [if_neg (show ¬ ((Value.ref T == Value.none) = true) by simp)]
    first
      | exact wpAny_bind (wpAny_pure (wpAny_bind fin))
      | exact wpAny_bind fin
  | cons c i slot loc nm run r ih =>
    rename_i ts x n st su np pos hs2 l2
    intro w
    obtain ⟨b, eb, yes, no⟩ := w
    apply wpAny_handleBy_cons _ (by intro q; cases q)
    apply codeAny_handlers_test
    have ty : PySem.W.Looks (model X.prog X.w) h3 (typeOf (.ref a)) cls := fun A Q E s kp q => wpAny_typeOf_ref (kp _ _ g3) (by rw [z3.1]; exact q)
    have fits := PySem.W.exm_one (M := model X.prog X.w) J3.kIn ty eb
    have named : ∀ {Q : Value → Shared → Prop} {E : Value → Shared → Prop}, Q c { s' with heap := h3 } → wpAny (model X.prog X.w) (X.A.mark (some (.ref a))) (eval (.Name x np) X.env) Q E { s' with heap := h3 } := by
      intro Q E q
      obtain ⟨gl, nd', g | ⟨g, bl, nn⟩⟩ := nm
      · exact ld_glob (X := X.suite a ((a, o3) :: (X.pn ++ pins))) S3 gl g q nd'
      · exact ld_blt (X := X.suite a ((a, o3) :: (X.pn ++ pins))) S3 gl g bl q nn nd'
    apply named
    apply fits.here
    cases b with
    | false => exact ih (no rfl)
    | true =>
      apply codeAny_handlers_suite_as
      apply HandSPX.lands_againZ fl
      intro h4 fl4 up4
      have J4 : Inv X pins σ H { s' with heap := h4 } := J.landed nb fl4.1 ((up.trans up3).trans up4) os ag
      obtain ⟨o4, v4, g4, z4, d4⟩ := fl4.there
      have S4 := J4.suite g4 d4 na nL nF
      refine store_ok (X := X.suite a ((a, o4) :: (X.pn ++ pins))) (v := .ref a) S4 nd slot (.inl loc) rfl ?_ (.inr loc)
      intro s5 S5
      refine wpAny_mono ((run a o4 cls d (X.pn ++ pins) z4 ⟨_, d4⟩).run [] s5 _ H _ S5 (yes rfl a na)) ?_ fun _ _ z => z.elim
      intro f s6 sp
      have gone : ∀ {σ6 : L2.St} {H6 : Hp} {Q : Shared → Prop}, Inv (X.suite a ((a, o4) :: (X.pn ++ pins))) [] σ6 H6 s6 → (∀ s7, Inv X pins (σ6.set i none) H6 s7 → Q s7) →
          wpAny (model X.prog X.w) X.A (do bindName X.env n .none; unbindBehindTheSuite X.env n pos) (fun _ s7 => Q s7) X.xe s6 := fun S6 hq => gone_ok (S6.unsuite ok) nd slot loc hq
      match f, sp with
      | .next, ⟨_, _, S6, q6⟩ => exact gone S6 fun s7 J7 => ⟨_, _, J7, q6⟩
      | .brk, ⟨_, _, S6, q6⟩ => exact gone S6 fun s7 J7 => ⟨_, _, J7, q6⟩
      | .cont, ⟨_, _, S6, q6⟩ => exact gone S6 fun s7 J7 => ⟨_, _, J7, q6⟩
      | .ret u, ⟨_, _, _, S6, r6, q6⟩ => exact gone S6 fun s7 J7 => ⟨_, _, _, J7, r6, q6⟩
end
section
variable {X : Cx} {body : List Stmt} {h0 : ExceptHandler} {hds : List ExceptHandler} {l : List Cl} {pos : Pos} {tb : WX → TS} {Wout : WX}
/-- try: .. except C as e: .. except D as e: .. -/
theorem ps_try_cl (hs : X.stack = X.env :: X.outer) (hf : X.env.frame = some X.env.locals) (nd : X.N.Nodup) (tk : Takes X Wout)
    (hb : ∀ (W : WX) (pn : List (Addr × Obj)) (xe : Value → Shared → Prop), Takes (X.tr pn xe) W → PassesOwn (model X.prog X.w) X.A X.env xe → PSs (X.tr pn xe) body (tb W))
    (cl : Cls_ X (h0 :: hds) l) : PS X (.Try body (h0 :: hds) [] [] pos) (fun D σ H => tb (wCl X.K Wout D l) D σ H) := by
  refine ⟨fun pins s σ H D I h => ?_⟩
  have ok := I.ok
  apply wpAny_Try_except
  refine wpAny_mono ((hb (wCl X.K Wout D l) (X.pn ++ pins) (fun e s1 => wpAny (model X.prog X.w) X.A (noteFrame e X.env) (fun _ s2 => wpAny (model X.prog X.w) X.A (setFlight e none) (fun _ s3 =>
    wpAny (model X.prog X.w) X.A (handleBy e X.env (h0 :: hds)) (SP X pins D) X.xe s3) X.xe s2) X.xe s1) ?_ PassesOwn.looking).run [] s σ H D (I.toTry _) h) ?_ fun _ _ z => z
  · rintro u s' ⟨a, B, sI, _, σ', H', cls, d, rfl, J', nb, up, sky, na, os, ag, w⟩
    show wpAny (model X.prog X.w) X.A (noteFrame (.ref a) X.env) _ _ _
    refine Sky.land Zc.steady (by rw [ok.frames, hs]) hf (hs ▸ sky) ?_
    intro h3 fl3 up3
    exact clauses_run ok hs hf nd tk (J'.ofTry ok) nb up os ag na fl3 up3 cl w
  · intro f s1 sp
    match f, sp with
    | .next, ⟨σ', H', J', q⟩ => exact wpAny_execs_nil ⟨σ', H', J'.ofTry ok, q⟩
    | .brk, ⟨σ', H', J', q⟩ => exact ⟨σ', H', J'.ofTry ok, q⟩
    | .cont, ⟨σ', H', J', q⟩ => exact ⟨σ', H', J'.ofTry ok, q⟩
    | .ret u, ⟨v, σ', H', J', r, q⟩ => exact ⟨v, σ', H', J'.ofTry ok, r, q⟩
end
/-- e.f in a suite, the written part by its own name -/
theorem pe_xfK {X : Cx} {K : PySem.W.Frag} {a C : Addr} {oe : Obj} {cls : Value} {d : Option Addr} {pn : List (Addr × Obj)} {e : Expr} {te : TE} {pos : Pos} {n : Str} (T : XfC K C) (hno : PySem.W.findIn K (.ref C) n = some none)
    (hz : Zc cls d oe) (hf : ∃ vs, oe.data = .fields vs) (he : PE (X.suite a ((a, oe) :: pn)) e te) (eK : X.K = K := by rfl) (hb : attributeBase e n X.env (eval e X.env) = eval e X.env := by rfl) :
    PE (X.suite a ((a, oe) :: pn)) (.Attribute e n pos) (tXf a cls d C n te) := by
  subst eK
  exact pe_xf T hno hz hf he hb
end Sb

namespace Sb
open PySem PySem.Spec PyProof.Rows L2
/-! ### the text -/
def topS (i : Nat) : Stmt := PySem.Challenge.pw_shortestbytes_k03_wrong_codes.main.body.getD i (.Pass ⟨0, 0, 0, 0⟩)
abbrev s__law_take : Stmt := topS 13
abbrev s__law_bag : Stmt := topS 12
abbrev s__law_of : Stmt := topS 14
abbrev s__law_number : Stmt := topS 15
abbrev s__law_code : Stmt := topS 16
abbrev s_is_integer : Stmt := topS 5
abbrev s_is_byte : Stmt := topS 6
abbrev s_code_size : Stmt := topS 7
abbrev s_code_bounds : Stmt := topS 8
abbrev s_code_number : Stmt := topS 9
abbrev s_number_at : Stmt := topS 10
abbrev s__law_is_byte : Stmt := topS 19
abbrev s__law_due : Stmt := topS 20
abbrev s__law_told : Stmt := topS 21
abbrev s__law_row_of : Stmt := topS 17
abbrev s__law_spoilt : Stmt := topS 18
abbrev s_law : Stmt := topS 22
abbrev s_init_WrongByte : Stmt := inClass (topS 2) 0
theorem sc_init_WrongByte : FnScope ["self", "at"] ["self", "at"] (defScope s_init_WrongByte) := ⟨rfl, rfl, rfl, by decide +kernel, rfl, by decide +kernel, by decide +kernel⟩
abbrev s_init_Unfinished : Stmt := inClass (topS 3) 0
theorem sc_init_Unfinished : FnScope ["self", "at"] ["self", "at"] (defScope s_init_Unfinished) := ⟨rfl, rfl, rfl, by decide +kernel, rfl, by decide +kernel, by decide +kernel⟩
/-- what the top leaves: the defs, the built-in names that are free, the constants -/
structure Txt (K : PySem.W.Frag) (mg : Str → Option Value) : Prop where
  d__law_take : DefAt K mg "_law_take" s__law_take []
  d__law_bag : DefAt K mg "_law_bag" s__law_bag []
  d__law_of : DefAt K mg "_law_of" s__law_of []
  d__law_number : DefAt K mg "_law_number" s__law_number []
  d__law_code : DefAt K mg "_law_code" s__law_code []
  d_is_integer : DefAt K mg "is_integer" s_is_integer []
  d_is_byte : DefAt K mg "is_byte" s_is_byte []
  d_code_size : DefAt K mg "code_size" s_code_size []
  d_code_bounds : DefAt K mg "code_bounds" s_code_bounds []
  d_code_number : DefAt K mg "code_number" s_code_number []
  d_number_at : DefAt K mg "number_at" s_number_at [.int 0]
  d__law_is_byte : DefAt K mg "_law_is_byte" s__law_is_byte []
  d__law_due : DefAt K mg "_law_due" s__law_due []
  d__law_told : DefAt K mg "_law_told" s__law_told []
  d__law_row_of : DefAt K mg "_law_row_of" s__law_row_of []
  d__law_spoilt : DefAt K mg "_law_spoilt" s__law_spoilt []
  d_law : DefAt K mg "law" s_law []
  m_abs : mg "abs" = none
  m_bool : mg "bool" = none
  m_int : mg "int" = none
  m_isinstance : mg "isinstance" = none
  m_len : mg "len" = none
  m_list : mg "list" = none
  m_max : mg "max" = none
  m_range : mg "range" = none
  m_repr : mg "repr" = none
  e_base : BaseAt K mg "ShortestBytesError"
  e_WrongByte : ErrAt K mg "WrongByte" "at" "WrongByte.__init__" s_init_WrongByte
  e_Unfinished : ErrAt K mg "Unfinished" "at" "Unfinished.__init__" s_init_Unfinished
  x_WB_WB : PySem.W.exmOne K (.ref (He.ga K "WrongByte")) (.ref (He.ga K "WrongByte")) = some true
  x_UF_WB : PySem.W.exmOne K (.ref (He.ga K "Unfinished")) (.ref (He.ga K "WrongByte")) = some false
  x_UF_UF : PySem.W.exmOne K (.ref (He.ga K "Unfinished")) (.ref (He.ga K "Unfinished")) = some true
  k_WB_UF : PySem.W.kitOne K (.ref (He.ga K "WrongByte")) (.ref (He.ga K "Unfinished")) = some false
  k_WB_S : PySem.W.kitOne K (.ref (He.ga K "WrongByte")) (.ref (He.ga K "ShortestBytesError")) = some true
  k_UF_S : PySem.W.kitOne K (.ref (He.ga K "Unfinished")) (.ref (He.ga K "ShortestBytesError")) = some true
section
variable {P : Program} {w : World} {K : PySem.W.Frag} {mg : Str → Option Value} {base : Heap}
theorem er_WrongByte (T : Txt K mg) : Err P w K mg base "WrongByte" "at" := by
  obtain ⟨fd, F⟩ := T.e_WrongByte.F
  refine ⟨T.e_WrongByte.g, T.e_WrongByte.c, _, fd, ["self", "at"], T.e_WrongByte.i, T.e_WrongByte.t, F.ok (CX := CX0) sc_init_WrongByte (fun vs H Q E h => ?_) (fun cv A outer s H vs Q E hr h => ?_), F.bindsN fun _ _ _ _ _ _ us hl => match us, hl with | [_, _], _ => rfl⟩
  · obtain ⟨a, v, rfl, _⟩ := h
    rfl
  · obtain ⟨a, v, rfl, isE, q⟩ := h
    refine ⟨_, PSs.nox (pss_cons (ps_expr (pe_baseinit (by rfl) T.e_base.g T.e_base.b (pa_cons (pv 0) (pa_cons pe_str pa_nil)))) (pss_one (ps_ost (pv 0) (pv 1)))), ?_⟩
    refine ⟨_, rfl, a, He.ga K "WrongByte", _, rfl, (by show 1 ≤ 1000; decide), T.e_WrongByte.c.oex, isE, ?_⟩
    exact ⟨_, rfl, _, rfl, a, _, rfl, T.e_WrongByte.c.oex, T.e_WrongByte.n, .inl ⟨isE, q⟩⟩
theorem er_Unfinished (T : Txt K mg) : Err P w K mg base "Unfinished" "at" := by
  obtain ⟨fd, F⟩ := T.e_Unfinished.F
  refine ⟨T.e_Unfinished.g, T.e_Unfinished.c, _, fd, ["self", "at"], T.e_Unfinished.i, T.e_Unfinished.t, F.ok (CX := CX0) sc_init_Unfinished (fun vs H Q E h => ?_) (fun cv A outer s H vs Q E hr h => ?_), F.bindsN fun _ _ _ _ _ _ us hl => match us, hl with | [_, _], _ => rfl⟩
  · obtain ⟨a, v, rfl, _⟩ := h
    rfl
  · obtain ⟨a, v, rfl, isE, q⟩ := h
    refine ⟨_, PSs.nox (pss_cons (ps_expr (pe_baseinit (by rfl) T.e_base.g T.e_base.b (pa_cons (pv 0) (pa_cons pe_str pa_nil)))) (pss_one (ps_ost (pv 0) (pv 1)))), ?_⟩
    refine ⟨_, rfl, a, He.ga K "Unfinished", _, rfl, (by show 1 ≤ 1000; decide), T.e_Unfinished.c.oex, isE, ?_⟩
    exact ⟨_, rfl, _, rfl, a, _, rfl, T.e_Unfinished.c.oex, T.e_Unfinished.n, .inl ⟨isE, q⟩⟩
/-! ### the law's bags -/
/-- a bag stands at p; at most m numbers were mixed -/
def Bag (H : Hp) (p : Addr) (m : Int) : Prop := ∃ d e c : Int, H p = some (.lst [.int d, .int e, .int c]) ∧ 0 ≤ d ∧ 0 ≤ e ∧ e < 1099511627776 ∧ 0 ≤ c ∧ c ≤ m
/-- all that is tracked stands as before, but for what is at p -/
def But (p : Addr) (H H' : Hp) : Prop := ∀ b o, b ≠ p → H b = some o → H' b = some o
theorem But.refl (p : Addr) (H : Hp) : But p H H := fun _ _ _ h => h
theorem But.trans {p : Addr} {H H1 H2 : Hp} (a : But p H H1) (b : But p H1 H2) : But p H H2 := fun c o n h => b c o n (a c o n h)
theorem But.upd {p : Addr} {H : Hp} {o : HO} : But p H (upd H p o) := fun b x n h => by
  rw [upd_ne n]
  exact h
theorem But.new {p q : Addr} {H : Hp} {o : HO} (h : H q = none) : But p H (L2.upd H q o) := fun b x _ e => by
  rw [upd_ne (ne_of_none e h)]
  exact e
theorem But.seq {p : Addr} {K : PySem.W.Frag} {H H' : Hp} {a : Addr} {xs : List V} (e : But p H H') (n : a ≠ p) (h : SqL K H a xs) : SqL K H' a xs := by
  rcases h with (h | ⟨o, h⟩) | h
  · exact .inl (.inl (e _ _ n h))
  · exact .inl (.inr ⟨o, e _ _ n h⟩)
  · exact .inr h
theorem Bag.more {H : Hp} {p : Addr} {m n : Int} (h : Bag H p m) (l : m ≤ n) : Bag H p n := by
  obtain ⟨d, e, c, h1, h2, h3, h4, h5, h6⟩ := h
  exact ⟨d, e, c, h1, h2, h3, h4, h5, Int.le_trans h6 l⟩
theorem Bag.new {H : Hp} {p q : Addr} {m : Int} {o : HO} (h : Bag H p m) (z : H q = none) : Bag (L2.upd H q o) p m := by
  obtain ⟨d, e, c, h1, h2⟩ := h
  exact ⟨d, e, c, by rw [upd_ne (ne_of_none h1 z)]; exact h1, h2⟩
theorem Bag.ne {H : Hp} {p q : Addr} {m : Int} (h : Bag H p m) (z : H q = none) : p ≠ q := by
  obtain ⟨d, e, c, h1, h2⟩ := h
  exact ne_of_none h1 z
theorem same_new {H : Hp} {q : Addr} {o : HO} (h : H q = none) : Same H (L2.upd H q o) := fun b x e => by
  rw [upd_ne (ne_of_none e h)]
  exact e
theorem fmod_ge (a : Int) {b : Int} (h : 0 < b) : 0 ≤ a.fmod b := Int.fmod_nonneg_of_pos a h
theorem fmod_lt (a : Int) {b : Int} (h : 0 < b) : a.fmod b < b := Int.fmod_lt_of_pos a h
theorem fdiv_ge {a b : Int} (ha : 0 ≤ a) (hb : 0 ≤ b) : 0 ≤ a.fdiv b := Int.fdiv_nonneg ha hb
theorem same_but {H H1 H2 : Hp} {p : Addr} (a : Same H H1) (b : But p H1 H2) (n : H p = none) : Same H H2 := fun c o e => b c o (ne_of_none e n) (a c o e)
theorem same_put {H H1 : Hp} {p : Addr} {o : HO} (a : Same H H1) (n : H p = none) : Same H (L2.upd H1 p o) := same_but a But.upd n
theorem Bag.same {H H' : Hp} {p : Addr} {m : Int} (h : Bag H p m) (s : Same H H') : Bag H' p m := by
  obtain ⟨d, e, c, h1, h2⟩ := h
  exact ⟨d, e, c, s _ _ h1, h2⟩

/-! ### codes of numbers -/
/-- the digits in base 256, the greatest one first -/
def digs (n : Nat) : List Int := if h : n = 0 then [] else digs (n / 256) ++ [((n % 256 : Nat) : Int)]
termination_by n
decreasing_by omega
theorem digs_zero : digs 0 = [] := by rw [digs]; simp
theorem digs_pos {n : Nat} (h : n ≠ 0) : digs n = digs (n / 256) ++ [((n % 256 : Nat) : Int)] := by rw [digs]; simp [h]
/-- the code of a number -/
def codeN (n : Nat) : List Int := if n < 192 then [(n : Int)] else (191 + (digs n).length : Int) :: digs n
theorem digs_len : ∀ (k n : Nat), n < 256 ^ k → (digs n).length ≤ k
  | 0, n, h => by
    have e : n = 0 := by simp at h; omega
    rw [e, digs_zero]
    exact Nat.le_refl 0
  | k + 1, n, h => by
    by_cases e : n = 0
    · rw [e, digs_zero]
      exact Nat.zero_le _
    · rw [digs_pos e, List.length_append]
      have := digs_len k (n / 256) (by rw [Nat.pow_succ] at h; omega)
      simp only [List.length_cons, List.length_nil]
      omega
theorem digs_byte (n : Nat) : ∀ d ∈ digs n, 0 ≤ d ∧ d ≤ 255 := by
  induction n using Nat.strongRecOn with
  | ind n ih =>
    by_cases e : n = 0
    · rw [e, digs_zero]
      exact fun d h => (nomatch h)
    · rw [digs_pos e]
      intro d h
      rcases List.mem_append.mp h with h | h
      · exact ih (n / 256) (by omega) d h
      · have := List.mem_singleton.mp h
        omega
theorem codeN_len {n : Nat} (h : n < 256 ^ 63) : (codeN n).length ≤ 64 := by
  unfold codeN
  split
  · exact (by decide : 1 ≤ 64)
  · have := digs_len 63 n h
    simp only [List.length_cons]
    omega
theorem codeN_byte {n : Nat} (h : n < 256 ^ 63) : ∀ d ∈ codeN n, 0 ≤ d ∧ d ≤ 255 := by
  unfold codeN
  split
  · intro d m
    have := List.mem_singleton.mp m
    omega
  · intro d m
    have l := digs_len 63 n h
    rcases List.mem_cons.mp m with m | m
    · omega
    · exact digs_byte n d m
theorem and255 {n : Int} (h : 0 ≤ n) : Builtin.bitAnd n 255 = ((n.toNat % 256 : Nat) : Int) := by
  obtain ⟨k, rfl⟩ := Int.eq_ofNat_of_zero_le h
  show ((k &&& 255 : Nat) : Int) = _
  rw [show (255 : Nat) = 2 ^ 8 - 1 by decide, Nat.and_two_pow_sub_one_eq_mod]
  rfl

/-! ### what repr shows -/
theorem dp_ints {K : PySem.W.Frag} {H : Hp} : ∀ ns : List Int, DpAll K H (ns.map V.int) (ns.map PyData.int)
  | [] => .nil
  | n :: r => .cons (.int n) (dp_ints r)
theorem shown_int {n : Int} {B : Nat} (b : 0 < B) (h : n.natAbs.log2 < B) : (PyData.shown (.int n)).length ≤ B + 1 := by
  show (Str.ofString (toString n)).length ≤ B + 1
  rw [PySem.ofString_length]
  exact int_text_length_le b h
theorem shown_ints {B : Nat} (b : 0 < B) : ∀ ns : List Int, (∀ n ∈ ns, n.natAbs.log2 < B) → ((PyData.shownAll (ns.map PyData.int)).map (·.length)).sum ≤ (B + 1) * ns.length ∧ (PyData.shownAll (ns.map PyData.int)).length = ns.length
  | [], _ => ⟨Nat.zero_le _, rfl⟩
  | n :: r, h => by
    obtain ⟨i1, i2⟩ := shown_ints b r fun x m => h x (List.mem_cons_of_mem _ m)
    have i3 := shown_int b (h n List.mem_cons_self)
    refine ⟨?_, ?_⟩
    · show (PyData.shown (.int n)).length + ((PyData.shownAll (r.map PyData.int)).map (·.length)).sum ≤ (B + 1) * (r.length + 1)
      rw [Nat.mul_add]
      omega
    · show (PyData.shownAll (r.map PyData.int)).length + 1 = r.length + 1
      omega
theorem showable_ints : ∀ ns : List Int, (∀ n ∈ ns, n.natAbs.log2 < 1920) → PyData.showableAll (ns.map PyData.int) = true
  | [], _ => rfl
  | n :: r, h => by
    show (PyData.showable (.int n) && PyData.showableAll (r.map PyData.int)) = true
    rw [showable_ints r fun x m => h x (List.mem_cons_of_mem _ m), Bool.and_true]
    exact decide_eq_true (h n List.mem_cons_self)
theorem nodict_ints : ∀ ns : List Int, PyData.hasDictAll (ns.map PyData.int) = false
  | [] => rfl
  | n :: r => by
    show (PyData.hasDict (.int n) || PyData.hasDictAll (r.map PyData.int)) = false
    rw [nodict_ints r]
    rfl
theorem depth_ints : ∀ ns : List Int, PyData.depthAll (ns.map PyData.int) ≤ 1
  | [] => Nat.zero_le _
  | n :: r => by
    have := depth_ints r
    show max (PyData.depth (.int n)) (PyData.depthAll (r.map PyData.int)) ≤ 1
    exact Nat.max_le.mpr ⟨Nat.zero_le _, this⟩
theorem log2_byte {n : Int} (h : 0 ≤ n ∧ n ≤ 255) : n.natAbs.log2 < 8 := by
  obtain ⟨k, rfl⟩ := Int.eq_ofNat_of_zero_le h.1
  have : k < 256 := by omega
  show k.log2 < 8
  by_cases e : k = 0
  · rw [e]
    decide
  · exact (Nat.log2_lt e).mpr this
/-- repr of a list of bytes -/
theorem show_bytes {K : PySem.W.Frag} {H : Hp} {p : Addr} {ns : List Int} (h : SqL K H p (ns.map V.int)) (b : ∀ n ∈ ns, 0 ≤ n ∧ n ≤ 255) (l : ns.length ≤ 100000) : Shows K H (.ref p) (.list (ns.map .int)) where
  dp := .lst h (dp_ints ns)
  ok := showable_ints ns fun n m => Nat.lt_trans (log2_byte (b n m)) (by decide)
  nd := nodict_ints ns
  deep := by
    have := depth_ints ns
    show PyData.depthAll (ns.map .int) + 1 ≤ 100
    omega
  size := by
    obtain ⟨i1, i2⟩ := shown_ints (B := 8) (by decide) ns fun n m => log2_byte (b n m)
    have := listText_len_le (PyData.shownAll (ns.map .int))
    show (listText (PyData.shownAll (ns.map .int))).length ≤ sizeLine
    rw [sizeLine_eq]
    omega
/-- repr of an int -/
theorem show_int {K : PySem.W.Frag} {H : Hp} {n : Int} (h : n.natAbs.log2 < 1920) : Shows K H (.int n) (.int n) :=
  ⟨.int n, decide_eq_true h, rfl, by show 0 ≤ 100; decide, Nat.le_trans (shown_int (B := 1920) (by decide) h) (by rw [sizeLine_eq]; decide)⟩
/-- repr of a list, a tuple of ints -/
theorem show_ilist {K : PySem.W.Frag} {H : Hp} {p : Addr} {ns : List Int} (h : SqL K H p (ns.map V.int)) (b : ∀ n ∈ ns, n.natAbs.log2 < 1920) (l : ns.length ≤ 8000) : Shows K H (.ref p) (.list (ns.map .int)) where
  dp := .lst h (dp_ints ns)
  ok := showable_ints ns b
  nd := nodict_ints ns
  deep := by
    have := depth_ints ns
    show PyData.depthAll (ns.map .int) + 1 ≤ 100
    omega
  size := by
    obtain ⟨i1, i2⟩ := shown_ints (B := 1920) (by decide) ns b
    have := listText_len_le (PyData.shownAll (ns.map .int))
    show (listText (PyData.shownAll (ns.map .int))).length ≤ sizeLine
    rw [sizeLine_eq]
    omega
theorem show_ituple {K : PySem.W.Frag} {H : Hp} {p : Addr} {ns : List Int} (h : SqT K H p (ns.map V.int)) (b : ∀ n ∈ ns, n.natAbs.log2 < 1920) (l : ns.length ≤ 8000) : Shows K H (.ref p) (.tuple (ns.map .int)) where
  dp := .tup h (dp_ints ns)
  ok := showable_ints ns b
  nd := nodict_ints ns
  deep := by
    have := depth_ints ns
    show PyData.depthAll (ns.map .int) + 1 ≤ 100
    omega
  size := by
    obtain ⟨i1, i2⟩ := shown_ints (B := 1920) (by decide) ns b
    have := tupleText_len_le (PyData.shownAll (ns.map .int))
    show (tupleText (PyData.shownAll (ns.map .int))).length ≤ sizeLine
    rw [sizeLine_eq]
    omega
theorem log2_small {z : Int} (hz : z.natAbs < 2 ^ 1900) : z.natAbs.log2 < 1920 := by
  by_cases e : z.natAbs = 0
  · rw [e]
    decide
  · exact Nat.lt_trans ((Nat.log2_lt e).mpr hz) (by decide)
theorem show_none {K : PySem.W.Frag} {H : Hp} : Shows K H .non .none := ⟨.non, rfl, rfl, by show 0 ≤ 100; decide, by show 4 ≤ sizeLine; decide⟩
theorem show_bool {K : PySem.W.Frag} {H : Hp} (b : Bool) : Shows K H (.bl b) (.bool b) := ⟨.bl b, rfl, rfl, by show 0 ≤ 100; decide, by cases b <;> decide +kernel⟩
theorem show_str {K : PySem.W.Frag} {H : Hp} {x : Str} (h : (reprText x).length ≤ sizeLine) : Shows K H (.str x) (.str x) := ⟨.str x, rfl, rfl, by show 0 ≤ 100; decide, h⟩

/-- the cells that are taken of the script -/
theorem cut_len (xs : List V) (n : Nat) : (cutV xs none (some (n : Int))).length ≤ n := by
  unfold cutV
  rw [List.length_take, HT.sIx_nat]
  omega
/-- number_code of a number, as the law calls it -/

theorem sc__law_take : FnScope ["_law_bag_here", "_law_many", "_law_digit", "_law_place", "_law_mixed"] ["_law_bag_here", "_law_many"] (defScope s__law_take) := ⟨rfl, rfl, rfl, by decide +kernel, rfl, by decide +kernel, by decide +kernel⟩
/-- a number from 0 to many - 1 is drawn -/
def spTake : Sp := fun vs H Q _ => ∃ (p : Addr) (n m : Int), vs = [.ref p, .int n] ∧ 0 < n ∧ n < 1073741824 ∧ Bag H p m ∧ m < 1048576 ∧
  ∀ (r : Int) (H' : Hp), 0 ≤ r → r < n → But p H H' → Bag H' p (m + 1) → Q (.int r) H'
theorem ok__law_take (T : Txt K mg) : Has P w K mg base CX0 1 "_law_take" ["_law_bag_here", "_law_many"] [] spTake := by
  refine has0 T.d__law_take sc__law_take (fun _ _ _ _ _ _ us hl => match us, hl with | [_, _], _ => rfl) (fun vs H Q E h => ?_) (fun cv A outer s H vs Q E hg hr h => ?_)
  · obtain ⟨p, n, m, rfl, _⟩ := h
    rfl
  · obtain ⟨p, n, m, rfl, n0, n1, ⟨d, e, c, hp, d0, e0, e1, c0, c1⟩, m1, q⟩ := h
    refine ⟨_, (pss_cons (ps_if (pt_cmpR op_gt (pe_ix (ix_listK (K := K) rfl) (pv 0) pe_int (fun _ _ => rfl)) pe_int (nomark _))
        (pss_cons (ps_set (i := 2) sc__law_take.nd rfl (.inl rfl) (pe_op op_modN (pe_callTy call_int1 (by rfl) T.m_int (by decide +kernel) (pa_cons (pe_ix (ix_listK (K := K) rfl) (pv 0) pe_int (fun _ _ => rfl)) pa_nil)) (pv 1)))
        (pss_cons (ps_asg (pe_op op_fdivN (pe_ix (ix_listK (K := K) rfl) (pv 0) pe_int (fun _ _ => rfl)) (pv 1)) (pg_sub (pv 0) pe_int set_list))
        (pss_one (ps_ret (pv 2)))))
        pss_nil)
        (pss_cons (ps_asg (pe_op op_add (pe_ix (ix_listK (K := K) rfl) (pv 0) pe_int (fun _ _ => rfl)) pe_int) (pg_sub (pv 0) pe_int set_list))
        (pss_cons (ps_set (i := 3) sc__law_take.nd rfl (.inl rfl) (pe_op op_add (pe_ix (ix_listK (K := K) rfl) (pv 0) pe_int (fun _ _ => rfl)) (pe_op op_mul pe_int (pe_ix (ix_listK (K := K) rfl) (pv 0) pe_int (fun _ _ => rfl)))))
        (pss_cons (ps_set (i := 4) sc__law_take.nd rfl (.inl rfl) (pe_op op_modN (pe_callTy call_int1 (by rfl) T.m_int (by decide +kernel) (pa_cons (pe_op op_add (pe_op op_pow (pv 3) pe_int) (pe_op op_mul pe_int (pe_ix (ix_listK (K := K) rfl) (pv 0) pe_int (fun _ _ => rfl)))) pa_nil)) pe_int))
        (pss_cons (ps_set (i := 4) sc__law_take.nd rfl (.inl rfl) (pe_op op_modN (pe_callTy call_int1 (by rfl) T.m_int (by decide +kernel) (pa_cons (pe_op op_add (pe_op op_add (pe_op op_mul (pv 4) (pv 4)) (pe_op op_mul pe_int (pe_ix (ix_listK (K := K) rfl) (pv 0) pe_int (fun _ _ => rfl)))) pe_int) pa_nil)) pe_int))
        (pss_one (ps_ret (pe_op op_modN (pe_callTy call_int1 (by rfl) T.m_int (by decide +kernel) (pa_cons (pe_op op_fdivN (pv 4) pe_int) pa_nil)) (pv 1))))))))), ?_⟩
    refine ⟨.ref p, rfl, p, _, 0, .int d, rfl, rfl, SqL.of hp, atI_nat (j := 0) rfl, d, 0, rfl, rfl, _, rfl, ite2 (fun z => ?_) (fun z => ?_)⟩
    · -- a digit of the cell
      refine ⟨.ref p, rfl, p, _, 0, .int d, rfl, rfl, SqL.of hp, atI_nat (j := 0) rfl, .inl ⟨d, rfl, .int n, rfl, d, n, rfl, rfl, by show n ≠ 0; omega, ?_⟩⟩
      refine ⟨.ref p, rfl, p, _, 0, .int d, rfl, rfl, SqL.of hp, atI_nat (j := 0) rfl, .int n, rfl, d, n, rfl, rfl, ⟨by omega, by omega⟩, ?_⟩
      refine ⟨.ref p, rfl, p, _, 0, 0, rfl, rfl, hp, rfl, ?_⟩
      refine ⟨.int (d.fmod n), rfl, q _ _ (fmod_ge d n0) (fmod_lt d n0) But.upd ⟨d.fdiv n, e, c, upd_same, fdiv_ge d0 (by omega), e0, e1, c0, by omega⟩⟩
    · -- a mixed number
      have hp1 : (upd H p (.lst [.int d, .int e, .int (c + 1)])) p = some (.lst [.int d, .int e, .int (c + 1)]) := upd_same
      refine ⟨.ref p, rfl, p, _, 2, .int c, rfl, rfl, SqL.of hp, atI_nat (j := 2) rfl, c, 1, rfl, rfl, ?_⟩
      refine ⟨.ref p, rfl, p, _, 2, 2, rfl, rfl, hp, rfl, ?_⟩
      refine ⟨.ref p, rfl, p, _, 1, .int e, rfl, rfl, SqL.of hp1, atI_nat (j := 1) rfl, .ref p, rfl, p, _, 2, .int (c + 1), rfl, rfl, SqL.of hp1, atI_nat (j := 2) rfl, 15485863, c + 1, rfl, rfl, .inl ⟨by decide, by decide⟩, e, 15485863 * (c + 1), rfl, rfl, ?_⟩
      refine ⟨_, rfl, e + 15485863 * (c + 1), 3, rfl, rfl, ⟨by decide, by decide, by omega⟩, ?_⟩
      refine ⟨.ref p, rfl, p, _, 2, .int (c + 1), rfl, rfl, SqL.of hp1, atI_nat (j := 2) rfl, 104729, c + 1, rfl, rfl, .inl ⟨by decide, by decide⟩, _, _, rfl, rfl, .inl ⟨_, rfl, _, 2305843009213693951, rfl, rfl, (by show (2305843009213693951 : Int) ≠ 0; decide), ?_⟩⟩
      have k0 := fmod_ge ((e + 15485863 * (c + 1)) ^ (3 : Int).toNat + 104729 * (c + 1)) (b := 2305843009213693951) (by decide)
      have k1 := fmod_lt ((e + 15485863 * (c + 1)) ^ (3 : Int).toNat + 104729 * (c + 1)) (b := 2305843009213693951) (by decide)
      refine ⟨_, rfl, _, rfl, _, _, rfl, rfl, .inl ⟨Int.lt_of_lt_of_le (by decide) k0, Int.lt_trans k1 (by decide)⟩, .ref p, rfl, p, _, 1, .int e, rfl, rfl, SqL.of hp1, atI_nat (j := 1) rfl, 48271, e, rfl, rfl, .inl ⟨by decide, by decide⟩, _, _, rfl, rfl, _, _, rfl, rfl, .inl ⟨_, rfl, _, 2305843009213693921, rfl, rfl, (by show (2305843009213693921 : Int) ≠ 0; decide), ?_⟩⟩
      refine ⟨_, rfl, _, 4096, rfl, rfl, ⟨(by show (4096 : Int) ≠ 0; decide), (by decide : (4096 : Int).natAbs < 1073741824)⟩, .inl ⟨_, rfl, .int n, rfl, _, n, rfl, rfl, by show n ≠ 0; omega, ?_⟩⟩
      exact q _ _ (fmod_ge _ n0) (fmod_lt _ n0) But.upd ⟨d, e, c + 1, upd_same, d0, e0, e1, by omega, by omega⟩

theorem sc__law_bag : FnScope ["_law_script", "_law_at", "_law_cell", "_law_digits"] ["_law_script", "_law_at"] (defScope s__law_bag) := ⟨rfl, rfl, rfl, by decide +kernel, rfl, by decide +kernel, by decide +kernel⟩
/-- the bag of a cell -/
def spBag (K : PySem.W.Frag) : Sp := fun vs H Q _ => ∃ (a : Addr) (ns : List Int) (i : Int), vs = [.ref a, .int i] ∧ SqL K H a (ns.map V.int) ∧ 0 ≤ i ∧ i < 64 ∧
  ∀ (p : Addr) (H' : Hp), Same H H' → H p = none → Bag H' p 0 → Q (.ref p) H'
theorem ok__law_bag (T : Txt K mg) : Has P w K mg base CX0 1 "_law_bag" ["_law_script", "_law_at"] [] (spBag K) := by
  refine has0 T.d__law_bag sc__law_bag (fun _ _ _ _ _ _ us hl => match us, hl with | [_, _], _ => rfl) (fun vs H Q E h => ?_) (fun cv A outer s H vs Q E hg hr h => ?_)
  · obtain ⟨a, ns, i, rfl, _⟩ := h
    rfl
  · obtain ⟨a, ns, i, rfl, hS, i0, i1, q⟩ := h
    refine ⟨_, (pss_cons (ps_set (i := 2) sc__law_bag.nd rfl (.inl rfl) (pe_ifExp (pt_cmpR op_lt (pv 1) (pe_callB (call_lenK (K := K) rfl) (by rfl) T.m_len PySem.boot_len (pa_cons (pv 0) pa_nil)) (nomark _)) (pe_ix (ix_listK (K := K) rfl) (pv 0) (pv 1) (fun _ _ => rfl)) pe_int))
        (pss_cons (ps_set (i := 3) sc__law_bag.nd rfl (.inl rfl) (pe_ifExp (pt_cmpR op_ge (pe_callB call_abs (by rfl) T.m_abs (by decide +kernel) (pa_cons (pv 2) pa_nil)) (pe_op op_pow pe_int pe_int) (nomark _)) (pe_callB call_abs (by rfl) T.m_abs (by decide +kernel) (pa_cons (pv 2) pa_nil)) pe_int))
        (pss_one (ps_ret (pe_lst (pa_cons (pv 3) (pa_cons (pe_op op_add (pe_op op_add (pe_op op_modN (pe_callTy call_int1 (by rfl) T.m_int (by decide +kernel) (pa_cons (pv 2) pa_nil)) pe_int) (pe_op op_mul pe_int (pv 1))) pe_int) (pa_cons pe_int pa_nil)))))))), ?_⟩
    have fin : ∀ (x y : Int), 0 ≤ y → ∀ (p : Addr), H p = none → Q (.ref p) (L2.upd H p (.lst [.int y, .int (x.fmod 2147483629 + 2147483648 * i + 77), .int 0])) := fun x y y0 p hp => by
      have k0 := fmod_ge x (b := 2147483629) (by decide)
      have k1 := fmod_lt x (b := 2147483629) (by decide)
      exact q p _ (same_new hp) hp ⟨_, _, _, upd_same, y0, by omega, by omega, by omega, by omega⟩
    refine ⟨.int i, rfl, .ref a, rfl, a, _, rfl, .inl hS, i, _, rfl, rfl, _, rfl, ite2 (fun z => ?_) (fun z => ?_)⟩
    · have z1 := of_decide_eq_true z
      have z2 : i.toNat < ns.length := by
        rw [List.length_map] at z1
        omega
      have z3 : (ns.map V.int)[i.toNat]? = some (.int ns[i.toNat]) := by
        rw [List.getElem?_map, List.getElem?_eq_getElem z2]
        rfl
      have z4 : atI (ns.map V.int) i = some (.int ns[i.toNat]) := by
        have e := atI_nat z3
        rwa [Int.toNat_of_nonneg i0] at e
      refine ⟨.ref a, rfl, .int i, rfl, a, _, i, .int ns[i.toNat], rfl, rfl, hS, z4, ?_⟩
      generalize ns[i.toNat] = x
      refine ⟨_, rfl, x, rfl, 10, 18, rfl, rfl, ⟨by decide, by decide, by decide⟩, _, _, rfl, rfl, _, rfl, ite2 (fun y => ?_) (fun y => ?_)⟩
      · refine ⟨_, rfl, x, rfl, _, rfl, _, rfl, .inl ⟨x, rfl, x, 2147483629, rfl, rfl, (by show (2147483629 : Int) ≠ 0; decide), _, rfl, 2147483648, i, rfl, rfl, .inl ⟨by decide, by decide⟩, _, _, rfl, rfl, _, _, rfl, rfl, (by show 3 ≤ sizeLine; decide), ?_⟩⟩
        exact fin x _ (by split <;> omega)
      · refine ⟨_, rfl, _, rfl, .inl ⟨x, rfl, x, 2147483629, rfl, rfl, (by show (2147483629 : Int) ≠ 0; decide), _, rfl, 2147483648, i, rfl, rfl, .inl ⟨by decide, by decide⟩, _, _, rfl, rfl, _, _, rfl, rfl, (by show 3 ≤ sizeLine; decide), ?_⟩⟩
        exact fin x _ (Int.le_refl 0)
    · -- no such cell
      refine ⟨_, rfl, 0, rfl, 10, 18, rfl, rfl, ⟨by decide, by decide, by decide⟩, _, _, rfl, rfl, _, rfl, ?_⟩
      refine iteF ?_
      refine ⟨_, rfl, _, rfl, .inl ⟨0, rfl, 0, 2147483629, rfl, rfl, (by show (2147483629 : Int) ≠ 0; decide), _, rfl, 2147483648, i, rfl, rfl, .inl ⟨by decide, by decide⟩, _, _, rfl, rfl, _, _, rfl, rfl, (by show 3 ≤ sizeLine; decide), ?_⟩⟩
      exact fin 0 _ (Int.le_refl 0)

theorem sc__law_of : FnScope ["_law_bag_here", "_law_some"] ["_law_bag_here", "_law_some"] (defScope s__law_of) := ⟨rfl, rfl, rfl, by decide +kernel, rfl, by decide +kernel, by decide +kernel⟩
/-- one of some values is drawn -/
def spOf (K : PySem.W.Frag) : Sp := fun vs H Q _ => ∃ (p l : Addr) (xs : List V) (m : Int), vs = [.ref p, .ref l] ∧ Bag H p m ∧ m < 1048576 ∧ l ≠ p ∧ SqL K H l xs ∧ 0 < xs.length ∧ xs.length < 1000 ∧
  ∀ (j : Nat) (v : V) (H' : Hp), xs[j]? = some v → But p H H' → Bag H' p (m + 1) → Q v H'
theorem ok__law_of (T : Txt K mg) : Has P w K mg base CX0 2 "_law_of" ["_law_bag_here", "_law_some"] [] (spOf K) := by
  refine has0 T.d__law_of sc__law_of (fun _ _ _ _ _ _ us hl => match us, hl with | [_, _], _ => rfl) (fun vs H Q E h => ?_) (fun cv A outer s H vs Q E hg hr h => ?_)
  · obtain ⟨p, l, xs, m, rfl, _⟩ := h
    rfl
  · obtain ⟨p, l, xs, m, rfl, hB, m1, ne, hS, x0, x1, q⟩ := h
    refine ⟨_, (pss_one (ps_ret (pe_ix (ix_listK (K := K) rfl) (pv 1) (pe_fn (ok__law_take T) hg (hr.mono (by decide)) (by rfl) (pa_cons (pv 0) (pa_cons (pe_callB (call_lenK (K := K) rfl) (by rfl) T.m_len PySem.boot_len (pa_cons (pv 1) pa_nil)) pa_nil))) (fun _ _ => rfl)))), ?_⟩
    refine ⟨.ref l, rfl, .ref p, rfl, .ref l, rfl, l, _, rfl, .inl hS, p, (xs.length : Int), m, rfl, by omega, by omega, hB, m1, fun r H' r0 r1 b hB' => ?_⟩
    have r2 : r.toNat < xs.length := by omega
    have e := List.getElem?_eq_getElem r2
    have e2 : atI xs r = some xs[r.toNat] := by
      have e3 := atI_nat e
      rwa [Int.toNat_of_nonneg r0] at e3
    exact ⟨l, xs, r, _, rfl, rfl, b.seq ne hS, e2, q _ _ _ e b hB'⟩

theorem sc__law_number : FnScope ["_law_bag_here", "_law_road", "_law_number_here", "_law_turn"] ["_law_bag_here"] (defScope s__law_number) := ⟨rfl, rfl, rfl, by decide +kernel, rfl, by decide +kernel, by decide +kernel⟩
/-- a number is drawn: below 256 ** 63 -/
def spNumber : Sp := fun vs H Q _ => ∃ (p : Addr) (m : Int), vs = [.ref p] ∧ Bag H p m ∧ m < 1000000 ∧
  ∀ (n : Int) (H' : Hp), 0 ≤ n → n < 256 ^ 63 → But p H H' → Bag H' p (m + 70) → Q (.int n) H'
theorem ok__law_number (T : Txt K mg) : Has P w K mg base CX0 3 "_law_number" ["_law_bag_here"] [] spNumber := by
  refine has0 T.d__law_number sc__law_number (fun _ _ _ _ _ _ us hl => match us, hl with | [_], _ => rfl) (fun vs H Q E h => ?_) (fun cv A outer s H vs Q E hg hr h => ?_)
  · obtain ⟨p, m, rfl, _⟩ := h
    rfl
  · obtain ⟨p, m, rfl, hB, m1, q⟩ := h
    refine ⟨_, (pss_cons (ps_set (i := 1) sc__law_number.nd rfl (.inl rfl) (pe_fn (ok__law_take T) hg (hr.mono (by decide)) (by rfl) (pa_cons (pv 0) (pa_cons pe_int pa_nil))))
        (pss_cons (ps_if (pt_cmpR op_eq (pv 1) pe_int (nomark _))
        (pss_one (ps_ret (pe_fn (ok__law_of T) hg (hr.mono (by decide)) (by rfl) (pa_cons (pv 0) (pa_cons (pe_lst (pa_cons pe_int (pa_cons pe_int (pa_cons pe_int (pa_cons pe_int (pa_cons pe_int (pa_cons pe_int (pa_cons pe_int (pa_cons pe_int (pa_cons pe_int (pa_cons pe_int (pa_cons pe_int (pa_cons (pe_op op_pow pe_int pe_int) (pa_cons (pe_op op_sub (pe_op op_pow pe_int pe_int) pe_int) pa_nil)))))))))))))) pa_nil)))))
        pss_nil)
        (pss_cons (ps_if (pt_cmpR op_eq (pv 1) pe_int (nomark _))
        (pss_one (ps_ret (pe_fn (ok__law_take T) hg (hr.mono (by decide)) (by rfl) (pa_cons (pv 0) (pa_cons pe_int pa_nil)))))
        pss_nil)
        (pss_cons (ps_set (i := 2) sc__law_number.nd rfl (.inl rfl) pe_int)
        (pss_cons (ps_for PassesOwn.never rfl (pi_range1 (by rfl) T.m_range (pa_cons (pe_op op_add pe_int (pe_fn (ok__law_take T) hg (hr.mono (by decide)) (by rfl) (pa_cons (pv 0) (pa_cons (pe_ix (ix_listK (K := K) rfl) (pe_lst (pa_cons pe_int (pa_cons pe_int pa_nil))) (pe_op op_sub (pv 1) pe_int) (fun _ _ => rfl)) pa_nil)))) pa_nil)) (pg_name (i := 3) sc__law_number.nd rfl (.inl rfl))
        (pss_one (ps_set (i := 2) sc__law_number.nd rfl (.inl rfl) (pe_op op_add (pe_op op_mul (pv 2) pe_int) (pe_fn (ok__law_take T) hg (hr.mono (by decide)) (by rfl) (pa_cons (pv 0) (pa_cons pe_int pa_nil)))))))
        (pss_one (ps_ret (pv 2)))))))), ?_⟩
    refine ⟨.ref p, rfl, p, 4, m, rfl, by decide, by decide, hB, by omega, fun r H1 r0 r1 b1 hB1 => ?_⟩
    refine ⟨_, rfl, rfl, _, rfl, ite2 (fun z => ?_) (fun z => ?_)⟩
    · -- an edge
      refine ⟨.ref p, rfl, 256, 62, rfl, rfl, ⟨by decide, by decide, by decide⟩, 256, 63, rfl, rfl, ⟨by decide, by decide, by decide⟩, _, _, rfl, rfl, (by show 13 ≤ sizeLine; decide), fun l hl => ?_⟩
      refine ⟨p, l, _, m + 1, rfl, hB1.new hl, by omega, (hB1.ne hl).symm, SqL.of upd_same, by show 0 < 13; decide, by show 13 < 1000; decide, fun j v H2 e b2 hB2 => ?_⟩
      have big : ∀ n ∈ ([0, 1, 190, 191, 192, 193, 255, 256, 257, 65535, 65536, 256 ^ 62, 256 ^ 63 - 1] : List Int), 0 ≤ n ∧ n < 256 ^ 63 := by decide
      have e' : (([0, 1, 190, 191, 192, 193, 255, 256, 257, 65535, 65536, 256 ^ 62, 256 ^ 63 - 1] : List Int).map V.int)[j]? = some v := e
      rw [List.getElem?_map] at e'
      obtain ⟨n, e1, rfl⟩ := Option.map_eq_some_iff.mp e'
      obtain ⟨k1, k2⟩ := big n (List.mem_of_getElem? e1)
      exact q n H2 k1 k2 (b1.trans ((But.new hl).trans b2)) (hB2.more (by omega))
    · refine ⟨_, rfl, rfl, _, rfl, ite2 (fun y => ?_) (fun y => ?_)⟩
      · -- a small one
        refine ⟨.ref p, rfl, p, 400, m + 1, rfl, by decide, by decide, hB1, by omega, fun n H2 n0 n1 b2 hB2 => ?_⟩
        exact q n H2 n0 (Int.lt_trans n1 (by decide)) (b1.trans b2) (hB2.more (by omega))
      · -- some bytes
        have c1 : r ≠ 0 := fun e => z (decide_eq_true (by rw [e]))
        have c2 : r ≠ 1 := fun e => y (decide_eq_true (by rw [e]))
        obtain ⟨k, hk, ek, kl⟩ : ∃ (k : Int), atI [V.int 3, V.int 63] (r - 2) = some (.int k) ∧ 0 < k ∧ k ≤ 63 := by
          have c3 : r = 2 ∨ r = 3 := by omega
          rcases c3 with rfl | rfl
          · exact ⟨3, rfl, by decide, by decide⟩
          · exact ⟨63, rfl, by decide, by decide⟩
        refine ⟨.ref p, rfl, (by show 2 ≤ sizeLine; decide), fun l hl => ?_⟩
        refine ⟨_, rfl, r, 2, rfl, rfl, l, _, r - 2, .int k, rfl, rfl, SqL.of upd_same, hk, ?_⟩
        refine ⟨p, k, m + 1, rfl, ek, by omega, hB1.new hl, by omega, fun r2 H2 g0 g1 b2 hB2 => ?_⟩
        refine ⟨1, r2, rfl, rfl, 1 + r2, rfl, by omega, by omega, ?_⟩
        have b12 : But p H H2 := b1.trans ((But.new hl).trans b2)
        refine for_range (lo := 0) (n := (1 + r2).toNat) (fun i σ H3 => ∃ (n : Int) (y : Option V), σ = [some (.ref p), some (.int r), some (.int n), y] ∧ 0 ≤ n ∧ n < 256 ^ i ∧ But p H H3 ∧ Bag H3 p (m + 2 + i)) ?_ ?_ ?_
        · exact ⟨0, none, rfl, by decide, by decide, b12, hB2.more (by omega)⟩
        · rintro i σ H3 hi ⟨n, y, rfl, n0, n1, b3, hB3⟩
          refine ⟨_, rfl, n, 256, rfl, rfl, .inr ⟨by decide, by decide⟩, .ref p, rfl, p, 256, m + 2 + i, rfl, by decide, by decide, hB3, by omega, fun d H4 d0 d1 b4 hB4 => ?_⟩
          refine ⟨_, _, rfl, rfl, n * 256 + d, some (.int (0 + i)), rfl, by omega, ?_, b3.trans b4, hB4.more (by omega)⟩
          rw [Int.pow_succ]
          omega
        · rintro σ H3 ⟨n, y, rfl, n0, n1, b3, hB3⟩
          refine ⟨_, rfl, q n H3 n0 (Int.lt_of_lt_of_le n1 ?_) b3 (hB3.more (by omega))⟩
          have le : (1 + r2).toNat ≤ 63 := by omega
          have := Nat.pow_le_pow_right (n := 256) (by decide) le
          exact_mod_cast this

theorem sc__law_code : FnScope ["_law_number_here", "_law_digits"] ["_law_number_here"] (defScope s__law_code) := ⟨rfl, rfl, rfl, by decide +kernel, rfl, by decide +kernel, by decide +kernel⟩
def spLawCode : Sp := fun vs H Q _ => ∃ n : Nat, vs = [.int n] ∧ n < 256 ^ 63 ∧ ∀ (p : Addr) (H' : Hp), H p = none → Same H H' → H' p = some (.lst ((codeN n).map V.int)) → Q (.ref p) H'
theorem ok__law_code (T : Txt K mg) : Has P w K mg base CX0 1 "_law_code" ["_law_number_here"] [] spLawCode := by
  refine has0 T.d__law_code sc__law_code (fun _ _ _ _ _ _ us hl => match us, hl with | [_], _ => rfl) (fun vs H Q E h => ?_) (fun cv A outer s H vs Q E hg hr h => ?_)
  · obtain ⟨n, rfl, _⟩ := h
    rfl
  · obtain ⟨n, rfl, hn, q⟩ := h
    refine ⟨_, (pss_cons (ps_if (pt_cmpR op_lt (pv 0) pe_int (nomark _))
        (pss_one (ps_ret (pe_lst (pa_cons (pv 0) pa_nil))))
        pss_nil)
        (pss_cons (ps_set (i := 1) sc__law_code.nd rfl (.inl rfl) (pe_lst pa_nil))
        (pss_cons (ps_while PassesOwn.never (pt_cmpR op_gt (pv 0) pe_int (nomark _))
        (pss_cons (ps_set (i := 1) sc__law_code.nd rfl (.inl rfl) (pe_op op_cat (pe_lst (pa_cons (pe_op op_modN (pe_callTy call_int1 (by rfl) T.m_int (by decide +kernel) (pa_cons (pv 0) pa_nil)) pe_int) pa_nil)) (pv 1)))
        (pss_one (ps_set (i := 0) sc__law_code.nd rfl (.inl rfl) (pe_op op_fdivN (pv 0) pe_int)))))
        (pss_one (ps_ret (pe_op op_cat (pe_lst (pa_cons (pe_op op_add pe_int (pe_callB (call_lenK (K := K) rfl) (by rfl) T.m_len PySem.boot_len (pa_cons (pv 1) pa_nil))) pa_nil)) (pv 1))))))), ?_⟩
    refine ⟨_, rfl, (n : Int), 192, rfl, rfl, _, rfl, ite2 (fun z => ?_) (fun z => ?_)⟩
    · have z1 : n < 192 := by
        have := of_decide_eq_true z
        omega
      refine ⟨_, rfl, (by show 1 ≤ sizeLine; decide), fun p hp => q p _ hp (same_new hp) ?_⟩
      rw [upd_same]
      unfold codeN
      rw [if_pos z1]
      rfl
    · have z1 : ¬ n < 192 := fun c => z (decide_eq_true (by omega))
      refine ⟨Nat.zero_le _, fun p0 hp0 => ?_⟩
      refine ⟨fun m σ H1 => ∃ (k : Nat) (p : Addr) (ds : List Int), σ = [some (.int k), some (.ref p)] ∧ m = k ∧ Same H H1 ∧ H1 p = some (.lst (ds.map V.int)) ∧ digs n = digs k ++ ds,
        ⟨n, n, p0, [], rfl, rfl, same_new hp0, upd_same, by simp⟩, ?_⟩
      rintro m σ H1 ⟨k, p, ds, rfl, rfl, sm, e1, e2⟩
      have l1 := digs_len 63 n hn
      have hl : ds.length < 64 := by
        have l2 := l1
        rw [e2, List.length_append] at l2
        omega
      refine ⟨_, rfl, (m : Int), 0, rfl, rfl, _, rfl, ite2 (fun z => ?_) (fun z => ?_)⟩
      · have y1 := of_decide_eq_true z
        have kne : m ≠ 0 := by omega
        refine ⟨fun σ' H' => ∃ (p' : Addr) (ds' : List Int), σ' = [some (.int ((m / 256 : Nat) : Int)), some (.ref p')] ∧ Same H H' ∧ H' p' = some (.lst (ds'.map V.int)) ∧ digs n = digs (m / 256) ++ ds', ?_, ?_⟩
        · rintro σ' H' ⟨p', ds', a1, a2, a3, a4⟩
          exact ⟨m / 256, by omega, m / 256, p', ds', a1, rfl, a2, a3, a4⟩
        · refine ⟨_, rfl, .inl ⟨(m : Int), rfl, (m : Int), 256, rfl, rfl, (by show (256 : Int) ≠ 0; decide), (by show 1 ≤ sizeLine; decide), fun p1 hp1 => ?_⟩⟩
          have e1' : upd H1 p1 (.lst [.int ((m : Int).fmod 256)]) p = some (.lst (ds.map V.int)) := by
            rw [upd_ne (ne_of_none e1 hp1)]
            exact e1
          refine ⟨.ref p, rfl, p1, p, _, _, rfl, rfl, upd_same, e1', ?_, fun p2 hp2 => ?_⟩
          · show [V.int _].length + (ds.map V.int).length ≤ sizeLine
            rw [List.length_map]
            exact Nat.le_of_lt (small1000 (by show 1 + ds.length ≤ 1000; omega))
          · refine ⟨_, rfl, (m : Int), 256, rfl, rfl, ⟨(by show (256 : Int) ≠ 0; decide), (by decide : (256 : Int).natAbs < 1073741824)⟩, p2, ((m % 256 : Nat) : Int) :: ds, ?_, ?_, ?_, ?_⟩
            · show [some (V.int ((m : Int).fdiv 256)), some (.ref p2)] = _
              rw [Int.fdiv_eq_ediv_of_nonneg _ (by decide)]
              rfl
            · exact (sm.trans (same_new hp1)).trans (same_new hp2)
            · rw [upd_same]
              show some (HO.lst (V.int ((m : Int).fmod 256) :: ds.map V.int)) = _
              rw [Int.fmod_eq_emod_of_nonneg _ (by decide)]
              rfl
            · rw [e2, digs_pos kne]
              simp
      · have y1 : ¬ ((0 : Int) < m) := fun c => z (decide_eq_true c)
        have k0 : m = 0 := by omega
        subst k0
        rw [digs_zero, List.nil_append] at e2
        refine ⟨.ref p, rfl, p, _, rfl, .inl (SqL.of e1), 191, _, rfl, rfl, (by show 1 ≤ sizeLine; decide), fun p2 hp2 => ?_⟩
        have e1' : upd H1 p2 (.lst [.int (191 + (ds.map V.int).length)]) p = some (.lst (ds.map V.int)) := by
          rw [upd_ne (ne_of_none e1 hp2)]
          exact e1
        refine ⟨.ref p, rfl, p2, p, _, _, rfl, rfl, upd_same, e1', ?_, fun p3 hp3 => ?_⟩
        · show [V.int _].length + (ds.map V.int).length ≤ sizeLine
          rw [List.length_map]
          exact Nat.le_of_lt (small1000 (by show 1 + ds.length ≤ 1000; omega))
        · refine q p3 _ ?_ ?_ ?_
          · exact (sm.trans (same_new hp2)).free hp3
          · exact (sm.trans (same_new hp2)).trans (same_new hp3)
          · rw [upd_same]
            unfold codeN
            rw [if_neg z1, e2, List.length_map]
            rfl

theorem sc_is_integer : FnScope ["thing"] ["thing"] (defScope s_is_integer) := ⟨rfl, rfl, rfl, by decide +kernel, rfl, by decide +kernel, by decide +kernel⟩
/-- the built-in types of plain things -/
def plainTys : List String := ["int", "bool", "NoneType", "str", "list", "tuple", "dict"]
def spIsInteger (K : PySem.W.Frag) : Sp := fun vs H Q _ => ∃ (x : V) (n : String), vs = [x] ∧ TyX K H x (.type n) ∧ n ∈ plainTys ∧ Q (.bl (n == "int")) H
theorem ok_is_integer (T : Txt K mg) : Has P w K mg base CX0 1 "is_integer" ["thing"] [] (spIsInteger K) := by
  refine has0 T.d_is_integer sc_is_integer (fun _ _ _ _ _ _ us hl => match us, hl with | [_], _ => rfl) (fun vs H Q E h => ?_) (fun cv A outer s H vs Q E hg hr h => ?_)
  · obtain ⟨x, n, rfl, _⟩ := h
    rfl
  · obtain ⟨x, n, rfl, ty, mem, q⟩ := h
    refine ⟨_, (pss_one (ps_ret (pe_and (pe_callB (call_isiK' (K := K) rfl) (by rfl) T.m_isinstance (by decide +kernel) (pa_cons (pv 0) (pa_cons (pe_bltn (v := .ty "int") (by rfl) T.m_int (by decide +kernel) rfl) pa_nil))) (pe_one (pe_not (pe_callB (call_isiK' (K := K) rfl) (by rfl) T.m_isinstance (by decide +kernel) (pa_cons (pv 0) (pa_cons (pe_bltn (v := .ty "bool") (by rfl) T.m_bool (by decide +kernel) rfl) pa_nil)))))))), ?_⟩
    have all : ∀ n ∈ plainTys, ∃ b c : Bool, kitB n "int" = some b ∧ kitB n "bool" = some c ∧ (b && !c) = (n == "int") := by
      intro n mem
      simp only [plainTys, List.mem_cons, List.not_mem_nil, or_false] at mem
      rcases mem with rfl | rfl | rfl | rfl | rfl | rfl | rfl
      · exact ⟨true, false, by decide +kernel, by decide +kernel, by decide +kernel⟩
      · exact ⟨true, true, by decide +kernel, by decide +kernel, by decide +kernel⟩
      all_goals exact ⟨false, false, by decide +kernel, by decide +kernel, by decide +kernel⟩
    obtain ⟨b, c, e1, e2, e3⟩ := all n mem
    rw [← e3] at q
    refine ⟨x, rfl, x, .ty "int", _, _, b, rfl, .ty "int", ty, kit_ty e1, b, rfl, ?_⟩
    cases b with
    | true =>
      refine iteT ?_
      exact ⟨x, rfl, x, .ty "bool", _, _, c, rfl, .ty "bool", ty, kit_ty e2, c, rfl, q⟩
    | false => exact iteF q

/-! ### how a code is read -/
/-- a thing of a built-in type -/
def Plain (K : PySem.W.Frag) (H : Hp) (x : V) : Prop := ∃ n : String, TyX K H x (.type n) ∧ n ∈ plainTys
theorem Plain.same {K : PySem.W.Frag} {H H' : Hp} {x : V} (h : Plain K H x) (s : Same H H') : Plain K H' x := by
  obtain ⟨n, ty, m⟩ := h
  exact ⟨n, tyx_same s ty, m⟩
theorem plain_int {K : PySem.W.Frag} {H : Hp} (i : Int) : Plain K H (.int i) := ⟨"int", .base (.int i), by decide⟩
/-- the byte that an entry is -/
def byteOf : V → Option Int
  | .int i => if 0 ≤ i ∧ i ≤ 255 then some i else none
  | _ => none
def codeSize (f : Int) : Int := if f < 192 then 1 else f - 190
def lowOf : List Int → Int
  | [] => 0
  | [f] => if f = 192 then 192 else 1
  | _ => 0
def highOf : List Int → Int
  | [] => 254
  | _ => 255
/-- a further byte is wanted -/
def wants : List Int → Bool
  | [] => true
  | f :: r => decide (((f :: r).length : Int) < codeSize f)
/-- the number of digits -/
def valOf (ds : List Int) : Int := ds.foldl (fun n d => n * 256 + d) 0
def codeVal : List Int → Int
  | [f] => f
  | c => valOf (c.drop 1)
inductive Res where
  | num (n e : Int)
  | wrong (i : Int)
  | unf (n : Int)
/-- the code that begins at a place; c: what was read of it; room: how many entries may still be read -/
def scan (xs : List V) (a : Nat) : Nat → List Int → Res
  | 0, c => if wants c then .unf xs.length else .num (codeVal c) (a + c.length)
  | room + 1, c => if wants c then (match xs[a + c.length]? with
      | none => .unf xs.length
      | some x => (match byteOf x with
        | none => .wrong (a + c.length)
        | some b => if lowOf c ≤ b ∧ b ≤ highOf c then scan xs a room (c ++ [b]) else .wrong (a + c.length)))
    else .num (codeVal c) (a + c.length)
/-- what number_at finds -/
def numAt (xs : List V) (a : Nat) : Res := scan xs a (xs.length - a) []
/-- what was read of a code -/
structure Begun (c : List Int) : Prop where
  byte : ∀ d ∈ c, 0 ≤ d ∧ d ≤ 255
  first : ∀ f r, c = f :: r → f ≤ 254
theorem Begun.nil : Begun [] := ⟨fun _ m => (nomatch m), fun _ _ e => (nomatch e)⟩
theorem Begun.more {c : List Int} {b : Int} (h : Begun c) (b0 : 0 ≤ b) (b1 : b ≤ 255) (hb : b ≤ highOf c) : Begun (c ++ [b]) := by
  refine ⟨fun d m => ?_, fun f r e => ?_⟩
  · rcases List.mem_append.mp m with m | m
    · exact h.byte d m
    · have := List.mem_singleton.mp m
      omega
  · cases c with
    | nil =>
      have e1 : b = f := (List.cons.inj e).1
      have : b ≤ 254 := hb
      omega
    | cons g r' =>
      have e1 : g = f := (List.cons.inj e).1
      rw [← e1]
      exact h.first g r' rfl
theorem Begun.len {c : List Int} (h : Begun c) (w : wants c = true) : c.length < 64 := by
  cases c with
  | nil => decide
  | cons f r =>
    have w1 : ((f :: r).length : Int) < codeSize f := of_decide_eq_true w
    have := h.first f r rfl
    unfold codeSize at w1
    split at w1 <;> omega
theorem byteOf_some {x : V} {b : Int} (h : byteOf x = some b) : x = .int b ∧ 0 ≤ b ∧ b ≤ 255 := by
  cases x with
  | int i =>
    have h' : (if 0 ≤ i ∧ i ≤ 255 then some i else none) = some b := h
    by_cases c : 0 ≤ i ∧ i ≤ 255
    · rw [if_pos c] at h'
      have e := Option.some.inj h'
      subst e
      exact ⟨rfl, c.1, c.2⟩
    · rw [if_neg c] at h'
      cases h'
  | _ => cases h
theorem byteOf_int {i : Int} (h : ¬ (0 ≤ i ∧ i ≤ 255)) : byteOf (.int i) = none := if_neg h
theorem tyx_int {K : PySem.W.Frag} {H : Hp} {x : V} {t : Value} (h : TyX K H x t) : (t = .type "int" ↔ ∃ i, x = .int i) := by
  have no : ∀ {s : String}, s ≠ "int" → ¬ (Value.type s = .type "int") := fun n e => n (Value.type.inj e)
  cases h with
  | base b =>
    cases b with
    | int i => exact ⟨fun _ => ⟨i, rfl⟩, fun _ => rfl⟩
    | ins => exact ⟨fun e => (nomatch e), fun ⟨_, e⟩ => (nomatch e)⟩
    | _ => exact ⟨fun e => (no (by decide) e).elim, fun ⟨_, e⟩ => (nomatch e)⟩
  | _ => exact ⟨fun e => (no (by decide) e).elim, fun ⟨_, e⟩ => (nomatch e)⟩
/-- the reading of «len(code) == 0 or len(code) < code_size(code[0])», code in slot i -/
def tWants (K : PySem.W.Frag) (i : Nat) : TT := fun σ H Q => ∃ (p : Addr) (c : List Int), σ[i]? = some (some (.ref p)) ∧ SqL K H p (c.map V.int) ∧ Q (wants c) H

/-! ### the order of codes -/
theorem valOf_app (a b : List Int) : ∀ s : Int, (a ++ b).foldl (fun n d => n * 256 + d) s = b.foldl (fun n d => n * 256 + d) (a.foldl (fun n d => n * 256 + d) s) := fun s => List.foldl_append
theorem fold_shift : ∀ (ds : List Int) (s : Int), ds.foldl (fun n d => n * 256 + d) s = s * 256 ^ ds.length + valOf ds
  | [], s => by
    show s = s * 256 ^ 0 + 0
    omega
  | d :: ds, s => by
    have e1 := fold_shift ds (s * 256 + d)
    have e2 := fold_shift ds (0 * 256 + d)
    show ds.foldl _ (s * 256 + d) = s * 256 ^ (ds.length + 1) + ds.foldl _ (0 * 256 + d)
    rw [e1, e2, Int.pow_succ, Int.add_mul, Int.add_mul, Int.mul_assoc, Int.mul_comm 256 (256 ^ ds.length)]
    omega
theorem valOf_cons (d : Int) (ds : List Int) : valOf (d :: ds) = d * 256 ^ ds.length + valOf ds := by
  show ds.foldl _ (0 * 256 + d) = _
  rw [fold_shift, show (0 : Int) * 256 + d = d by omega]
theorem valOf_snoc (ds : List Int) (d : Int) : valOf (ds ++ [d]) = valOf ds * 256 + d := by
  unfold valOf
  rw [List.foldl_append]
  rfl
theorem pow_pos256 (k : Nat) : (0 : Int) < 256 ^ k := Int.pow_pos (by decide)
theorem valOf_bounds : ∀ (ds : List Int), (∀ d ∈ ds, 0 ≤ d ∧ d ≤ 255) → 0 ≤ valOf ds ∧ valOf ds < 256 ^ ds.length
  | [], _ => ⟨Int.le_refl 0, by show (0 : Int) < 256 ^ 0; decide⟩
  | d :: ds, h => by
    obtain ⟨i1, i2⟩ := valOf_bounds ds fun x m => h x (List.mem_cons_of_mem _ m)
    obtain ⟨d0, d1⟩ := h d List.mem_cons_self
    have p := pow_pos256 ds.length
    rw [valOf_cons, List.length_cons, Int.pow_succ]
    have m1 : 0 ≤ d * 256 ^ ds.length := Int.mul_nonneg d0 (Int.le_of_lt p)
    have m2 : d * 256 ^ ds.length ≤ 255 * 256 ^ ds.length := Int.mul_le_mul_of_nonneg_right d1 (Int.le_of_lt p)
    omega
theorem valOf_digs (n : Nat) : valOf (digs n) = n := by
  induction n using Nat.strongRecOn with
  | ind n ih =>
    by_cases e : n = 0
    · rw [e, digs_zero]
      rfl
    · rw [digs_pos e, valOf_snoc, ih (n / 256) (by omega)]
      omega
/-- the first digit is not 0 -/
theorem digs_first (n : Nat) : ∀ d r, digs n = d :: r → 1 ≤ d := by
  induction n using Nat.strongRecOn with
  | ind n ih =>
    intro d r h
    by_cases e : n = 0
    · rw [e, digs_zero] at h
      cases h
    · rw [digs_pos e] at h
      cases q : digs (n / 256) with
      | nil =>
        rw [q] at h
        have hd : ((n % 256 : Nat) : Int) = d := (List.cons.inj h).1
        have z : n / 256 = 0 := by
          have v := valOf_digs (n / 256)
          rw [q] at v
          have v' : (0 : Int) = ((n / 256 : Nat) : Int) := v
          omega
        omega
      | cons x y =>
        rw [q] at h
        have hd : x = d := (List.cons.inj h).1
        have := ih (n / 256) (by omega) x y q
        omega
theorem digs_ne {n : Nat} (h : n ≠ 0) : digs n ≠ [] := by
  rw [digs_pos h]
  simp
/-- a number has its greatest digit's weight -/
theorem digs_low {n : Nat} (h : n ≠ 0) : ((256 ^ ((digs n).length - 1) : Nat) : Int) ≤ n := by
  cases q : digs n with
  | nil => exact (digs_ne h q).elim
  | cons d r =>
    have d1 := digs_first n d r q
    have v := valOf_digs n
    rw [q, valOf_cons] at v
    have b := valOf_bounds r fun x m => digs_byte n x (by rw [q]; exact List.mem_cons_of_mem _ m)
    have p := pow_pos256 r.length
    have m1 : 1 * 256 ^ r.length ≤ d * 256 ^ r.length := Int.mul_le_mul_of_nonneg_right d1 (Int.le_of_lt p)
    show ((256 ^ (r.length + 1 - 1) : Nat) : Int) ≤ n
    rw [Nat.add_sub_cancel]
    have e : ((256 ^ r.length : Nat) : Int) = (256 : Int) ^ r.length := by exact_mod_cast rfl
    omega
theorem digs_high (n : Nat) : (n : Int) < ((256 ^ (digs n).length : Nat) : Int) := by
  have b := valOf_bounds (digs n) (digs_byte n)
  rw [valOf_digs] at b
  have e : ((256 ^ (digs n).length : Nat) : Int) = (256 : Int) ^ (digs n).length := by exact_mod_cast rfl
  omega
/-- digits of one length are ordered as their numbers -/
theorem lex_digits : ∀ (xs ys : List Int), xs.length = ys.length → (∀ d ∈ xs, 0 ≤ d ∧ d ≤ 255) → (∀ d ∈ ys, 0 ≤ d ∧ d ≤ 255) → HT.lexLt xs ys = decide (valOf xs < valOf ys)
  | [], [], _, _, _ => rfl
  | [], _ :: _, e, _, _ => by cases e
  | _ :: _, [], e, _, _ => by cases e
  | x :: xs, y :: ys, e, hx, hy => by
    have el : xs.length = ys.length := by simpa using e
    have hx' : ∀ d ∈ xs, 0 ≤ d ∧ d ≤ 255 := fun d m => hx d (List.mem_cons_of_mem _ m)
    have hy' : ∀ d ∈ ys, 0 ≤ d ∧ d ≤ 255 := fun d m => hy d (List.mem_cons_of_mem _ m)
    obtain ⟨x0, x1⟩ := valOf_bounds xs hx'
    obtain ⟨y0, y1⟩ := valOf_bounds ys hy'
    rw [HT.lexLt_cons, valOf_cons, valOf_cons]
    rw [← el] at y1 ⊢
    have p := pow_pos256 xs.length
    by_cases c : x = y
    · rw [if_pos c, lex_digits xs ys el hx' hy', c]
      apply decide_eq_decide.mpr
      omega
    · rw [if_neg c]
      apply decide_eq_decide.mpr
      generalize (256 : Int) ^ xs.length = M at *
      constructor
      · intro lt
        have := Int.mul_le_mul_of_nonneg_right (show x + 1 ≤ y by omega) (Int.le_of_lt p)
        rw [Int.add_mul] at this
        omega
      · intro lt
        refine Int.not_le.mp fun ge => ?_
        have := Int.mul_le_mul_of_nonneg_right (show y + 1 ≤ x by omega) (Int.le_of_lt p)
        rw [Int.add_mul] at this
        omega
theorem lex_code (n m : Nat) : HT.lexLt (codeN n) (codeN m) = decide (n < m) := by
  unfold codeN
  by_cases a : n < 192
  · rw [if_pos a]
    by_cases b : m < 192
    · rw [if_pos b, HT.lexLt_cons]
      by_cases c : (n : Int) = m
      · rw [if_pos c, decide_eq_false (by omega)]
        rfl
      · rw [if_neg c]
        apply decide_eq_decide.mpr
        omega
    · have l : 1 ≤ (digs m).length := List.length_pos_iff.mpr (digs_ne (by omega))
      rw [if_neg b, HT.lexLt_cons, if_neg (by omega)]
      apply decide_eq_decide.mpr
      omega
  · rw [if_neg a]
    have ln : 1 ≤ (digs n).length := List.length_pos_iff.mpr (digs_ne (by omega))
    by_cases b : m < 192
    · rw [if_pos b, HT.lexLt_cons, if_neg (by omega)]
      apply decide_eq_decide.mpr
      omega
    · have lm : 1 ≤ (digs m).length := List.length_pos_iff.mpr (digs_ne (by omega))
      rw [if_neg b, HT.lexLt_cons]
      have hn := digs_high n
      have hm := digs_high m
      have gn := digs_low (n := n) (by omega)
      have gm := digs_low (n := m) (by omega)
      by_cases c : (digs n).length = (digs m).length
      · rw [if_pos (by omega), lex_digits _ _ c (digs_byte n) (digs_byte m), valOf_digs, valOf_digs]
        apply decide_eq_decide.mpr
        omega
      · rw [if_neg (by omega)]
        apply decide_eq_decide.mpr
        constructor
        · intro lt
          have le : (digs n).length ≤ (digs m).length - 1 := by omega
          have := Nat.pow_le_pow_right (n := 256) (by decide) le
          omega
        · intro lt
          refine Int.not_le.mp fun ge => ?_
          have le : (digs m).length ≤ (digs n).length - 1 := by omega
          have := Nat.pow_le_pow_right (n := 256) (by decide) le
          omega
theorem lex_irrefl : ∀ l : List Int, HT.lexLt l l = false
  | [] => rfl
  | x :: r => by
    rw [HT.lexLt_cons, if_pos rfl]
    exact lex_irrefl r
theorem code_inj {n m : Nat} (h : codeN n = codeN m) : n = m := by
  have e1 := lex_code n m
  have e2 := lex_code m n
  rw [h, lex_irrefl] at e1
  rw [h, lex_irrefl] at e2
  have := of_decide_eq_false e1.symm
  have := of_decide_eq_false e2.symm
  omega
/-- the first byte tells the length -/
theorem code_first (n : Nat) : ∃ f r, codeN n = f :: r ∧ ((codeN n).length : Int) = codeSize f := by
  unfold codeN
  by_cases a : n < 192
  · rw [if_pos a]
    refine ⟨n, [], rfl, ?_⟩
    unfold codeSize
    rw [if_pos (by omega)]
    rfl
  · have ln : 1 ≤ (digs n).length := List.length_pos_iff.mpr (digs_ne (by omega))
    rw [if_neg a]
    refine ⟨_, _, rfl, ?_⟩
    unfold codeSize
    rw [if_neg (by omega), List.length_cons]
    omega
/-- no code is the beginning of another one -/
theorem code_prefix {n m : Nat} (h : codeN n = (codeN m).take (codeN n).length) : n = m := by
  obtain ⟨f, r, e1, l1⟩ := code_first n
  obtain ⟨g, r', e2, l2⟩ := code_first m
  have fg : f = g := by
    rw [e1, e2] at h
    exact (List.cons.inj h).1
  refine code_inj (h.trans (List.take_of_length_le ?_))
  rw [fg] at l1
  omega

/-! ### codes that are read -/
/-- a beginning of a code whose bytes may stand there -/
structure Sound (c : List Int) : Prop where
  begun : Begun c
  short : ∀ f r, c = f :: r → (c.length : Int) ≤ codeSize f
  second : ∀ f g r, c = f :: g :: r → lowOf [f] ≤ g
theorem Sound.nil : Sound [] := ⟨Begun.nil, fun _ _ e => (nomatch e), fun _ _ _ e => (nomatch e)⟩
theorem Sound.more {c : List Int} {b : Int} (h : Sound c) (w : wants c = true) (b0 : 0 ≤ b) (b1 : b ≤ 255) (lo : lowOf c ≤ b) (hi : b ≤ highOf c) : Sound (c ++ [b]) := by
  refine ⟨h.begun.more b0 b1 hi, fun f r e => ?_, fun f g r e => ?_⟩
  · cases c with
    | nil =>
      have e1 : b = f := (List.cons.inj e).1
      show ((1 : Nat) : Int) ≤ codeSize f
      unfold codeSize
      split <;> omega
    | cons f' r' =>
      have e1 : f' = f := (List.cons.inj e).1
      have w1 : ((f' :: r').length : Int) < codeSize f' := of_decide_eq_true w
      rw [← e1, List.length_append]
      simp only [List.length_cons, List.length_nil] at w1 ⊢
      omega
  · match c, e, lo, h with
    | [f'], e, lo, _ =>
      have e1 : f' = f := (List.cons.inj e).1
      have e2 : b = g := (List.cons.inj (List.cons.inj e).2).1
      rw [← e1, ← e2]
      exact lo
    | f' :: g' :: r', e, _, h =>
      have e1 : f' = f := (List.cons.inj e).1
      have e2 : g' = g := (List.cons.inj (List.cons.inj e).2).1
      rw [← e1, ← e2]
      exact h.second f' g' r' rfl
theorem digs_val : ∀ (ds : List Int), (∀ d ∈ ds, 0 ≤ d ∧ d ≤ 255) → (∀ d r, ds = d :: r → 1 ≤ d) → digs (valOf ds).toNat = ds := by
  intro ds
  induction h : ds.length generalizing ds with
  | zero =>
    intro _ _
    rw [List.length_eq_zero_iff.mp h]
    show digs 0 = []
    exact digs_zero
  | succ k ih =>
    intro hb hf
    have ne : ds ≠ [] := fun e => by rw [e] at h; cases h
    have e := (List.dropLast_concat_getLast ne).symm
    generalize ds.dropLast = a at e
    generalize ds.getLast ne = b at e
    subst e
    have la : a.length = k := by simpa using h
    have hb1 : ∀ d ∈ a, 0 ≤ d ∧ d ≤ 255 := fun d m => hb d (List.mem_append_left _ m)
    have hb2 := hb b (List.mem_append_right _ (List.mem_singleton.mpr rfl))
    have hf1 : ∀ d r, a = d :: r → 1 ≤ d := fun d r e => hf d (r ++ [b]) (by rw [e]; rfl)
    have va := (valOf_bounds a hb1).1
    have pos : valOf (a ++ [b]) ≠ 0 := by
      rw [valOf_snoc]
      cases a with
      | nil =>
        have := hf b [] rfl
        show ¬ ((0 : Int) * 256 + b = 0)
        omega
      | cons d r =>
        have d1 := hf1 d r rfl
        have vr := valOf_bounds r fun x m => hb1 x (List.mem_cons_of_mem _ m)
        have p := pow_pos256 r.length
        have m1 : 1 * 256 ^ r.length ≤ d * 256 ^ r.length := Int.mul_le_mul_of_nonneg_right d1 (Int.le_of_lt p)
        rw [valOf_cons]
        omega
    have v0 := (valOf_bounds _ hb).1
    rw [digs_pos (by omega)]
    have e1 : (valOf (a ++ [b])).toNat / 256 = (valOf a).toNat := by
      rw [valOf_snoc]
      omega
    have e2 : (((valOf (a ++ [b])).toNat % 256 : Nat) : Int) = b := by
      rw [valOf_snoc]
      omega
    rw [e1, e2, ih a la hb1 hf1]
/-- a whole code is the code of its number -/
theorem Sound.whole {c : List Int} (h : Sound c) (w : wants c = false) : ∃ n : Nat, codeVal c = n ∧ n < 256 ^ 63 ∧ codeN n = c := by
  match c, h, w with
  | [f], h, w =>
    have fb := h.begun.byte f (List.mem_singleton.mpr rfl)
    have w1 : ¬ ((1 : Int) < codeSize f) := of_decide_eq_false w
    have f192 : f < 192 := by
      unfold codeSize at w1
      split at w1
      · assumption
      · omega
    refine ⟨f.toNat, by show f = _; omega, Nat.lt_of_lt_of_le (show f.toNat < 192 by omega) (by decide), ?_⟩
    unfold codeN
    rw [if_pos (by omega)]
    congr 1
    omega
  | f :: g :: r, h, w =>
    have w1 : ¬ (((f :: g :: r).length : Int) < codeSize f) := of_decide_eq_false w
    have w2 := h.short f (g :: r) rfl
    have s := h.second f g r rfl
    have f1 := h.begun.first f (g :: r) rfl
    have fb := h.begun.byte f List.mem_cons_self
    have hb : ∀ d ∈ g :: r, 0 ≤ d ∧ d ≤ 255 := fun d m => h.begun.byte d (List.mem_cons_of_mem _ m)
    simp only [List.length_cons] at w1 w2
    have f192 : ¬ f < 192 := fun c => by
      unfold codeSize at w2
      rw [if_pos c] at w2
      omega
    unfold codeSize at w1 w2
    rw [if_neg f192] at w1 w2
    have g1 : 1 ≤ g := by
      show (1 : Int) ≤ g
      have s' : (if f = 192 then (192 : Int) else 1) ≤ g := s
      split at s' <;> omega
    have ed := digs_val (g :: r) hb fun d r' e => by
      have := (List.cons.inj e).1
      omega
    obtain ⟨v0, v1⟩ := valOf_bounds (g :: r) hb
    refine ⟨(valOf (g :: r)).toNat, by show valOf (g :: r) = _; omega, ?_, ?_⟩
    · have le : (g :: r).length ≤ 63 := by
        simp only [List.length_cons]
        omega
      have := Nat.pow_le_pow_right (n := 256) (by decide) le
      have e : ((256 ^ (g :: r).length : Nat) : Int) = (256 : Int) ^ (g :: r).length := by exact_mod_cast rfl
      omega
    · have n192 : ¬ (valOf (g :: r)).toNat < 192 := fun c => by
        have vc := valOf_cons g r
        have vr := valOf_bounds r fun d m => hb d (List.mem_cons_of_mem _ m)
        have p := pow_pos256 r.length
        have m1 : 1 * 256 ^ r.length ≤ g * 256 ^ r.length := Int.mul_le_mul_of_nonneg_right g1 (Int.le_of_lt p)
        cases r with
        | nil =>
          have e : f = 192 := by
            simp only [List.length_nil] at w1 w2
            omega
          have s' : (if f = 192 then (192 : Int) else 1) ≤ g := s
          rw [if_pos e] at s'
          have z : valOf [g] = g := by
            show (0 : Int) * 256 + g = g
            omega
          omega
        | cons x y =>
          have p2 := pow_pos256 y.length
          rw [List.length_cons, Int.pow_succ] at m1 vc
          omega
      unfold codeN
      rw [if_neg n192, ed]
      congr 1
      simp only [List.length_cons]
      omega
/-- what is read as a number is its code -/
theorem scan_num (xs : List V) (a : Nat) : ∀ (room : Nat) (c : List Int) (v e : Int), Sound c → a + c.length + room = xs.length → (∀ i, i < c.length → xs[a + i]? = (c[i]?).map V.int) → scan xs a room c = .num v e →
    ∃ (n : Nat) (k : Nat), v = n ∧ n < 256 ^ 63 ∧ e = ((a + k : Nat) : Int) ∧ k = (codeN n).length ∧ a + k ≤ xs.length ∧ (∀ i, i < k → xs[a + i]? = ((codeN n)[i]?).map V.int) := by
  have done : ∀ (room : Nat) (c : List Int) (v e : Int), Sound c → a + c.length + room = xs.length → (∀ i, i < c.length → xs[a + i]? = (c[i]?).map V.int) → wants c = false → Res.num (codeVal c) (a + c.length) = .num v e →
      ∃ (n : Nat) (k : Nat), v = n ∧ n < 256 ^ 63 ∧ e = ((a + k : Nat) : Int) ∧ k = (codeN n).length ∧ a + k ≤ xs.length ∧ (∀ i, i < k → xs[a + i]? = ((codeN n)[i]?).map V.int) := by
    intro room c v e h l at_ w q
    obtain ⟨n, e1, e2, e3⟩ := h.whole w
    obtain ⟨rfl, rfl⟩ : codeVal c = v ∧ ((a : Int) + c.length) = e := by
      injection q with q1 q2
      exact ⟨q1, q2⟩
    refine ⟨n, c.length, e1, e2, by omega, by rw [e3], by omega, ?_⟩
    rw [e3]
    exact at_
  intro room
  induction room with
  | zero =>
    intro c v e h l at_ q
    unfold scan at q
    by_cases w : wants c = true
    · rw [if_pos w] at q
      cases q
    · rw [if_neg w] at q
      exact done 0 c v e h l at_ (by simpa using w) q
  | succ room ih =>
    intro c v e h l at_ q
    unfold scan at q
    by_cases w : wants c = true
    · rw [if_pos w] at q
      cases ex : xs[a + c.length]? with
      | none =>
        rw [ex] at q
        cases q
      | some x =>
        rw [ex] at q
        have q2 : (match byteOf x with
          | none => Res.wrong (a + c.length)
          | some b => if lowOf c ≤ b ∧ b ≤ highOf c then scan xs a room (c ++ [b]) else .wrong (a + c.length)) = .num v e := q
        clear q
        cases hb : byteOf x with
        | none =>
          rw [hb] at q2
          cases q2
        | some b =>
          rw [hb] at q2
          have q3 : (if lowOf c ≤ b ∧ b ≤ highOf c then scan xs a room (c ++ [b]) else .wrong (a + c.length)) = .num v e := q2
          clear q2
          obtain ⟨rfl, b0, b1⟩ := byteOf_some hb
          by_cases z : lowOf c ≤ b ∧ b ≤ highOf c
          · rw [if_pos z] at q3
            refine ih (c ++ [b]) v e (h.more w b0 b1 z.1 z.2) (by rw [List.length_append]; show a + (c.length + 1) + room = _; omega) ?_ q3
            intro i hi
            rw [List.length_append] at hi
            have hi : i < c.length + 1 := hi
            by_cases hc : i < c.length
            · rw [at_ i hc, List.getElem?_append_left hc]
            · have e : i = c.length := by omega
              subst e
              rw [ex, List.getElem?_append_right (Nat.le_refl _), Nat.sub_self]
              rfl
          · rw [if_neg z] at q3
            cases q3
    · rw [if_neg w] at q
      exact done (room + 1) c v e h l at_ (by simpa using w) q
/-- a shorter beginning is unfinished -/
theorem scan_cut (xs : List V) (a k : Nat) (ha : a ≤ k) (hk : k ≤ xs.length) : ∀ (room : Nat) (c : List Int) (v e : Int), a + c.length + room = xs.length → a + c.length ≤ k → scan xs a room c = .num v e → (k : Int) < e →
    scan (xs.take k) a (k - a - c.length) c = .unf k := by
  intro room
  induction room with
  | zero =>
    intro c v e l lk q lt
    unfold scan at q
    by_cases w : wants c = true
    · rw [if_pos w] at q
      cases q
    · rw [if_neg w] at q
      injection q with _ q2
      omega
  | succ room ih =>
    intro c v e l lk q lt
    unfold scan at q
    by_cases w : wants c = true
    · rw [if_pos w] at q
      by_cases lk2 : a + c.length = k
      · have e0 : k - a - c.length = 0 := by omega
        rw [e0]
        unfold scan
        rw [if_pos w, List.length_take, Nat.min_eq_left hk]
      · have e1 : k - a - c.length = (k - a - (c.length + 1)) + 1 := by omega
        have tk : (xs.take k)[a + c.length]? = xs[a + c.length]? := List.getElem?_take_of_lt (by omega)
        rw [e1]
        unfold scan
        rw [if_pos w, tk]
        cases ex : xs[a + c.length]? with
        | none =>
          rw [ex] at q
          cases q
        | some x =>
          rw [ex] at q
          have q : (match byteOf x with
            | none => Res.wrong (a + c.length)
            | some b => if lowOf c ≤ b ∧ b ≤ highOf c then scan xs a room (c ++ [b]) else .wrong (a + c.length)) = .num v e := q
          show (match byteOf x with
            | none => Res.wrong (a + c.length)
            | some b => if lowOf c ≤ b ∧ b ≤ highOf c then scan (xs.take k) a (k - a - (c.length + 1)) (c ++ [b]) else .wrong (a + c.length)) = .unf k
          cases hb : byteOf x with
          | none =>
            rw [hb] at q
            cases q
          | some b =>
            rw [hb] at q
            have q : (if lowOf c ≤ b ∧ b ≤ highOf c then scan xs a room (c ++ [b]) else .wrong (a + c.length)) = .num v e := q
            show (if lowOf c ≤ b ∧ b ≤ highOf c then scan (xs.take k) a (k - a - (c.length + 1)) (c ++ [b]) else .wrong (a + c.length)) = .unf k
            by_cases z : lowOf c ≤ b ∧ b ≤ highOf c
            · rw [if_pos z] at q
              rw [if_pos z]
              have := ih (c ++ [b]) v e (by rw [List.length_append]; show a + (c.length + 1) + room = _; omega) (by rw [List.length_append]; show a + (c.length + 1) ≤ k; omega) q lt
              rw [List.length_append] at this
              exact this
            · rw [if_neg z] at q
              cases q
    · rw [if_neg w] at q
      injection q with _ q2
      omega
theorem numAt_num {xs : List V} {a : Nat} {v e : Int} (ha : a ≤ xs.length) (h : numAt xs a = .num v e) :
    ∃ (n : Nat) (k : Nat), v = n ∧ n < 256 ^ 63 ∧ e = ((a + k : Nat) : Int) ∧ k = (codeN n).length ∧ a + k ≤ xs.length ∧ (∀ i, i < k → xs[a + i]? = ((codeN n)[i]?).map V.int) :=
  scan_num xs a (xs.length - a) [] v e Sound.nil (by show a + 0 + (xs.length - a) = _; omega) (fun i hi => absurd hi (Nat.not_lt_zero i)) h
theorem numAt_cut {xs : List V} {a k : Nat} {v e : Int} (ha : a ≤ k) (hk : k ≤ xs.length) (h : numAt xs a = .num v e) (lt : (k : Int) < e) : numAt (xs.take k) a = .unf k := by
  have := scan_cut xs a k ha hk (xs.length - a) [] v e (by show a + 0 + (xs.length - a) = _; omega) (by show a + 0 ≤ k; omega) h lt
  unfold numAt
  rw [List.length_take, Nat.min_eq_left hk]
  exact this

theorem sc_is_byte : FnScope ["thing"] ["thing"] (defScope s_is_byte) := ⟨rfl, rfl, rfl, by decide +kernel, rfl, by decide +kernel, by decide +kernel⟩
def spIsByte (K : PySem.W.Frag) : Sp := fun vs H Q _ => ∃ x : V, vs = [x] ∧ Plain K H x ∧ Q (.bl (byteOf x).isSome) H
theorem ok_is_byte (T : Txt K mg) : Has P w K mg base CX0 2 "is_byte" ["thing"] [] (spIsByte K) := by
  refine has0 T.d_is_byte sc_is_byte (fun _ _ _ _ _ _ us hl => match us, hl with | [_], _ => rfl) (fun vs H Q E h => ?_) (fun cv A outer s H vs Q E hg hr h => ?_)
  · obtain ⟨x, rfl, _⟩ := h
    rfl
  · obtain ⟨x, rfl, ⟨n, ty, mem⟩, q⟩ := h
    refine ⟨_, (pss_one (ps_ret (pe_and (pe_fn (ok_is_integer T) hg (hr.mono (by decide)) (by rfl) (pa_cons (pv 0) pa_nil)) (pe_one (pe_chain op_le op_le pe_int (pv 0) pe_int))))), ?_⟩
    refine ⟨x, rfl, x, n, rfl, ty, mem, _, rfl, ?_⟩
    by_cases c : ∃ i, x = .int i
    · have e0 : n = "int" := Value.type.inj ((tyx_int ty).mpr c)
      obtain ⟨i, rfl⟩ := c
      subst e0
      refine iteT ?_
      refine ⟨_, rfl, 0, i, rfl, rfl, _, rfl, ?_⟩
      by_cases z : 0 ≤ i
      · rw [decide_eq_true z]
        refine iteT ⟨i, 255, rfl, rfl, ?_⟩
        have e : decide (i ≤ 255) = (byteOf (.int i)).isSome := by
          show decide (i ≤ 255) = (if 0 ≤ i ∧ i ≤ 255 then some i else none).isSome
          by_cases y : i ≤ 255
          · rw [if_pos ⟨z, y⟩, decide_eq_true y]
            rfl
          · rw [if_neg fun c => y c.2, decide_eq_false y]
            rfl
        rw [← e] at q
        exact q
      · rw [decide_eq_false z]
        refine iteF ?_
        rw [byteOf_int fun c => z c.1] at q
        exact q
    · have e : (byteOf x).isSome = false := by
        cases x with
        | int i => exact (c ⟨i, rfl⟩).elim
        | _ => rfl
      rw [e] at q
      have ne : (n == "int") = false := beq_eq_false_iff_ne.mpr fun z => c ((tyx_int ty).mp (by rw [z]))
      rw [ne]
      exact iteF q

theorem sc_code_size : FnScope ["first"] ["first"] (defScope s_code_size) := ⟨rfl, rfl, rfl, by decide +kernel, rfl, by decide +kernel, by decide +kernel⟩
def spCodeSize : Sp := fun vs H Q _ => ∃ f : Int, vs = [.int f] ∧ Q (.int (codeSize f)) H
theorem ok_code_size (T : Txt K mg) : Has P w K mg base CX0 1 "code_size" ["first"] [] spCodeSize := by
  refine has0 T.d_code_size sc_code_size (fun _ _ _ _ _ _ us hl => match us, hl with | [_], _ => rfl) (fun vs H Q E h => ?_) (fun cv A outer s H vs Q E hg hr h => ?_)
  · obtain ⟨f, rfl, _⟩ := h
    rfl
  · obtain ⟨f, rfl, q⟩ := h
    refine ⟨_, (pss_cons (ps_if (pt_cmpR op_lt (pv 0) pe_int (nomark _))
        (pss_one (ps_ret pe_int))
        pss_nil)
        (pss_one (ps_ret (pe_op op_sub (pv 0) pe_int)))), ?_⟩
    unfold codeSize at q
    refine ⟨_, rfl, f, 192, rfl, rfl, _, rfl, ite2 (fun z => ?_) (fun z => ?_)⟩
    · rw [if_pos (of_decide_eq_true z)] at q
      exact q
    · rw [if_neg fun c => z (decide_eq_true c)] at q
      exact ⟨_, rfl, f, 190, rfl, rfl, q⟩

theorem sc_code_bounds : FnScope ["code"] ["code"] (defScope s_code_bounds) := ⟨rfl, rfl, rfl, by decide +kernel, rfl, by decide +kernel, by decide +kernel⟩
def spCodeBounds (K : PySem.W.Frag) : Sp := fun vs H Q _ => ∃ (p : Addr) (c : List Int), vs = [.ref p] ∧ SqL K H p (c.map V.int) ∧
  ∀ (t : Addr) (H' : Hp), H t = none → Same H H' → H' t = some (.tup [.int (lowOf c), .int (highOf c)]) → Q (.ref t) H'
theorem ok_code_bounds (T : Txt K mg) : Has P w K mg base CX0 1 "code_bounds" ["code"] [] (spCodeBounds K) := by
  refine has0 T.d_code_bounds sc_code_bounds (fun _ _ _ _ _ _ us hl => match us, hl with | [_], _ => rfl) (fun vs H Q E h => ?_) (fun cv A outer s H vs Q E hg hr h => ?_)
  · obtain ⟨p, c, rfl, _⟩ := h
    rfl
  · obtain ⟨p, c, rfl, hS, q⟩ := h
    refine ⟨_, (pss_cons (ps_if (pt_cmpR op_eq (pe_callB (call_lenK (K := K) rfl) (by rfl) T.m_len PySem.boot_len (pa_cons (pv 0) pa_nil)) pe_int (nomark _))
        (pss_one (ps_ret (pe_tup (pa_cons pe_int (pa_cons pe_int pa_nil)))))
        pss_nil)
        (pss_cons (ps_if (pt_cmpR op_eq (pe_callB (call_lenK (K := K) rfl) (by rfl) T.m_len PySem.boot_len (pa_cons (pv 0) pa_nil)) pe_int (nomark _))
        (pss_cons (ps_if (pt_cmpR op_eq (pe_ix (ix_listK (K := K) rfl) (pv 0) pe_int (fun _ _ => rfl)) pe_int (nomark _))
        (pss_one (ps_ret (pe_tup (pa_cons pe_int (pa_cons pe_int pa_nil)))))
        pss_nil)
        (pss_one (ps_ret (pe_tup (pa_cons pe_int (pa_cons pe_int pa_nil))))))
        pss_nil)
        (pss_one (ps_ret (pe_tup (pa_cons pe_int (pa_cons pe_int pa_nil))))))), ?_⟩
    have two : ∀ (x y : Int), lowOf c = x → highOf c = y → ∀ t, H t = none → Q (.ref t) (upd H t (.tup [.int x, .int y])) := fun x y e1 e2 t ht => by
      subst e1
      subst e2
      exact q t _ ht (same_new ht) upd_same
    refine ⟨.ref p, rfl, p, _, rfl, .inl hS, rfl, _, rfl, ?_⟩
    match c, two, hS with
    | [], two, hS => exact iteT ⟨(by show 2 ≤ sizeLine; decide), two 0 254 rfl rfl⟩
    | [f], two, hS =>
      refine iteF ⟨.ref p, rfl, p, _, rfl, .inl hS, rfl, _, rfl, iteT ?_⟩
      refine ⟨.ref p, rfl, p, _, 0, .int f, rfl, rfl, hS, atI_nat (j := 0) rfl, rfl, _, rfl, ite2 (fun z => ?_) (fun z => ?_)⟩
      · have e : f = 192 := V.int.inj (of_decide_eq_true z)
        exact ⟨(by show 2 ≤ sizeLine; decide), two 192 255 (if_pos e) rfl⟩
      · have e : f ≠ 192 := fun c => z (decide_eq_true (by rw [c]))
        exact ⟨(by show 2 ≤ sizeLine; decide), two 1 255 (if_neg e) rfl⟩
    | f :: g :: r, two, hS =>
      have n0 : decide (V.int (((f :: g :: r).map V.int).length : Int) = V.int 0) = false := decide_eq_false fun z => by
        have := V.int.inj z
        simp only [List.length_map, List.length_cons] at this
        omega
      have n1 : decide (V.int (((f :: g :: r).map V.int).length : Int) = V.int 1) = false := decide_eq_false fun z => by
        have := V.int.inj z
        simp only [List.length_map, List.length_cons] at this
        omega
      rw [n0]
      refine iteF ⟨.ref p, rfl, p, _, rfl, .inl hS, rfl, _, rfl, ?_⟩
      rw [n1]
      exact iteF ⟨(by show 2 ≤ sizeLine; decide), two 0 255 rfl rfl⟩

theorem sc_code_number : FnScope ["code", "number", "digit"] ["code"] (defScope s_code_number) := ⟨rfl, rfl, rfl, by decide +kernel, rfl, by decide +kernel, by decide +kernel⟩
theorem codeVal_long {f g : Int} {r : List Int} : codeVal (f :: g :: r) = valOf (g :: r) := rfl
def spCodeNumber (K : PySem.W.Frag) : Sp := fun vs H Q _ => ∃ (p : Addr) (c : List Int), vs = [.ref p] ∧ SqL K H p (c.map V.int) ∧ c ≠ [] ∧ ∀ H', Same H H' → Q (.int (codeVal c)) H'
theorem ok_code_number (T : Txt K mg) : Has P w K mg base CX0 1 "code_number" ["code"] [] (spCodeNumber K) := by
  refine has0 T.d_code_number sc_code_number (fun _ _ _ _ _ _ us hl => match us, hl with | [_], _ => rfl) (fun vs H Q E h => ?_) (fun cv A outer s H vs Q E hg hr h => ?_)
  · obtain ⟨p, c, rfl, _⟩ := h
    rfl
  · obtain ⟨p, c, rfl, hS, ne, q⟩ := h
    refine ⟨_, (pss_cons (ps_if (pt_cmpR op_eq (pe_callB (call_lenK (K := K) rfl) (by rfl) T.m_len PySem.boot_len (pa_cons (pv 0) pa_nil)) pe_int (nomark _))
        (pss_one (ps_ret (pe_ix (ix_listK (K := K) rfl) (pv 0) pe_int (fun _ _ => rfl))))
        pss_nil)
        (pss_cons (ps_set (i := 1) sc_code_number.nd rfl (.inl rfl) pe_int)
        (pss_cons (ps_for PassesOwn.never rfl (pi_listK (K := K) rfl (pe_slice (sl_listK (K := K) rfl) (pv 0) (po_some pe_int) po_none)) (pg_name (i := 2) sc_code_number.nd rfl (.inl rfl))
        (pss_one (ps_set (i := 1) sc_code_number.nd rfl (.inl rfl) (pe_op op_add (pe_op op_mul (pv 1) pe_int) (pv 2)))))
        (pss_one (ps_ret (pv 1)))))), ?_⟩
    refine ⟨.ref p, rfl, p, _, rfl, .inl hS, rfl, _, rfl, ?_⟩
    match c, ne, hS, q with
    | [], ne, _, _ => exact (ne rfl).elim
    | [f], _, hS, q => exact iteT ⟨.ref p, rfl, p, _, 0, .int f, rfl, rfl, hS, atI_nat (j := 0) rfl, q H (Same.refl H)⟩
    | f :: g :: r, _, hS, q =>
      have n1 : decide (V.int (((f :: g :: r).map V.int).length : Int) = V.int 1) = false := decide_eq_false fun z => by
        have := V.int.inj z
        simp only [List.length_map, List.length_cons] at this
        omega
      rw [n1]
      refine iteF ⟨.ref p, rfl, 1, rfl, p, _, rfl, hS, fun c2 hc2 => ?_⟩
      have cut : cutV ((f :: g :: r).map V.int) (some 1) none = (g :: r).map V.int := by
        unfold cutV
        rw [show HT.sIx ((f :: g :: r).map V.int).length 0 (some 1) = min 1 ((f :: g :: r).map V.int).length from HT.sIx_nat _ 0 1, HT.sIx_none]
        simp only [List.map_cons, List.length_cons]
        rw [show min 1 ((r.map V.int).length + 1 + 1) = 1 by omega]
        show List.take _ (V.int g :: r.map V.int) = _
        exact List.take_of_length_le (by simp only [List.length_cons]; omega)
      rw [cut]
      have hc3 : SqL K (upd H c2 (.lst ((g :: r).map V.int))) c2 ((g :: r).map V.int) := SqL.of upd_same
      refine ⟨c2, rfl, ⟨_, hc3⟩, for_list (K := K) (a := c2) (xs := (g :: r).map V.int) (fun i σ H3 => ∃ y, σ = [some (.ref p), some (.int (valOf ((g :: r).take i))), y] ∧ H3 = upd H c2 (.lst ((g :: r).map V.int))) ⟨_, rfl, rfl⟩ ?_ ?_ ?_⟩
      · rintro i σ H3 _ ⟨y, rfl, rfl⟩
        exact hc3
      · rintro i x σ H3 hi ⟨y, rfl, rfl⟩
        rw [List.getElem?_map] at hi
        obtain ⟨d, hd, rfl⟩ := Option.map_eq_some_iff.mp hi
        refine ⟨_, rfl, _, 256, rfl, rfl, .inr ⟨by decide, by decide⟩, _, rfl, _, d, rfl, rfl, some (.int d), ?_, rfl⟩
        have e : valOf ((g :: r).take (i + 1)) = valOf ((g :: r).take i) * 256 + d := by
          unfold valOf
          rw [List.take_add_one, hd]
          show ((g :: r).take i ++ [d]).foldl _ 0 = _
          rw [List.foldl_append]
          rfl
        rw [e]
        rfl
      · rintro σ H3 ⟨y, rfl, rfl⟩
        rw [List.length_map, List.take_length]
        exact ⟨_, rfl, q _ (same_new hc2)⟩

theorem sc_number_at : FnScope ["data", "at", "row", "code", "place", "entry", "low", "high"] ["data", "at"] (defScope s_number_at) := ⟨rfl, rfl, rfl, by decide +kernel, rfl, by decide +kernel, by decide +kernel⟩
/-- what number_at owes -/
def owes (K : PySem.W.Frag) (H : Hp) (Q : VK) (E : XK) : Res → Prop
  | .num n e => ∀ (t : Addr) (H' : Hp), H t = none → Same H H' → H' t = some (.tup [.int n, .int e]) → Q (.ref t) H'
  | .wrong i => ∀ (d : Addr) (H' : Hp), H d = none → Same H H' → H' d = some (.xd [("at", .int i)]) → E (.ref (He.ga K "WrongByte")) (some d) H'
  | .unf n => ∀ (d : Addr) (H' : Hp), H d = none → Same H H' → H' d = some (.xd [("at", .int n)]) → E (.ref (He.ga K "Unfinished")) (some d) H'
def spNumberAt (K : PySem.W.Frag) : Sp := fun vs H Q E => ∃ (p : Addr) (xs : List V) (a : Nat), vs = [.ref p, .int a] ∧ (SqL K H p xs ∨ SqT K H p xs) ∧ (∀ x ∈ xs, Plain K H x) ∧ a ≤ xs.length ∧ xs.length < 1000000 ∧ owes K H Q E (numAt xs a)
theorem does_number_at (T : Txt K mg) (j : Nat) (dv : List V) (bnd : ∀ fd, FunD K "number_at" "number_at" (defArgs s_number_at) (defBody s_number_at) (defScope s_number_at) [.int 0] [] (He.ga K "number_at") fd → ∃ ds, Vals dv ds ∧ Binds K fd ["data", "at"] ds) :
    Has P w K mg base (L2.CX P w) 3 "number_at" ["data", "at"] dv (spNumberAt K) := by
  refine hasXB T.d_number_at sc_number_at bnd (fun vs H Q E h => ?_) (fun cv A outer s H vs Q E hg hr h => ?_)
  · obtain ⟨p, xs, a, rfl, _⟩ := h
    rfl
  · obtain ⟨p, xs, a, rfl, hS, pl, al, xl, ow⟩ := h
    refine ⟨_, (pss_cons (ps_set (i := 2) sc_number_at.nd rfl (.inl rfl) (pe_callTy (call_listK (K := K) rfl) (by rfl) T.m_list (by decide +kernel) (pa_cons (pv 0) pa_nil)))
        (pss_cons (ps_set (i := 3) sc_number_at.nd rfl (.inl rfl) (pe_lst pa_nil))
        (pss_cons (ps_while (passes_of rfl) (pt_imp (t' := tWants K 3) (PW.pt (pw_or (pt_cmpR op_eq (pe_callB (call_lenK (K := K) rfl) (by rfl) T.m_len PySem.boot_len (pa_cons (pv 3) pa_nil)) pe_int (nomark _)) (pw_or1 (pt_cmpR op_lt (pe_callB (call_lenK (K := K) rfl) (by rfl) T.m_len PySem.boot_len (pa_cons (pv 3) pa_nil)) (pe_fn (ok_code_size T) hg (hr.mono (by decide)) (by rfl) (pa_cons (pe_ix (ix_listK (K := K) rfl) (pv 3) pe_int (fun _ _ => rfl)) pa_nil)) (nomark _))))) (by
        rintro σ H Q ⟨cp, c, hs, ec, q⟩
        refine ⟨.ref cp, hs, cp, _, rfl, .inl ec, rfl, _, rfl, ?_⟩
        match c, ec, q with
        | [], ec, q => exact iteT q
        | f :: r, ec, q =>
          have n0 : decide (V.int (((f :: r).map V.int).length : Int) = V.int 0) = false := decide_eq_false fun z => by
            have := V.int.inj z
            simp only [List.length_map, List.length_cons] at this
            omega
          rw [n0]
          refine iteF ⟨.ref cp, hs, cp, _, rfl, .inl ec, .ref cp, hs, cp, _, 0, .int f, rfl, rfl, ec, atI_nat (j := 0) rfl, f, rfl, _, _, rfl, rfl, _, rfl, ?_⟩
          rw [List.length_map]
          exact q))
        (pss_cons (ps_set (i := 4) sc_number_at.nd rfl (.inl rfl) (pe_op op_add (pv 1) (pe_callB (call_lenK (K := K) rfl) (by rfl) T.m_len PySem.boot_len (pa_cons (pv 3) pa_nil))))
        (pss_cons (ps_if (pt_cmpR op_ge (pv 4) (pe_callB (call_lenK (K := K) rfl) (by rfl) T.m_len PySem.boot_len (pa_cons (pv 2) pa_nil)) (nomark _))
        (pss_one (ps_err (k := 0) (er_Unfinished T) rfl (takes_of rfl rfl rfl rfl) (hr.mono (by decide)) (by rfl) (pe_callB (call_lenK (K := K) rfl) (by rfl) T.m_len PySem.boot_len (pa_cons (pv 2) pa_nil))))
        pss_nil)
        (pss_cons (ps_set (i := 5) sc_number_at.nd rfl (.inl rfl) (pe_ix (ix_listK (K := K) rfl) (pv 2) (pv 4) (fun _ _ => rfl)))
        (pss_cons (ps_asg (pe_fn (ok_code_bounds T) hg (hr.mono (by decide)) (by rfl) (pa_cons (pv 3) pa_nil)) (pg_tup (by rfl) (pgs_cons (pg_name (i := 6) sc_number_at.nd rfl (.inl rfl)) (pgs_cons (pg_name (i := 7) sc_number_at.nd rfl (.inl rfl)) pgs_nil))))
        (pss_cons (ps_if (PW.pt (pw_or (pt_not (pt_val (pe_fn (ok_is_byte T) hg (hr.mono (by decide)) (by rfl) (pa_cons (pv 5) pa_nil)))) (pw_or1 (pt_not (pt_chain op_le op_le (pv 6) (pv 5) (pv 7))))))
        (pss_one (ps_err (k := 0) (er_WrongByte T) rfl (takes_of rfl rfl rfl rfl) (hr.mono (by decide)) (by rfl) (pv 4)))
        pss_nil)
        (pss_one (ps_expr (pe_bm PySem.F.plainAttrs_list PySem.F.slot_list_append PySem.F.type_list_append mt_append (pv 3) (pa_cons (pv 5) pa_nil))))))))))
        (pss_one (ps_ret (pe_tup (pa_cons (pe_fn (ok_code_number T) hg (hr.mono (by decide)) (by rfl) (pa_cons (pv 3) pa_nil)) (pa_cons (pe_op op_add (pv 1) (pe_callB (call_lenK (K := K) rfl) (by rfl) T.m_len PySem.boot_len (pa_cons (pv 3) pa_nil))) pa_nil)))))))), ?_⟩
    refine ⟨.ref p, rfl, p, xs, rfl, hS, fun rp hrp => ?_⟩
    refine ⟨Nat.zero_le _, fun cp hcp => ?_⟩
    have sm2 : Same H (upd (upd H rp (.lst xs)) cp (.lst [])) := (same_new hrp).trans (same_new hcp)
    have row2 : (upd (upd H rp (.lst xs)) cp (.lst [])) rp = some (.lst xs) := (same_new hcp) _ _ upd_same
    have cp0 : H cp = none := (same_new hrp).free hcp
    have ncr : cp ≠ rp := fun e => by
      rw [e, upd_same] at hcp
      cases hcp
    refine ⟨fun m σ H1 => ∃ (c : List Int) (y1 y2 y3 y4 : Option V), σ = [some (.ref p), some (.int a), some (.ref rp), some (.ref cp), y1, y2, y3, y4] ∧ m = 64 - c.length ∧ Same H H1 ∧ H1 rp = some (.lst xs) ∧ H1 cp = some (.lst (c.map V.int)) ∧ Begun c ∧ a + c.length ≤ xs.length ∧ c.length ≤ 64 ∧
      numAt xs a = scan xs a (xs.length - a - c.length) c, ⟨64, [], none, none, none, none, rfl, rfl, sm2, row2, upd_same, Begun.nil, al, by decide, rfl⟩, ?_⟩
    rintro m σ H1 ⟨c, y1, y2, y3, y4, rfl, rfl, sm, er, ec, bg, ac, c64, eN⟩
    refine ⟨cp, c, rfl, SqL.of ec, ite2 (fun wc => ?_) (fun wc => ?_)⟩
    · -- a further byte
      have cl := bg.len wc
      refine ⟨fun σ' H' => ∃ (c' : List Int) (y1 y2 y3 y4 : Option V), σ' = [some (.ref p), some (.int a), some (.ref rp), some (.ref cp), y1, y2, y3, y4] ∧ c'.length = c.length + 1 ∧ Same H H' ∧ H' rp = some (.lst xs) ∧ H' cp = some (.lst (c'.map V.int)) ∧ Begun c' ∧ a + c'.length ≤ xs.length ∧
        numAt xs a = scan xs a (xs.length - a - c'.length) c', ?_, ?_⟩
      · rintro σ' H' ⟨c', z1, z2, z3, z4, e1, e2, e3, e4, e5, e6, e7, e8⟩
        exact ⟨64 - c'.length, by omega, c', z1, z2, z3, z4, e1, rfl, e3, e4, e5, e6, e7, by omega, e8⟩
      · refine ⟨_, rfl, .ref cp, rfl, cp, _, rfl, .inl (SqL.of ec), (a : Int), _, rfl, rfl, ?_⟩
        rw [List.length_map]
        refine ⟨_, rfl, .ref rp, rfl, rp, _, rfl, .inl (SqL.of er), _, _, rfl, rfl, _, rfl, ite2 (fun z => ?_) (fun z => ?_)⟩
        · -- the data ends
          have z1 := of_decide_eq_true z
          have e0 : xs.length - a - c.length = 0 := by omega
          have eR : numAt xs a = .unf xs.length := by
            rw [eN, e0]
            exact if_pos wc
          rw [eR] at ow
          refine ⟨.ref rp, rfl, rp, _, rfl, .inl (SqL.of er), fun d hd => ?_⟩
          exact ow d _ (sm.free hd) (sm.trans (same_new hd)) upd_same
        · have z1 : a + c.length < xs.length := by
            have : ¬ ((xs.length : Int) ≤ (a : Int) + (c.length : Int)) := fun c => z (decide_eq_true c)
            omega
          have ex : xs[a + c.length]? = some xs[a + c.length] := List.getElem?_eq_getElem z1
          have px : Plain K H xs[a + c.length] := pl _ (List.getElem_mem z1)
          generalize xs[a + c.length] = x at ex px
          have e1 : xs.length - a - c.length = (xs.length - a - (c.length + 1)) + 1 := by omega
          have eat : atI xs ((a : Int) + (c.length : Int)) = some x := by
            have := atI_nat ex
            rwa [Int.natCast_add] at this
          refine ⟨.ref rp, rfl, _, rfl, rp, _, _, x, rfl, rfl, SqL.of er, eat, ?_⟩
          refine ⟨.ref cp, rfl, cp, c, rfl, SqL.of ec, fun t H2 nt sm2' et => ?_⟩
          have sm3 : Same H H2 := sm.trans sm2'
          refine ⟨t, _, rfl, .inl (.inl et), rfl, _, _, rfl, _, _, rfl, rfl, ?_⟩
          refine ⟨x, rfl, x, rfl, px.same sm3, _, rfl, ?_⟩
          have wr : (byteOf x = none ∨ ∃ b, byteOf x = some b ∧ ¬ (lowOf c ≤ b ∧ b ≤ highOf c)) → numAt xs a = .wrong (a + c.length) := fun hb => by
            rw [eN, e1]
            show (if wants c = true then _ else _) = _
            rw [if_pos wc, ex]
            rcases hb with hb | ⟨b, hb, no⟩
            · show (match byteOf x with | none => Res.wrong (a + c.length) | some b => _) = _
              rw [hb]
            · show (match byteOf x with | none => Res.wrong (a + c.length) | some b => _) = _
              rw [hb]
              exact if_neg no
          cases hb : byteOf x with
          | none =>
            refine iteT ?_
            rw [wr (.inl hb)] at ow
            refine iteT ⟨_, rfl, fun d hd => ?_⟩
            exact ow d _ (sm3.free hd) (sm3.trans (same_new hd)) upd_same
          | some b =>
            obtain ⟨rfl, b0, b1⟩ := byteOf_some hb
            refine iteF ?_
            refine ⟨_, rfl, _, rfl, lowOf c, b, rfl, rfl, _, rfl, ?_⟩
            by_cases z2 : lowOf c ≤ b
            · rw [decide_eq_true z2]
              refine iteT ⟨_, rfl, b, highOf c, rfl, rfl, _, rfl, ?_⟩
              by_cases z3 : b ≤ highOf c
              · rw [decide_eq_true z3]
                refine iteF ?_
                have eR : numAt xs a = scan xs a (xs.length - a - (c ++ [b]).length) (c ++ [b]) := by
                  rw [eN, e1, List.length_append]
                  show (if wants c = true then _ else _) = _
                  rw [if_pos wc, ex]
                  show (match byteOf (V.int b) with | none => Res.wrong (a + c.length) | some b => _) = _
                  rw [hb]
                  exact if_pos ⟨z2, z3⟩
                refine ⟨.ref cp, rfl, .inl ⟨rfl, _, SqL.of (sm2' _ _ ec)⟩, _, rfl, cp, _, _, rfl, rfl, sm2' _ _ ec, ?_, ?_⟩
                · rw [List.length_map]
                  exact small1000 (by omega)
                refine ⟨c ++ [b], _, _, _, _, rfl, by rw [List.length_append]; rfl, same_put sm3 cp0, ?_, ?_, bg.more b0 b1 z3, by rw [List.length_append]; exact z1, eR⟩
                · rw [upd_ne ncr.symm]
                  exact sm2' _ _ er
                · rw [upd_same, List.map_append]
                  rfl
              · rw [decide_eq_false z3]
                rw [wr (.inr ⟨b, hb, fun z => z3 z.2⟩)] at ow
                refine iteT ⟨_, rfl, fun d hd => ?_⟩
                exact ow d _ (sm3.free hd) (sm3.trans (same_new hd)) upd_same
            · rw [decide_eq_false z2]
              rw [wr (.inr ⟨b, hb, fun z => z2 z.1⟩)] at ow
              refine iteF ⟨_, rfl, iteT ⟨_, rfl, fun d hd => ?_⟩⟩
              exact ow d _ (sm3.free hd) (sm3.trans (same_new hd)) upd_same
    · -- the code is whole
      have cne : c ≠ [] := fun e => wc (by rw [e]; rfl)
      have eR : numAt xs a = .num (codeVal c) (a + c.length) := by
        rw [eN]
        cases xs.length - a - c.length with
        | zero => exact if_neg wc
        | succ n => exact if_neg wc
      rw [eR] at ow
      refine ⟨.ref cp, rfl, cp, c, rfl, SqL.of ec, cne, fun H2 sm2' => ?_⟩
      refine ⟨_, rfl, .ref cp, rfl, cp, _, rfl, .inl (SqL.of (sm2' _ _ ec)), (a : Int), _, rfl, rfl, (by show 2 ≤ sizeLine; decide), fun t ht => ?_⟩
      rw [List.length_map]
      exact ow t _ ((sm.trans sm2').free ht) ((sm.trans sm2').trans (same_new ht)) upd_same
theorem bind_at1 {K : PySem.W.Frag} (fd : FuncData) (F : FunD K "number_at" "number_at" (defArgs s_number_at) (defBody s_number_at) (defScope s_number_at) [.int 0] [] (He.ga K "number_at") fd) : ∃ ds, Vals [V.int 0] ds ∧ Binds K fd ["data", "at"] ds :=
  F.binds1 1 0 (by decide) rfl fun T kV doc pm an cv ct us its hu hi => match us, hu, its, hi with | [_], _, [_], _ => ⟨_, rfl, rfl⟩
theorem bind_at2 {K : PySem.W.Frag} (fd : FuncData) (F : FunD K "number_at" "number_at" (defArgs s_number_at) (defBody s_number_at) (defScope s_number_at) [.int 0] [] (He.ga K "number_at") fd) : ∃ ds, Vals [] ds ∧ Binds K fd ["data", "at"] ds :=
  F.binds1 2 1 (by decide) rfl fun T kV doc pm an cv ct us its hu hi => match us, hu, its, hi with | [_, _], _, [_], _ => ⟨_, rfl, rfl⟩

theorem sc__law_is_byte : FnScope ["_law_entry"] ["_law_entry"] (defScope s__law_is_byte) := ⟨rfl, rfl, rfl, by decide +kernel, rfl, by decide +kernel, by decide +kernel⟩
theorem ty_plain {K : PySem.W.Frag} {H : Hp} {x : V} (h : Plain K H x) : ∃ (n : String) (b c : Bool), TyX K H x (.type n) ∧ kitB n "int" = some b ∧ kitB n "bool" = some c ∧ ((b && !c) = true ↔ ∃ i, x = .int i) ∧ (b = false → ¬ ∃ i, x = .int i) := by
  obtain ⟨n, ty, mem⟩ := h
  have iff := tyx_int ty
  simp only [plainTys, List.mem_cons, List.not_mem_nil, or_false] at mem
  have no : n ≠ "int" → ¬ ∃ i, x = .int i := fun ne z => ne (Value.type.inj (iff.mpr z))
  rcases mem with rfl | rfl | rfl | rfl | rfl | rfl | rfl
  · exact ⟨"int", true, false, ty, by decide +kernel, by decide +kernel, ⟨fun _ => iff.mp rfl, fun _ => rfl⟩, fun z => nomatch z⟩
  · exact ⟨"bool", true, true, ty, by decide +kernel, by decide +kernel, ⟨fun z => (nomatch z), fun z => (no (by decide) z).elim⟩, fun z => nomatch z⟩
  all_goals exact ⟨_, false, false, ty, by decide +kernel, by decide +kernel, ⟨fun z => (nomatch z), fun z => (no (by decide) z).elim⟩, fun _ => no (by decide)⟩
def spLawIsByte (K : PySem.W.Frag) : Sp := fun vs H Q _ => ∃ x : V, vs = [x] ∧ Plain K H x ∧ Q (.bl (byteOf x).isSome) H
theorem ok__law_is_byte (T : Txt K mg) : Has P w K mg base CX0 1 "_law_is_byte" ["_law_entry"] [] (spLawIsByte K) := by
  refine has0 T.d__law_is_byte sc__law_is_byte (fun _ _ _ _ _ _ us hl => match us, hl with | [_], _ => rfl) (fun vs H Q E h => ?_) (fun cv A outer s H vs Q E hg hr h => ?_)
  · obtain ⟨x, rfl, _⟩ := h
    rfl
  · obtain ⟨x, rfl, pl, q⟩ := h
    obtain ⟨n, b, c, ty, e1, e2, iff, nob⟩ := ty_plain pl
    have none_of : (¬ ∃ i, x = .int i) → (byteOf x).isSome = false := fun no => by
      cases x with
      | int i => exact (no ⟨i, rfl⟩).elim
      | _ => rfl
    refine ⟨_, (pss_one (ps_ret (pe_and (pe_callB (call_isiK' (K := K) rfl) (by rfl) T.m_isinstance (by decide +kernel) (pa_cons (pv 0) (pa_cons (pe_bltn (v := .ty "int") (by rfl) T.m_int (by decide +kernel) rfl) pa_nil))) (pe_and (pe_not (pe_callB (call_isiK' (K := K) rfl) (by rfl) T.m_isinstance (by decide +kernel) (pa_cons (pv 0) (pa_cons (pe_bltn (v := .ty "bool") (by rfl) T.m_bool (by decide +kernel) rfl) pa_nil)))) (pe_one (pe_chain op_le op_le pe_int (pv 0) pe_int)))))), ?_⟩
    refine ⟨x, rfl, x, .ty "int", _, _, b, rfl, .ty "int", ty, kit_ty e1, b, rfl, ?_⟩
    cases b with
    | false =>
      rw [none_of (nob rfl)] at q
      exact iteF q
    | true =>
      refine iteT ⟨x, rfl, x, .ty "bool", _, _, c, rfl, .ty "bool", ty, kit_ty e2, c, rfl, _, rfl, ?_⟩
      cases c with
      | true =>
        rw [none_of fun z => nomatch iff.mpr z] at q
        exact iteF q
      | false =>
        obtain ⟨i, rfl⟩ := iff.mp rfl
        refine iteT ⟨_, rfl, 0, i, rfl, rfl, _, rfl, ?_⟩
        by_cases z : 0 ≤ i
        · rw [decide_eq_true z]
          refine iteT ⟨i, 255, rfl, rfl, ?_⟩
          have e : decide (i ≤ 255) = (byteOf (.int i)).isSome := by
            show decide (i ≤ 255) = (if 0 ≤ i ∧ i ≤ 255 then some i else none).isSome
            by_cases y : i ≤ 255
            · rw [if_pos ⟨z, y⟩, decide_eq_true y]
              rfl
            · rw [if_neg fun c => y c.2, decide_eq_false y]
              rfl
          rw [← e] at q
          exact q
        · rw [decide_eq_false z]
          refine iteF ?_
          rw [byteOf_int fun c => z c.1] at q
          exact q

/-! ### what is told of a row -/
def resData : Res → PyData
  | .num n e => .tuple [.str "number", .tuple [.int n, .int e]]
  | .wrong i => .tuple [.str "wrong", .int i]
  | .unf n => .tuple [.str "unfinished", .int n]
/-- the answer r stands at t -/
def Told (K : PySem.W.Frag) (H : Hp) (t : Addr) (r : Res) : Prop := Dp K H (.ref t) (resData r)
theorem told_wrong {K : PySem.W.Frag} {H : Hp} {t : Addr} {i : Int} (h : H t = some (.tup [.str "wrong", .int i])) : Told K H t (.wrong i) := .tup (SqT.of h) (.cons (.str _) (.cons (.int i) .nil))
theorem told_unf {K : PySem.W.Frag} {H : Hp} {t : Addr} {i : Int} (h : H t = some (.tup [.str "unfinished", .int i])) : Told K H t (.unf i) := .tup (SqT.of h) (.cons (.str _) (.cons (.int i) .nil))
theorem told_num {K : PySem.W.Frag} {H : Hp} {t u : Addr} {n e : Int} (h : H t = some (.tup [.str "number", .ref u])) (h2 : H u = some (.tup [.int n, .int e])) : Told K H t (.num n e) :=
  .tup (SqT.of h) (.cons (.str _) (.cons (.tup (SqT.of h2) (.cons (.int n) (.cons (.int e) .nil))) .nil))
theorem Told.same {K : PySem.W.Frag} {H H' : Hp} {t : Addr} {r : Res} (h : Told K H t r) (s : Same H H') : Told K H' t r := Dp.same s _ _ h
/-- such an answer can be shown -/
def Fine : Res → Prop
  | .num n e => n.natAbs.log2 < 1920 ∧ e.natAbs.log2 < 1920
  | .wrong i => i.natAbs.log2 < 1920
  | .unf n => n.natAbs.log2 < 1920
theorem len2 (a b : Str) : ((PyData.shownAll []).length = 0) := rfl
theorem shows_told {K : PySem.W.Frag} {H : Hp} {t : Addr} : ∀ {r : Res}, Told K H t r → Fine r → Shows K H (.ref t) (resData r)
  | .num n e, h, f => by
    have l1 := shown_int (B := 1920) (by decide) f.1
    have l2 := shown_int (B := 1920) (by decide) f.2
    refine ⟨h, ?_, rfl, by show 2 ≤ 100; decide, ?_⟩
    · show ((true && ((decide (n.natAbs.log2 < 1920) && (decide (e.natAbs.log2 < 1920) && true)) && true)) = true)
      rw [decide_eq_true f.1, decide_eq_true f.2]
      rfl
    · have a1 := tupleText_len_le [PyData.shown (.int n), PyData.shown (.int e)]
      have a2 := tupleText_len_le [PyData.shown (.str "number"), tupleText [PyData.shown (.int n), PyData.shown (.int e)]]
      have s0 : (PyData.shown (.str "number")).length ≤ 8 := by decide +kernel
      simp only [List.map_cons, List.map_nil, List.sum_cons, List.sum_nil, List.length_cons, List.length_nil] at a1 a2
      show (tupleText [PyData.shown (.str "number"), tupleText [PyData.shown (.int n), PyData.shown (.int e)]]).length ≤ sizeLine
      rw [sizeLine_eq]
      omega
  | .wrong i, h, f => by
    have l1 := shown_int (B := 1920) (by decide) f
    refine ⟨h, ?_, rfl, by show 1 ≤ 100; decide, ?_⟩
    · show ((true && (decide (i.natAbs.log2 < 1920) && true)) = true)
      rw [decide_eq_true (show i.natAbs.log2 < 1920 from f)]
      rfl
    · have a2 := tupleText_len_le [PyData.shown (.str "wrong"), PyData.shown (.int i)]
      have s0 : (PyData.shown (.str "wrong")).length ≤ 8 := by decide +kernel
      simp only [List.map_cons, List.map_nil, List.sum_cons, List.sum_nil, List.length_cons, List.length_nil] at a2
      show (tupleText [PyData.shown (.str "wrong"), PyData.shown (.int i)]).length ≤ sizeLine
      rw [sizeLine_eq]
      omega
  | .unf i, h, f => by
    have l1 := shown_int (B := 1920) (by decide) f
    refine ⟨h, ?_, rfl, by show 1 ≤ 100; decide, ?_⟩
    · show ((true && (decide (i.natAbs.log2 < 1920) && true)) = true)
      rw [decide_eq_true (show i.natAbs.log2 < 1920 from f)]
      rfl
    · have a2 := tupleText_len_le [PyData.shown (.str "unfinished"), PyData.shown (.int i)]
      have s0 : (PyData.shown (.str "unfinished")).length ≤ 12 := by decide +kernel
      simp only [List.map_cons, List.map_nil, List.sum_cons, List.sum_nil, List.length_cons, List.length_nil] at a2
      show (tupleText [PyData.shown (.str "unfinished"), PyData.shown (.int i)]).length ≤ sizeLine
      rw [sizeLine_eq]
      omega
/-- one step of reading -/
theorem scan_step {xs : List V} {a : Nat} {c : List Int} {x : V} (w : wants c = true) (ex : xs[a + c.length]? = some x) (l : a + c.length < xs.length) :
    scan xs a (xs.length - a - c.length) c = (match byteOf x with
      | none => .wrong (a + c.length)
      | some b => if lowOf c ≤ b ∧ b ≤ highOf c then scan xs a (xs.length - a - (c ++ [b]).length) (c ++ [b]) else .wrong (a + c.length)) := by
  have e1 : xs.length - a - c.length = (xs.length - a - (c.length + 1)) + 1 := by omega
  rw [e1]
  show (if wants c = true then _ else _) = _
  rw [if_pos w, ex]
  show (match byteOf x with
      | none => Res.wrong (a + c.length)
      | some b => if lowOf c ≤ b ∧ b ≤ highOf c then scan xs a (xs.length - a - (c.length + 1)) (c ++ [b]) else .wrong (a + c.length)) = _
  cases byteOf x with
  | none => rfl
  | some b =>
    show (if lowOf c ≤ b ∧ b ≤ highOf c then scan xs a (xs.length - a - (c.length + 1)) (c ++ [b]) else .wrong (a + c.length)) = (if lowOf c ≤ b ∧ b ≤ highOf c then scan xs a (xs.length - a - (c ++ [b]).length) (c ++ [b]) else .wrong (a + c.length))
    rw [List.length_append]
    rfl
theorem scan_end {xs : List V} {a : Nat} {c : List Int} (w : wants c = true) (l : xs.length ≤ a + c.length) : scan xs a (xs.length - a - c.length) c = .unf xs.length := by
  rw [show xs.length - a - c.length = 0 by omega]
  exact if_pos w
theorem scan_done {xs : List V} {a k : Nat} {c : List Int} (w : wants c = false) : scan xs a k c = .num (codeVal c) (a + c.length) := by
  cases k with
  | zero => exact if_neg (by rw [w]; decide)
  | succ n => exact if_neg (by rw [w]; decide)
theorem fine_numAt {xs : List V} {a : Nat} (l : xs.length ≤ 1000) (ha : a ≤ xs.length) : Fine (numAt xs a) := by
  have small : ∀ i : Int, 0 ≤ i → i ≤ 1000 → i.natAbs.log2 < 1920 := fun i i0 i1 => log2_small (Nat.lt_of_lt_of_le (show i.natAbs < 2 ^ 10 by omega) (Nat.pow_le_pow_right (by decide) (by decide)))
  have wr : ∀ (room : Nat) (c : List Int), a + c.length + room = xs.length → ∀ i, scan xs a room c = .wrong i → 0 ≤ i ∧ i ≤ 1000 := by
    intro room
    induction room with
    | zero =>
      intro c _ i q
      unfold scan at q
      split at q <;> cases q
    | succ room ih =>
      intro c lc i q
      unfold scan at q
      split at q
      · split at q
        · cases q
        · split at q
          · injection q with q
            omega
          · split at q
            · exact ih _ (by rw [List.length_append]; show a + (c.length + 1) + room = _; omega) i q
            · injection q with q
              omega
      · cases q
  have un : ∀ (room : Nat) (c : List Int) (i : Int), scan xs a room c = .unf i → i = xs.length := by
    intro room
    induction room with
    | zero =>
      intro c i q
      unfold scan at q
      split at q
      · injection q with q
        exact q.symm
      · cases q
    | succ room ih =>
      intro c i q
      unfold scan at q
      split at q
      · split at q
        · injection q with q
          exact q.symm
        · split at q
          · cases q
          · split at q
            · exact ih _ i q
            · cases q
      · cases q
  cases e : numAt xs a with
  | num n k =>
    obtain ⟨m, j, rfl, hm, rfl, _, lj, _⟩ := numAt_num ha e
    refine ⟨log2_small ?_, small _ (by omega) (by omega)⟩
    have p : (256 : Nat) ^ 63 < 2 ^ 1900 := by decide +kernel
    omega
  | wrong i =>
    obtain ⟨i0, i1⟩ := wr (xs.length - a) [] (by show a + 0 + _ = _; omega) i e
    exact small i i0 i1
  | unf i =>
    have := un _ _ i e
    exact small i (by omega) (by omega)

theorem sc__law_due : FnScope ["_law_row", "_law_start", "_law_number_here", "_law_many", "_law_k", "_law_place"] ["_law_row", "_law_start"] (defScope s__law_due) := ⟨rfl, rfl, rfl, by decide +kernel, rfl, by decide +kernel, by decide +kernel⟩
def spDue (K : PySem.W.Frag) : Sp := fun vs H Q _ => ∃ (p : Addr) (xs : List V) (a : Nat), vs = [.ref p, .int a] ∧ SqL K H p xs ∧ (∀ x ∈ xs, Plain K H x) ∧ a ≤ xs.length ∧ xs.length ≤ 1000 ∧
  ∀ (t : Addr) (H' : Hp), Same H H' → Told K H' t (numAt xs a) → Q (.ref t) H'
theorem ok__law_due (T : Txt K mg) : Has P w K mg base CX0 2 "_law_due" ["_law_row", "_law_start"] [] (spDue K) := by
  refine has0 T.d__law_due sc__law_due (fun _ _ _ _ _ _ us hl => match us, hl with | [_, _], _ => rfl) (fun vs H Q E h => ?_) (fun cv A outer s H vs Q E hg hr h => ?_)
  · obtain ⟨p, xs, a, rfl, _⟩ := h
    rfl
  · obtain ⟨p, xs, a, rfl, hS, pl, al, xl, q⟩ := h
    refine ⟨_, (pss_cons (ps_if (pt_cmpR op_ge (pv 1) (pe_callB (call_lenK (K := K) rfl) (by rfl) T.m_len PySem.boot_len (pa_cons (pv 0) pa_nil)) (nomark _))
        (pss_one (ps_ret (pe_tup (pa_cons pe_str (pa_cons (pe_callB (call_lenK (K := K) rfl) (by rfl) T.m_len PySem.boot_len (pa_cons (pv 0) pa_nil)) pa_nil)))))
        pss_nil)
        (pss_cons (ps_if (PW.pt (pw_or (pt_not (pt_val (pe_fn (ok__law_is_byte (K := K) T) hg (hr.mono (by decide)) (by rfl) (pa_cons (pe_ix (ix_listK (K := K) rfl) (pv 0) (pv 1) (fun _ _ => rfl)) pa_nil)))) (pw_or1 (pt_cmpR op_eq (pe_ix (ix_listK (K := K) rfl) (pv 0) (pv 1) (fun _ _ => rfl)) pe_int (nomark _)))))
        (pss_one (ps_ret (pe_tup (pa_cons pe_str (pa_cons (pv 1) pa_nil)))))
        pss_nil)
        (pss_cons (ps_if (pt_cmpR op_lt (pe_ix (ix_listK (K := K) rfl) (pv 0) (pv 1) (fun _ _ => rfl)) pe_int (nomark _))
        (pss_one (ps_ret (pe_tup (pa_cons pe_str (pa_cons (pe_tup (pa_cons (pe_ix (ix_listK (K := K) rfl) (pv 0) (pv 1) (fun _ _ => rfl)) (pa_cons (pe_op op_add (pv 1) pe_int) pa_nil))) pa_nil)))))
        pss_nil)
        (pss_cons (ps_par (i := 2) (j := 3) (by rfl) sc__law_due.nd rfl rfl (by decide) rfl rfl (pa_cons pe_int (pa_cons (pe_op op_sub (pe_ix (ix_listK (K := K) rfl) (pv 0) (pv 1) (fun _ _ => rfl)) pe_int) pa_nil)) (by rfl))
        (pss_cons (ps_for PassesOwn.never rfl (pi_range1 (by rfl) T.m_range (pa_cons (pv 3) pa_nil)) (pg_name (i := 4) sc__law_due.nd rfl (.inl rfl))
        (pss_cons (ps_set (i := 5) sc__law_due.nd rfl (.inl rfl) (pe_op op_add (pe_op op_add (pv 1) pe_int) (pv 4)))
        (pss_cons (ps_if (pt_cmpR op_ge (pv 5) (pe_callB (call_lenK (K := K) rfl) (by rfl) T.m_len PySem.boot_len (pa_cons (pv 0) pa_nil)) (nomark _))
        (pss_one (ps_ret (pe_tup (pa_cons pe_str (pa_cons (pe_callB (call_lenK (K := K) rfl) (by rfl) T.m_len PySem.boot_len (pa_cons (pv 0) pa_nil)) pa_nil)))))
        pss_nil)
        (pss_cons (ps_if (PW.pt (pw_or (pt_not (pt_val (pe_fn (ok__law_is_byte (K := K) T) hg (hr.mono (by decide)) (by rfl) (pa_cons (pe_ix (ix_listK (K := K) rfl) (pv 0) (pv 5) (fun _ _ => rfl)) pa_nil)))) (pw_or1 (PW.pt (pw_and (pt_cmpR op_eq (pv 4) pe_int (nomark _)) (pw_and1 (pt_cmpR op_lt (pe_ix (ix_listK (K := K) rfl) (pv 0) (pv 5) (fun _ _ => rfl)) (pe_ifExp (pt_cmpR op_eq (pv 3) pe_int (nomark _)) pe_int pe_int) (nomark _))))))))
        (pss_one (ps_ret (pe_tup (pa_cons pe_str (pa_cons (pv 5) pa_nil)))))
        pss_nil)
        (pss_one (ps_set (i := 2) sc__law_due.nd rfl (.inl rfl) (pe_op op_add (pe_op op_mul (pv 2) pe_int) (pe_ix (ix_listK (K := K) rfl) (pv 0) (pv 5) (fun _ _ => rfl)))))))))
        (pss_one (ps_ret (pe_tup (pa_cons pe_str (pa_cons (pe_tup (pa_cons (pv 2) (pa_cons (pe_op op_add (pe_op op_add (pv 1) pe_int) (pv 3)) pa_nil))) pa_nil)))))))))), ?_⟩
    have w0 : wants [] = true := rfl
    have e0 : numAt xs a = scan xs a (xs.length - a - ([] : List Int).length) [] := rfl
    refine ⟨_, rfl, .ref p, rfl, p, _, rfl, .inl hS, _, _, rfl, rfl, _, rfl, ite2 (fun z => ?_) (fun z => ?_)⟩
    · have z1 := of_decide_eq_true z
      have eR : numAt xs a = .unf xs.length := e0.trans (scan_end w0 (by show xs.length ≤ a + 0; omega))
      rw [eR] at q
      exact ⟨.ref p, rfl, p, _, rfl, .inl hS, (by show 2 ≤ sizeLine; decide), fun t ht => q t _ (same_new ht) (told_unf upd_same)⟩
    · have z1 : a < xs.length := by
        have : ¬ ((xs.length : Int) ≤ (a : Int)) := fun c => z (decide_eq_true c)
        omega
      have ex : xs[a]? = some xs[a] := List.getElem?_eq_getElem z1
      have px : Plain K H xs[a] := pl _ (List.getElem_mem z1)
      generalize xs[a] = x at ex px
      have ea : atI xs (a : Int) = some x := atI_nat ex
      have eS := e0.trans (scan_step (x := x) w0 (by exact ex) (by exact z1))
      refine ⟨.ref p, rfl, _, rfl, p, _, _, x, rfl, rfl, hS, ea, x, rfl, px, _, rfl, ?_⟩
      cases hb : byteOf x with
      | none =>
        rw [hb] at eS
        rw [eS] at q
        exact iteT (iteT ⟨_, rfl, (by show 2 ≤ sizeLine; decide), fun t ht => q t _ (same_new ht) (told_wrong upd_same)⟩)
      | some b =>
        obtain ⟨rfl, b0, b1⟩ := byteOf_some hb
        rw [hb] at eS
        refine iteF ⟨.ref p, rfl, _, rfl, p, _, _, _, rfl, rfl, hS, ea, rfl, _, rfl, ite2 (fun y => ?_) (fun y => ?_)⟩
        · have yb : b = 255 := V.int.inj (of_decide_eq_true y)
          have eS2 : numAt xs a = .wrong (a + 0) := eS.trans (if_neg fun c => by have : b ≤ 254 := c.2; omega)
          rw [eS2] at q
          exact ⟨_, rfl, (by show 2 ≤ sizeLine; decide), fun t ht => q t _ (same_new ht) (told_wrong (by rw [upd_same, Int.add_zero]))⟩
        · have yb : b ≠ 255 := fun e => y (decide_eq_true (by rw [e]))
          have eS2 : numAt xs a = scan xs a (xs.length - a - [b].length) [b] := eS.trans (if_pos ⟨b0, by show b ≤ 254; omega⟩)
          refine ⟨.ref p, rfl, _, rfl, p, _, _, _, rfl, rfl, hS, ea, b, 192, rfl, rfl, _, rfl, ite2 (fun v => ?_) (fun v => ?_)⟩
          · -- a small number
            have vb := of_decide_eq_true v
            have w1 : wants [b] = false := decide_eq_false (by unfold codeSize; rw [if_pos vb]; show ¬ ((1 : Int) < 1); decide)
            have eR : numAt xs a = .num b (a + 1) := eS2.trans (scan_done w1)
            rw [eR] at q
            refine ⟨.ref p, rfl, _, rfl, p, _, _, _, rfl, rfl, hS, ea, _, rfl, _, _, rfl, rfl, (by show 2 ≤ sizeLine; decide), fun u hu => ⟨(by show 2 ≤ sizeLine; decide), fun t ht => ?_⟩⟩
            exact q t _ ((same_new hu).trans (same_new ht)) (told_num upd_same ((same_new ht) _ _ upd_same))
          · have vb : ¬ b < 192 := fun c => v (decide_eq_true c)
            have bg1 : Begun [b] := ⟨fun d m => by rw [List.mem_singleton.mp m]; exact ⟨b0, b1⟩, fun f r e => by rw [← (List.cons.inj e).1]; omega⟩
            have cs : codeSize b = b - 190 := by unfold codeSize; rw [if_neg vb]
            refine ⟨.ref p, rfl, _, rfl, p, _, _, _, rfl, rfl, hS, ea, b, 191, rfl, rfl, _, _, rfl, ?_⟩
            refine ⟨_, rfl, b - 191, rfl, by omega, by omega, ?_⟩
            refine for_range (lo := 0) (n := (b - 191).toNat) (fun k σ H' => ∃ (ds : List Int) (y4 y5 : Option V), σ = [some (.ref p), some (.int a), some (.int (valOf ds)), some (.int (b - 191)), y4, y5] ∧ H = H' ∧ ds.length = k ∧ numAt xs a = scan xs a (xs.length - a - (b :: ds).length) (b :: ds)) ⟨[], _, _, rfl, rfl, rfl, eS2⟩ ?_ ?_
            · rintro k _ _ hk ⟨ds, y4, y5, rfl, rfl, ld, eD⟩
              have wd : wants (b :: ds) = true := decide_eq_true (by rw [cs]; simp only [List.length_cons]; omega)
              refine ⟨_, rfl, _, _, rfl, rfl, _, rfl, _, _, rfl, rfl, ?_⟩
              have pe : ((a : Int) + 1 + (0 + (k : Int))) = ((a + (b :: ds).length : Nat) : Int) := by
                simp only [List.length_cons]
                omega
              refine ⟨_, rfl, .ref p, rfl, p, _, rfl, .inl hS, _, _, rfl, rfl, _, rfl, ite2 (fun u => ?_) (fun u => ?_)⟩
              · have u1 : (xs.length : Int) ≤ (a : Int) + 1 + (0 + (k : Int)) := of_decide_eq_true u
                have eR := eD.trans (scan_end wd (by omega))
                rw [eR] at q
                exact ⟨.ref p, rfl, p, _, rfl, .inl hS, (by show 2 ≤ sizeLine; decide), fun t ht => q t _ (same_new ht) (told_unf upd_same)⟩
              · have u1 : a + (b :: ds).length < xs.length := by
                  have : ¬ ((xs.length : Int) ≤ (a : Int) + 1 + (0 + (k : Int))) := fun c => u (decide_eq_true c)
                  omega
                have ex2 : xs[a + (b :: ds).length]? = some xs[a + (b :: ds).length] := List.getElem?_eq_getElem u1
                have px2 : Plain K H xs[a + (b :: ds).length] := pl _ (List.getElem_mem u1)
                generalize xs[a + (b :: ds).length] = x2 at ex2 px2
                have ea2 : atI xs ((a : Int) + 1 + (0 + (k : Int))) = some x2 := by
                  rw [pe]
                  exact atI_nat ex2
                have tw : ∀ (H' : Hp) (t : Addr), H' t = some (.tup [.str "wrong", .int ((a : Int) + 1 + (0 + (k : Int)))]) → Told K H' t (.wrong ((a : Int) + ((b :: ds).length : Int))) := fun H' t h => by
                  rw [pe, Int.natCast_add] at h
                  exact told_wrong h
                have eT := eD.trans (scan_step wd ex2 u1)
                refine ⟨.ref p, rfl, _, rfl, p, _, _, x2, rfl, rfl, hS, ea2, x2, rfl, px2, _, rfl, ?_⟩
                cases hb2 : byteOf x2 with
                | none =>
                  rw [hb2] at eT
                  rw [eT] at q
                  exact iteT (iteT ⟨_, rfl, (by show 2 ≤ sizeLine; decide), fun t ht => q t _ (same_new ht) (tw _ _ upd_same)⟩)
                | some b2 =>
                  obtain ⟨rfl, b20, b21⟩ := byteOf_some hb2
                  rw [hb2] at eT
                  have hi2 : b2 ≤ highOf (b :: ds) := b21
                  -- what stands behind a byte that may stand there
                  have good : lowOf (b :: ds) ≤ b2 → numAt xs a = scan xs a (xs.length - a - (b :: (ds ++ [b2])).length) (b :: (ds ++ [b2])) := fun lo => eT.trans (if_pos ⟨lo, hi2⟩)
                  have bad : ¬ lowOf (b :: ds) ≤ b2 → numAt xs a = .wrong ((a : Int) + ((b :: ds).length : Int)) := fun lo => eT.trans (if_neg fun c => lo c.1)
                  have next : lowOf (b :: ds) ≤ b2 → ∃ (ds' : List Int) (y4 y5 : Option V), [some (V.ref p), some (.int a), some (.int (valOf ds * 256 + b2)), some (.int (b - 191)), some (.int (0 + (k : Int))), some (.int ((a : Int) + 1 + (0 + (k : Int))))] = [some (.ref p), some (.int a), some (.int (valOf ds')), some (.int (b - 191)), y4, y5] ∧ H = H ∧ ds'.length = k + 1 ∧ numAt xs a = scan xs a (xs.length - a - (b :: ds').length) (b :: ds') := fun lo =>
                    ⟨ds ++ [b2], _, _, by rw [valOf_snoc], rfl, by rw [List.length_append, ld]; rfl, good lo⟩
                  refine iteF ⟨_, rfl, rfl, _, rfl, ?_⟩
                  by_cases k0 : k = 0
                  · subst k0
                    have dn : ds = [] := List.length_eq_zero_iff.mp ld
                    subst dn
                    refine iteT ⟨.ref p, rfl, _, rfl, p, _, _, _, rfl, rfl, hS, ea2, ?_⟩
                    have lo1 : lowOf [b] = if b = 192 then 192 else 1 := rfl
                    refine ⟨_, rfl, rfl, _, rfl, ite2 (fun m => ?_) (fun m => ?_)⟩
                    · have mb : b = 192 := by
                        have : b - 191 = 1 := V.int.inj (of_decide_eq_true m)
                        omega
                      rw [if_pos mb] at lo1
                      refine ⟨b2, 192, rfl, rfl, _, rfl, ite2 (fun lt => ?_) (fun lt => ?_)⟩
                      · have := of_decide_eq_true lt
                        rw [bad (by rw [lo1]; omega)] at q
                        exact ⟨_, rfl, (by show 2 ≤ sizeLine; decide), fun t ht => q t _ (same_new ht) (tw _ _ upd_same)⟩
                      · have : ¬ b2 < 192 := fun c => lt (decide_eq_true c)
                        exact ⟨_, rfl, _, 256, rfl, rfl, .inr ⟨by decide, by decide⟩, .ref p, rfl, _, rfl, p, _, _, _, rfl, rfl, hS, ea2, _, b2, rfl, rfl, next (by rw [lo1]; omega)⟩
                    · have mb : b ≠ 192 := fun e => m (decide_eq_true (by rw [e]; rfl))
                      rw [if_neg mb] at lo1
                      refine ⟨b2, 1, rfl, rfl, _, rfl, ite2 (fun lt => ?_) (fun lt => ?_)⟩
                      · have := of_decide_eq_true lt
                        rw [bad (by rw [lo1]; omega)] at q
                        exact ⟨_, rfl, (by show 2 ≤ sizeLine; decide), fun t ht => q t _ (same_new ht) (tw _ _ upd_same)⟩
                      · have : ¬ b2 < 1 := fun c => lt (decide_eq_true c)
                        exact ⟨_, rfl, _, 256, rfl, rfl, .inr ⟨by decide, by decide⟩, .ref p, rfl, _, rfl, p, _, _, _, rfl, rfl, hS, ea2, _, b2, rfl, rfl, next (by rw [lo1]; omega)⟩
                  · have lo2 : lowOf (b :: ds) = 0 := by
                      cases ds with
                      | nil => exact (k0 ld.symm).elim
                      | cons g r => rfl
                    have kd : decide (V.int (0 + (k : Int)) = V.int 0) = false := decide_eq_false fun e => by
                      have := V.int.inj e
                      omega
                    rw [kd]
                    refine iteF (iteF ?_)
                    exact ⟨_, rfl, _, 256, rfl, rfl, .inr ⟨by decide, by decide⟩, .ref p, rfl, _, rfl, p, _, _, _, rfl, rfl, hS, ea2, _, b2, rfl, rfl, next (by rw [lo2]; omega)⟩
            · rintro _ _ ⟨ds, y4, y5, rfl, rfl, ld, eD⟩
              have w2 : wants (b :: ds) = false := decide_eq_false (by rw [cs]; simp only [List.length_cons]; omega)
              have eR := eD.trans (scan_done w2)
              have cv : codeVal (b :: ds) = valOf ds := by
                cases ds with
                | nil =>
                  simp only [List.length_nil] at ld
                  omega
                | cons g r => rfl
              have ie : (a : Int) + 1 + (b - 191) = (a : Int) + ((b :: ds).length : Int) := by
                simp only [List.length_cons]
                omega
              have tn : ∀ (H' : Hp) (t u : Addr), H' t = some (.tup [.str "number", .ref u]) → H' u = some (.tup [.int (valOf ds), .int ((a : Int) + 1 + (b - 191))]) → Told K H' t (.num (valOf ds) ((a : Int) + ((b :: ds).length : Int))) := fun H' t u h1 h2 => by
                rw [ie] at h2
                exact told_num h1 h2
              rw [eR, cv] at q
              refine ⟨_, rfl, _, rfl, _, _, rfl, rfl, _, rfl, _, _, rfl, rfl, (by show 2 ≤ sizeLine; decide), fun u hu => ⟨(by show 2 ≤ sizeLine; decide), fun t ht => ?_⟩⟩
              exact q t _ ((same_new hu).trans (same_new ht)) (tn _ _ _ upd_same ((same_new ht) _ _ upd_same))

theorem sc__law_told : FnScope ["_law_row", "_law_start", "_law_found", "e"] ["_law_row", "_law_start"] (defScope s__law_told) := ⟨rfl, rfl, rfl, by decide +kernel, rfl, by decide +kernel, by decide +kernel⟩
def spTold (K : PySem.W.Frag) : Sp := fun vs H Q _ => ∃ (p : Addr) (xs : List V) (a : Nat), vs = [.ref p, .int a] ∧ SqL K H p xs ∧ (∀ x ∈ xs, Plain K H x) ∧ a ≤ xs.length ∧ xs.length ≤ 1000 ∧
  ∀ (t : Addr) (H' : Hp), Same H H' → Told K H' t (numAt xs a) → Q (.ref t) H'
theorem ok__law_told (T : Txt K mg) : Has P w K mg base CX0 4 "_law_told" ["_law_row", "_law_start"] [] (spTold K) := by
  refine has0 T.d__law_told sc__law_told (fun _ _ _ _ _ _ us hl => match us, hl with | [_, _], _ => rfl) (fun vs H Q E h => ?_) (fun cv A outer s H vs Q E hg hr h => ?_)
  · obtain ⟨p, xs, a, rfl, _⟩ := h
    rfl
  · obtain ⟨p, xs, a, rfl, hS, pl, al, xl, q⟩ := h
    refine ⟨_, (pss_cons (ps_try_cl rfl rfl sc__law_told.nd takes0 (fun W pn xe tk po => (pss_one (ps_set (i := 2) sc__law_told.nd rfl (.inl rfl) (pe_fnS (does_number_at (K := K) T 2 [] bind_at2) (fun σ => passAt tk σ) hg (hr.mono (by decide)) (by rfl) (pa_cons (pv 0) (pa_cons (pv 1) pa_nil))))))
        (Cls_.cons (.ref (He.ga K "WrongByte")) 3 rfl rfl ⟨rfl, by decide, .inl T.e_WrongByte.g⟩ (by exact fun a oe cls d pn hz hf => (pss_cons (ps_if (PW.pt (pw_or (pt_val (pe_callB (call_isX hz hf) (by rfl) T.m_isinstance (by decide +kernel) (pa_cons (pv 3) (pa_cons (pe_glob (v := .ref (He.ga K "Unfinished")) (by rfl) T.e_Unfinished.g rfl) pa_nil)))) (pw_or1 (pt_not (pt_val (pe_callB (call_isX hz hf) (by rfl) T.m_isinstance (by decide +kernel) (pa_cons (pv 3) (pa_cons (pe_glob (v := .ref (He.ga K "ShortestBytesError")) (by rfl) T.e_base.g rfl) pa_nil))))))))
        (pss_one (ps_ret (pe_tup (pa_cons pe_str (pa_cons pe_non pa_nil)))))
        pss_nil)
        (pss_one (ps_ret (pe_tup (pa_cons pe_str (pa_cons (pe_xfK T.e_WrongByte.c.xf T.e_WrongByte.n hz hf (pv 3)) pa_nil)))))))
        (Cls_.cons (.ref (He.ga K "Unfinished")) 3 rfl rfl ⟨rfl, by decide, .inl T.e_Unfinished.g⟩ (by exact fun a oe cls d pn hz hf => (pss_cons (ps_if (pt_not (pt_val (pe_callB (call_isX hz hf) (by rfl) T.m_isinstance (by decide +kernel) (pa_cons (pv 3) (pa_cons (pe_glob (v := .ref (He.ga K "ShortestBytesError")) (by rfl) T.e_base.g rfl) pa_nil)))))
        (pss_one (ps_ret (pe_tup (pa_cons pe_str (pa_cons pe_non pa_nil)))))
        pss_nil)
        (pss_one (ps_ret (pe_tup (pa_cons pe_str (pa_cons (pe_xfK T.e_Unfinished.c.xf T.e_Unfinished.n hz hf (pv 3)) pa_nil)))))))
        Cls_.nil)))
        (pss_one (ps_ret (pe_tup (pa_cons pe_str (pa_cons (pv 2) pa_nil)))))), ?_⟩
    refine ⟨.ref p, rfl, _, rfl, p, xs, a, rfl, .inl hS, pl, al, by omega, ?_⟩
    cases e : numAt xs a with
    | num n k =>
      rw [e] at q
      intro u H1 hu sm eu
      exact ⟨_, rfl, (by show 2 ≤ sizeLine; decide), fun t ht => q t _ (sm.trans (same_new ht)) (told_num upd_same ((same_new ht) _ _ eu))⟩
    | wrong i =>
      rw [e] at q
      intro d H1 hd sm ed
      refine ⟨true, T.x_WB_WB, fun _ a0 ha => ?_, fun z => nomatch z⟩
      refine ⟨_, rfl, He.ga K "WrongByte", d, _, _, _, _, rfl, rfl, rfl, ed, T.e_WrongByte.c, .own _, T.k_WB_UF, _, rfl, iteF ?_⟩
      refine ⟨_, rfl, He.ga K "WrongByte", d, _, _, _, _, rfl, rfl, rfl, ed, T.e_WrongByte.c, .own _, T.k_WB_S, _, rfl, iteF ?_⟩
      exact ⟨_, rfl, rfl, rfl, d, _, _, rfl, ed, rfl, (by show 2 ≤ sizeLine; decide), fun t ht => q t _ (sm.trans (same_new ht)) (told_wrong upd_same)⟩
    | unf i =>
      rw [e] at q
      intro d H1 hd sm ed
      refine ⟨false, T.x_UF_WB, (fun z => nomatch z), fun _ => ⟨true, T.x_UF_UF, fun _ a0 ha => ?_, fun z => nomatch z⟩⟩
      refine ⟨_, rfl, He.ga K "Unfinished", d, _, _, _, _, rfl, rfl, rfl, ed, T.e_Unfinished.c, .own _, T.k_UF_S, _, rfl, iteF ?_⟩
      exact ⟨_, rfl, rfl, rfl, d, _, _, rfl, ed, rfl, (by show 2 ≤ sizeLine; decide), fun t ht => q t _ (sm.trans (same_new ht)) (told_unf upd_same)⟩

theorem sc__law_row_of : FnScope ["_law_bag_here", "_law_road", "_law_turn", "_law_code_here", "_law_digits"] ["_law_bag_here"] (defScope s__law_row_of) := ⟨rfl, rfl, rfl, by decide +kernel, rfl, by decide +kernel, by decide +kernel⟩
/-- some ints -/
def spRowOf : Sp := fun vs H Q _ => ∃ (p : Addr) (m : Int), vs = [.ref p] ∧ Bag H p m ∧ m < 900000 ∧
  ∀ (l : Addr) (bs : List Int) (H' : Hp), H l = none → bs.length ≤ 64 → But p H H' → Bag H' p (m + 100) → H' l = some (.lst (bs.map V.int)) → Q (.ref l) H'
theorem But.same {p : Addr} {H H1 H2 : Hp} (a : But p H H1) (b : Same H1 H2) : But p H H2 := fun c o n h => b c o (a c o n h)
theorem But.free {p l : Addr} {H H' : Hp} (a : But p H H') (ne : l ≠ p) (h : H' l = none) : H l = none := by
  cases q : H l with
  | none => rfl
  | some o =>
    have := a l o ne q
    rw [h] at this
    cases this
theorem cut_ints (xs : List Int) (lo hi : Option Int) : ∃ ys : List Int, cutV (xs.map V.int) lo hi = ys.map V.int ∧ ys.length ≤ xs.length := by
  refine ⟨(xs.drop (HT.sIx (xs.map V.int).length 0 lo)).take (HT.sIx (xs.map V.int).length (xs.map V.int).length hi - HT.sIx (xs.map V.int).length 0 lo), ?_, ?_⟩
  · unfold cutV
    rw [List.map_take, List.map_drop]
  · rw [List.length_take, List.length_drop]
    omega
theorem cut_63 (xs : List Int) : ∃ ys : List Int, cutV (xs.map V.int) (some (-63)) none = ys.map V.int ∧ ys.length ≤ 63 := by
  obtain ⟨ys, e, l⟩ := cut_ints xs (some (-63)) none
  refine ⟨ys, e, ?_⟩
  have le : (cutV (xs.map V.int) (some (-63)) none).length = ys.length := by rw [e, List.length_map]
  rw [← le]
  unfold cutV
  rw [List.length_take, List.length_drop, HT.sIx_none]
  show min ((xs.map V.int).length - HT.sIx (xs.map V.int).length 0 (some (-63))) _ ≤ 63
  have : HT.sIx (xs.map V.int).length 0 (some (-63)) = (-63 + ((xs.map V.int).length : Int)).toNat := by
    show (if (-63 : Int) < 0 then (-63 + ((xs.map V.int).length : Int)).toNat else min (-63 : Int).toNat (xs.map V.int).length) = _
    exact if_pos (by decide)
  rw [this]
  omega
theorem ok__law_row_of (T : Txt K mg) : Has P w K mg base CX0 4 "_law_row_of" ["_law_bag_here"] [] spRowOf := by
  refine has0 T.d__law_row_of sc__law_row_of (fun _ _ _ _ _ _ us hl => match us, hl with | [_], _ => rfl) (fun vs H Q E h => ?_) (fun cv A outer s H vs Q E hg hr h => ?_)
  · obtain ⟨p, m, rfl, _⟩ := h
    rfl
  · obtain ⟨p, m, rfl, hB, m1, q⟩ := h
    refine ⟨_, (pss_cons (ps_set (i := 1) sc__law_row_of.nd rfl (.inl rfl) (pe_fn (ok__law_take T) hg (hr.mono (by decide)) (by rfl) (pa_cons (pv 0) (pa_cons pe_int pa_nil))))
        (pss_cons (ps_if (pt_cmpR op_eq (pv 1) pe_int (nomark _))
        (pss_one (ps_ret (pe_lc (own := [("_law_turn", 2)]) (g := gName 2) (tt := tYes) rfl sc__law_row_of.nd (pi_range1 (by rfl) T.m_range (pa_cons (pe_fn (ok__law_take T) hg (hr.mono (by decide)) (by rfl) (pa_cons (pv 0) (pa_cons pe_int pa_nil))) pa_nil)) (blkOk_by (own := [("_law_turn", 2)]) (N := ["_law_bag_here", "_law_road", "_law_turn", "_law_code_here", "_law_digits"]) (sc := defScope s__law_row_of) (by decide +kernel)) (fun _ _ _ _ _ => pg_name (i := 2) sc__law_row_of.nd rfl (.inl rfl)) (fun _ _ _ _ _ => pts_nil) (fun _ _ _ _ _ => (pe_fn (ok__law_of (K := K) T) hg (hr.mono (by decide)) (by rfl) (pa_cons (pv 0) (pa_cons (pe_lst (pa_cons pe_int (pa_cons pe_int (pa_cons pe_int (pa_cons pe_int (pa_cons pe_int (pa_cons (pe_fn (ok__law_take T) hg (hr.mono (by decide)) (by rfl) (pa_cons (pv 0) (pa_cons pe_int pa_nil))) pa_nil))))))) pa_nil)))))))
        pss_nil)
        (pss_cons (ps_set (i := 3) sc__law_row_of.nd rfl (.inl rfl) (pe_fn (ok__law_code T) hg (hr.mono (by decide)) (by rfl) (pa_cons (pe_fn (ok__law_number T) hg (hr.mono (by decide)) (by rfl) (pa_cons (pv 0) pa_nil)) pa_nil)))
        (pss_cons (ps_if (pt_cmpR op_eq (pv 1) pe_int (nomark _))
        (pss_one (ps_ret (pv 3)))
        pss_nil)
        (C8.pss_cut (ps_set (i := 4) sc__law_row_of.nd rfl (.inl rfl) (pe_ifExp (pt_cmpR op_eq (pe_callB (call_lenK (K := K) rfl) (by rfl) T.m_len PySem.boot_len (pa_cons (pv 3) pa_nil)) pe_int (nomark _)) (pv 3) (pe_slice (sl_listK (K := K) rfl) (pv 3) (po_some pe_int) po_none)))
        (pss_cons (ps_set (i := 4) sc__law_row_of.nd rfl (.inl rfl) (pe_slice (sl_listK (K := K) rfl) (pe_op op_cat (pe_op op_rep (pe_lst (pa_cons pe_int pa_nil)) (pe_fn (ok__law_take T) hg (hr.mono (by decide)) (by rfl) (pa_cons (pv 0) (pa_cons pe_int pa_nil)))) (pv 4)) (po_some (pe_un un_neg pe_int)) po_none))
        (pss_one (ps_ret (pe_op op_cat (pe_lst (pa_cons (pe_op op_add pe_int (pe_callB (call_lenK (K := K) rfl) (by rfl) T.m_len PySem.boot_len (pa_cons (pv 4) pa_nil))) pa_nil)) (pv 4)))))))))), ?_⟩
    refine ⟨.ref p, rfl, p, 3, m, rfl, by decide, by decide, hB, by omega, fun r H1 r0 r1 b1 hB1 => ?_⟩
    refine ⟨_, rfl, rfl, _, rfl, ite2 (fun z => ?_) (fun z => ?_)⟩
    · -- drawn bytes
      refine ⟨.ref p, rfl, p, 7, m + 1, rfl, by decide, by decide, hB1, by omega, fun n H2 n0 n1 b2 hB2 => ⟨n, rfl, by omega, by omega, fun D hD => ?_⟩⟩
      have nD : D ≠ p := (hB2.ne hD).symm
      have b12 : But p H (upd H2 D (.lst [])) := (b1.trans b2).trans (But.new hD)
      have D0 : H D = none := (b1.trans b2).free nD hD
      refine lc_range (lo := 0) (n := n.toNat) (fun j H' => ∃ bs : List Int, But p H H' ∧ Bag H' p (m + 2 + 2 * j) ∧ H' D = some (.lst (bs.map V.int)) ∧ bs.length = j) ⟨[], b12, (hB2.new hD).more (by omega), upd_same, rfl⟩ ?_ ?_
      · rintro j H3 hj ⟨bs, b3, hB3, eD, lb⟩
        refine ⟨rfl, .ref p, rfl, .ref p, rfl, p, 256, _, rfl, by decide, by decide, hB3, by omega, fun r' H4 r0' r1' b4 hB4 => ⟨(by show 6 ≤ sizeLine; decide), fun l hl => ?_⟩⟩
        refine ⟨p, l, _, _, rfl, hB4.new hl, by omega, (hB4.ne hl).symm, SqL.of upd_same, by show 0 < 6; decide, by show 6 < 1000; decide, fun j2 v H5 ev b5 hB5 => ?_⟩
        have ev' : (([191, 192, 193, 254, 255, r'] : List Int).map V.int)[j2]? = some v := ev
        rw [List.getElem?_map] at ev'
        obtain ⟨x, _, rfl⟩ := Option.map_eq_some_iff.mp ev'
        have eD5 := b5 _ _ nD ((same_new hl (o := .lst [.int 191, .int 192, .int 193, .int 254, .int 255, .int r'])) _ _ (b4 _ _ nD eD))
        refine ⟨_, eD5, ?_, bs ++ [x], ?_, ?_, ?_, ?_⟩
        · rw [List.length_map]
          exact small1000 (by omega)
        · intro b o ne e
          rw [upd_ne (ne_of_none e D0)]
          exact b5 _ _ ne ((same_new hl) _ _ (b4 _ _ ne (b3 _ _ ne e)))
        · obtain ⟨d, e, c', h1, h2, h3, h4, h5, h6⟩ := hB5
          exact ⟨d, e, c', by rw [upd_ne nD.symm]; exact h1, h2, h3, h4, h5, by omega⟩
        · rw [upd_same, List.map_append]
          rfl
        · rw [List.length_append, lb]
          rfl
      · rintro H3 ⟨bs, b3, hB3, eD, lb⟩
        exact q D bs H3 D0 (by omega) b3 (hB3.more (by omega)) eD
    · -- the code of a number
      refine ⟨.ref p, rfl, p, m + 1, rfl, hB1, by omega, fun n H2 n0 n1 b2 hB2 => ?_⟩
      obtain ⟨k, rfl⟩ := Int.eq_ofNat_of_zero_le n0
      have hk : k < 256 ^ 63 := by exact_mod_cast n1
      refine ⟨k, rfl, hk, fun pc H3 nc sm3 ec => ?_⟩
      have npc : pc ≠ p := (hB2.ne nc).symm
      have b13 : But p H H3 := (b1.trans b2).same sm3
      have hB3 := hB2.same sm3
      have pc0 : H pc = none := (b1.trans b2).free npc nc
      have cl := codeN_len hk
      refine ⟨_, rfl, rfl, _, rfl, ite2 (fun y => ?_) (fun y => ?_)⟩
      · exact ⟨_, rfl, q pc (codeN k) H3 pc0 cl b13 (hB3.more (by omega)) ec⟩
      · -- its digits, with zeros ahead
        refine ⟨fun σ' H' => ∃ (pd : Addr) (ds : List Int), σ' = [some (.ref p), some (.int r), none, some (.ref pc), some (.ref pd)] ∧ But p H H' ∧ Bag H' p (m + 1 + 70) ∧ H' pd = some (.lst (ds.map V.int)) ∧ ds.length ≤ 64 ∧ pd ≠ p, ?_, ?_⟩
        · refine ⟨.ref pc, rfl, pc, _, rfl, .inl (SqL.of ec), rfl, _, rfl, ite2 (fun x => ?_) (fun x => ?_)⟩
          · exact ⟨_, rfl, pc, codeN k, rfl, b13, hB3, ec, cl, npc⟩
          · refine ⟨.ref pc, rfl, 1, rfl, pc, _, rfl, SqL.of ec, fun c hc => ?_⟩
            obtain ⟨ys, ey, ly⟩ := cut_ints (codeN k) (some 1) none
            rw [ey]
            exact ⟨c, ys, rfl, b13.trans (But.new hc), hB3.new hc, upd_same, by omega, (hB3.ne hc).symm⟩
        rintro _ H4 ⟨pd, ds, rfl, b4, hB4, ed, ld, npd⟩
        refine ⟨(by show 1 ≤ sizeLine; decide), fun c1 hc1 => ?_⟩
        refine ⟨.ref p, rfl, p, 5, _, rfl, by decide, by decide, hB4.new hc1, by omega, fun n H5 n0 n1 b5 hB5 => ?_⟩
        have e1 := b5 _ _ ((hB4.ne hc1).symm) (upd_same (H := H4) (a := c1) (o := .lst [.int 0]))
        refine ⟨c1, n, _, rfl, rfl, e1, by omega, by omega, ?_, fun c2 hc2 => ?_⟩
        · show 1 * n.toNat ≤ sizeLine
          rw [sizeLine_eq]
          omega
        have rep : (List.replicate n.toNat [V.int 0]).flatten = (List.replicate n.toNat (0 : Int)).map V.int := by
          generalize n.toNat = k
          induction k with
          | zero => rfl
          | succ k ih =>
            rw [List.replicate_succ, List.flatten_cons, ih, List.replicate_succ]
            rfl
        rw [rep]
        have ed5 := (same_new hc2 (o := .lst ((List.replicate n.toNat (0 : Int)).map V.int))) _ _ (b5 _ _ npd ((same_new hc1 (o := .lst [.int 0])) _ _ ed))
        refine ⟨.ref pd, rfl, c2, pd, _, _, rfl, rfl, upd_same, ed5, ?_, fun c3 hc3 => ?_⟩
        · rw [List.length_map, List.length_map, List.length_replicate]
          exact Nat.le_of_lt (small1000 (by omega))
        rw [← List.map_append]
        generalize List.replicate n.toNat (0 : Int) ++ ds = ws
        obtain ⟨ys, ey, ly⟩ := cut_63 ws
        refine ⟨63, rfl, -63, rfl, c3, _, rfl, SqL.of upd_same, fun c4 hc4 => ?_⟩
        rw [ey]
        -- the first byte and the digits
        refine ⟨.ref c4, rfl, c4, _, rfl, .inl (SqL.of upd_same), 191, _, rfl, rfl, (by show 1 ≤ sizeLine; decide), fun c5 hc5 => ?_⟩
        have hB9 := ((((hB5.new hc2 (o := .lst ((List.replicate n.toNat (0 : Int)).map V.int))).new hc3 (o := .lst (ws.map V.int))).new hc4 (o := .lst (ys.map V.int))).new hc5 (o := .lst [.int (191 + ((ys.map V.int).length : Int))]))
        have b9 := (((((b4.trans (But.new hc1 (o := .lst [.int 0]))).trans b5).trans (But.new hc2 (o := .lst ((List.replicate n.toNat (0 : Int)).map V.int)))).trans (But.new hc3 (o := .lst (ws.map V.int)))).trans (But.new hc4 (o := .lst (ys.map V.int)))).trans (But.new hc5 (o := .lst [.int (191 + ((ys.map V.int).length : Int))]))
        refine ⟨.ref c4, rfl, c5, c4, _, _, rfl, rfl, upd_same, (same_new hc5) _ _ upd_same, ?_, fun c6 hc6 => ?_⟩
        · show 1 + (ys.map V.int).length ≤ sizeLine
          rw [List.length_map]
          exact Nat.le_of_lt (small1000 (by omega))
        · refine q c6 ((191 + ((ys.map V.int).length : Int)) :: ys) _ (b9.free (hB9.ne hc6).symm hc6) ?_ (b9.trans (But.new hc6)) ((hB9.new hc6).more (by omega)) ?_
          · rw [List.length_cons]
            omega
          · rw [upd_same]
            rfl

theorem sc__law_spoilt : FnScope ["_law_bag_here", "_law_row", "_law_found", "_law_odd"] ["_law_bag_here", "_law_row"] (defScope s__law_spoilt) := ⟨rfl, rfl, rfl, by decide +kernel, rfl, by decide +kernel, by decide +kernel⟩
/-- things of built-in types, but for what stands at p -/
def PlainB (K : PySem.W.Frag) (p : Addr) (H : Hp) (x : V) : Prop := (∃ i, x = .int i) ∨ (∃ b, x = .bl b) ∨ x = .non ∨ (∃ z, x = .str z) ∨ ∃ (t : Addr) (ys : List V), x = .ref t ∧ t ≠ p ∧ H t = some (.tup ys)
theorem PlainB.plain {K : PySem.W.Frag} {p : Addr} {H : Hp} {x : V} (h : PlainB K p H x) : Plain K H x := by
  rcases h with ⟨i, rfl⟩ | ⟨b, rfl⟩ | rfl | ⟨z, rfl⟩ | ⟨t, ys, rfl, _, h⟩
  · exact plain_int i
  · exact ⟨"bool", .base (.bl b), by decide⟩
  · exact ⟨"NoneType", .base .non, by decide⟩
  · exact ⟨"str", .base (.str z), by decide⟩
  · exact ⟨"tuple", .base (.tup h), by decide⟩
theorem PlainB.but {K : PySem.W.Frag} {p : Addr} {H H' : Hp} {x : V} (h : PlainB K p H x) (b : But p H H') : PlainB K p H' x := by
  rcases h with h | h | h | h | ⟨t, ys, e, ne, h⟩
  · exact .inl h
  · exact .inr (.inl h)
  · exact .inr (.inr (.inl h))
  · exact .inr (.inr (.inr (.inl h)))
  · exact .inr (.inr (.inr (.inr ⟨t, ys, e, ne, b t _ ne h⟩)))
def spSpoilt (K : PySem.W.Frag) : Sp := fun vs H Q _ => ∃ (p l : Addr) (bs : List Int) (m : Int), vs = [.ref p, .ref l] ∧ Bag H p m ∧ m < 900000 ∧ l ≠ p ∧ SqL K H l (bs.map V.int) ∧ bs.length ≤ 64 ∧
  ∀ (r : Addr) (xs : List V) (H' : Hp), H r = none → xs.length ≤ 64 → (∀ x ∈ xs, PlainB K p H' x) → But p H H' → Bag H' p (m + 10) → H' r = some (.lst xs) → Q (.ref r) H'
theorem ok__law_spoilt (T : Txt K mg) : Has P w K mg base CX0 3 "_law_spoilt" ["_law_bag_here", "_law_row"] [] (spSpoilt K) := by
  refine has0 T.d__law_spoilt sc__law_spoilt (fun _ _ _ _ _ _ us hl => match us, hl with | [_, _], _ => rfl) (fun vs H Q E h => ?_) (fun cv A outer s H vs Q E hg hr h => ?_)
  · obtain ⟨p, l, bs, m, rfl, _⟩ := h
    rfl
  · obtain ⟨p, l, bs, m, rfl, hB, m1, nl, hS, lb, q⟩ := h
    refine ⟨_, (pss_cons (ps_set (i := 2) sc__law_spoilt.nd rfl (.inl rfl) (pe_callTy (call_listK (K := K) rfl) (by rfl) T.m_list (by decide +kernel) (pa_cons (pv 1) pa_nil)))
        (C8.pss_cut (ps_if (PW.pt (pw_and (pt_cmpR (op_neK (K := K) rfl hr.units) (pv 2) (pe_lst pa_nil) (nomark _)) (pw_and1 (pt_cmpR op_eq (pe_fn (ok__law_take T) hg (hr.mono (by decide)) (by rfl) (pa_cons (pv 0) (pa_cons pe_int pa_nil))) pe_int (nomark _)))))
        (pss_cons (ps_set (i := 3) sc__law_spoilt.nd rfl (.inl rfl) (pe_lst (pa_cons pe_int (pa_cons (pe_un un_neg pe_int) (pa_cons pe_non (pa_cons pe_bl (pa_cons pe_bl (pa_cons pe_str (pa_cons (pe_tup (pa_cons pe_int pa_nil)) (pa_cons (pe_fn (ok__law_take T) hg (hr.mono (by decide)) (by rfl) (pa_cons (pv 0) (pa_cons pe_int pa_nil))) (pa_cons pe_int (pa_cons pe_int pa_nil))))))))))))
        (pss_one (ps_asg (pe_fn (ok__law_of (K := K) T) hg (hr.mono (by decide)) (by rfl) (pa_cons (pv 0) (pa_cons (pv 3) pa_nil))) (pg_sub (pv 2) (pe_fn (ok__law_take T) hg (hr.mono (by decide)) (by rfl) (pa_cons (pv 0) (pa_cons (pe_callB (call_lenK (K := K) rfl) (by rfl) T.m_len PySem.boot_len (pa_cons (pv 2) pa_nil)) pa_nil))) set_list))))
        pss_nil)
        (pss_cons (ps_if (pt_cmpR op_eq (pe_fn (ok__law_take T) hg (hr.mono (by decide)) (by rfl) (pa_cons (pv 0) (pa_cons pe_int pa_nil))) pe_int (nomark _))
        (pss_one (ps_set (i := 2) sc__law_spoilt.nd rfl (.inl rfl) (pe_slice (sl_listK (K := K) rfl) (pv 2) po_none (po_some (pe_fn (ok__law_take T) hg (hr.mono (by decide)) (by rfl) (pa_cons (pv 0) (pa_cons (pe_op op_add (pe_callB (call_lenK (K := K) rfl) (by rfl) T.m_len PySem.boot_len (pa_cons (pv 2) pa_nil)) pe_int) pa_nil)))))))
        pss_nil)
        (pss_one (ps_ret (pv 2)))))), ?_⟩
    refine ⟨.ref l, rfl, l, _, rfl, .inl hS, fun f hf => ?_⟩
    have nf : f ≠ p := (hB.ne hf).symm
    have hB1 := hB.new hf (o := .lst (bs.map V.int))
    have pl0 : ∀ (H' : Hp), ∀ x ∈ bs.map V.int, PlainB K p H' x := fun H' x mx => by
      obtain ⟨n, _, rfl⟩ := List.mem_map.mp mx
      exact .inl ⟨n, rfl⟩
    refine ⟨fun σ' H' => ∃ (xs : List V) (y3 : Option V), σ' = [some (.ref p), some (.ref l), some (.ref f), y3] ∧ But p H H' ∧ Bag H' p (m + 4) ∧ H' f = some (.lst xs) ∧ xs.length ≤ 64 ∧ ∀ x ∈ xs, PlainB K p H' x, ?_, ?_⟩
    · refine ⟨.ref f, rfl, (by show 0 ≤ sizeLine; decide), fun e he => ?_⟩
      have ef1 := (same_new he (o := .lst [])) _ _ (upd_same (H := H) (a := f) (o := .lst (bs.map V.int)))
      have hB2 := hB1.new he (o := .lst [])
      have b2 : But p H (upd (upd H f (.lst (bs.map V.int))) e (.lst [])) := (But.new hf).trans (But.new he)
      refine ne_lists (ns := bs) (ms := []) (SqL.of ef1) (SqL.of upd_same) ⟨_, rfl, ?_⟩
      by_cases bn : bs = []
      · rw [decide_eq_true bn]
        exact iteF (iteF ⟨_, _, rfl, b2, hB2.more (by omega), ef1, by rw [List.length_map]; exact lb, pl0 _⟩)
      · rw [decide_eq_false bn]
        refine iteT ⟨.ref p, rfl, p, 2, _, rfl, by decide, by decide, hB2, by omega, fun r H3 r0 r1 b3 hB3 => ⟨rfl, _, rfl, ite2 (fun z => ?_) (fun z => ?_)⟩⟩
        · have ef3 := b3 _ _ nf ef1
          refine ⟨1, rfl, (by show 1 ≤ sizeLine; decide), fun t ht => ?_⟩
          have hB4 := hB3.new ht (o := .tup [.int 5])
          refine ⟨.ref p, rfl, p, 256, _, rfl, by decide, by decide, hB4, by omega, fun r' H5 r0' r1' b5 hB5 => ⟨(by show 10 ≤ sizeLine; decide), fun o ho => ?_⟩⟩
          have nt : t ≠ p := (hB3.ne ht).symm
          have et5 := b5 _ _ nt (upd_same (H := H3) (a := t) (o := .tup [.int 5]))
          have ef5 := b5 _ _ nf ((same_new ht (o := .tup [.int 5])) _ _ ef3)
          have b15 : But p H H5 := ((b2.trans b3).trans (But.new ht)).trans b5
          refine ⟨.ref p, rfl, .ref o, rfl, p, o, _, _, rfl, hB5.new ho, by omega, (hB5.ne ho).symm, SqL.of upd_same, by show 0 < 10; decide, by show 10 < 1000; decide, fun j v H6 ev b6 hB6 => ?_⟩
          have et6 := b6 _ _ nt ((same_new ho (o := .lst [.int 256, .int (-1), .non, .bl true, .bl false, .str "a", .ref t, .int r', .int 0, .int 255])) _ _ et5)
          have ef6 := b6 _ _ nf ((same_new ho (o := .lst [.int 256, .int (-1), .non, .bl true, .bl false, .str "a", .ref t, .int r', .int 0, .int 255])) _ _ ef5)
          have b16 : But p H H6 := (b15.trans (But.new ho)).trans b6
          have pv : PlainB K p H6 v := by
            match j, ev with
            | 0, ev => cases ev; exact .inl ⟨_, rfl⟩
            | 1, ev => cases ev; exact .inl ⟨_, rfl⟩
            | 2, ev => cases ev; exact .inr (.inr (.inl rfl))
            | 3, ev => cases ev; exact .inr (.inl ⟨_, rfl⟩)
            | 4, ev => cases ev; exact .inr (.inl ⟨_, rfl⟩)
            | 5, ev => cases ev; exact .inr (.inr (.inr (.inl ⟨_, rfl⟩)))
            | 6, ev => cases ev; exact .inr (.inr (.inr (.inr ⟨t, _, rfl, nt, et6⟩)))
            | 7, ev => cases ev; exact .inl ⟨_, rfl⟩
            | 8, ev => cases ev; exact .inl ⟨_, rfl⟩
            | 9, ev => cases ev; exact .inl ⟨_, rfl⟩
            | j + 10, ev => cases ev
          have bp : 0 < bs.length := List.length_pos_iff.mpr bn
          refine ⟨.ref f, rfl, .ref p, rfl, .ref f, rfl, f, _, rfl, .inl (SqL.of ef6), p, _, _, rfl, by rw [List.length_map]; omega, by rw [List.length_map]; omega, hB6, by omega, fun k H7 k0 k1 b7 hB7 => ?_⟩
          obtain ⟨kn, rfl⟩ := Int.eq_ofNat_of_zero_le k0
          have ef7 := b7 _ _ nf ef6
          have ik : ixN (bs.map V.int).length (kn : Int) = some kn := by
            unfold ixN
            rw [if_pos (by omega), if_pos k1, Int.toNat_natCast]
          refine ⟨f, _, _, kn, rfl, rfl, ef7, ik, (bs.map V.int).set kn v, _, rfl, ?_, ?_, upd_same, ?_, fun x mx => ?_⟩
          · intro b o' ne e
            rw [upd_ne (ne_of_none e hf)]
            exact b7 _ _ ne (b16 _ _ ne e)
          · obtain ⟨d, e', c', h1, h2, h3, h4, h5, h6⟩ := hB7
            exact ⟨d, e', c', by rw [upd_ne nf.symm]; exact h1, h2, h3, h4, h5, by omega⟩
          · rw [List.length_set, List.length_map]
            exact lb
          · have up : But p H7 (upd H7 f (.lst ((bs.map V.int).set kn v))) → True := fun _ => trivial
            rcases List.mem_or_eq_of_mem_set mx with mx | rfl
            · obtain ⟨n, _, rfl⟩ := List.mem_map.mp mx
              exact .inl ⟨n, rfl⟩
            · rcases pv with h | h | h | h | ⟨t', ys, e', ne, h⟩
              · exact .inl h
              · exact .inr (.inl h)
              · exact .inr (.inr (.inl h))
              · exact .inr (.inr (.inr (.inl h)))
              · refine .inr (.inr (.inr (.inr ⟨t', ys, e', ne, ?_⟩)))
                have h7 := b7 _ _ ne h
                rw [upd_ne (ne_of h7 ef7 (fun z => by cases z))]
                exact h7
        · exact ⟨_, _, rfl, b2.trans b3, hB3.more (by omega), b3 _ _ nf ef1, by rw [List.length_map]; exact lb, pl0 _⟩
    rintro _ H2 ⟨xs, y3, rfl, b2, hB2, ef, lx, px⟩
    refine ⟨.ref p, rfl, p, 2, _, rfl, by decide, by decide, hB2, by omega, fun r H3 r0 r1 b3 hB3 => ⟨rfl, _, rfl, ite2 (fun z => ?_) (fun z => ?_)⟩⟩
    · have ef3 := b3 _ _ nf ef
      refine ⟨.ref f, rfl, .ref p, rfl, .ref f, rfl, f, _, rfl, .inl (SqL.of ef3), _, 1, rfl, rfl, p, _, _, rfl, by omega, by omega, hB3, by omega, fun k H4 k0 k1 b4 hB4 => ?_⟩
      have ef4 := b4 _ _ nf ef3
      refine ⟨k, rfl, f, _, rfl, SqL.of ef4, fun c hc => ?_⟩
      obtain ⟨kn, rfl⟩ := Int.eq_ofNat_of_zero_le k0
      have b14 : But p H H4 := (b2.trans b3).trans b4
      have sub : ∀ x ∈ cutV xs none (some (kn : Int)), x ∈ xs := fun x mx => by
        unfold cutV at mx
        exact List.mem_of_mem_drop (List.mem_of_mem_take mx)
      refine ⟨_, rfl, q c _ _ (b14.free (hB4.ne hc).symm hc) (Nat.le_trans (cutV_length _ _ _) lx) (fun x mx => ?_) (b14.trans (But.new hc)) ((hB4.new hc).more (by omega)) upd_same⟩
      exact (px x (sub x mx)).but ((b3.trans b4).trans (But.new hc))
    · exact ⟨_, rfl, q f xs H3 hf lx (fun x mx => (px x mx).but b3) (b2.trans b3) (hB3.more (by omega)) (b3 _ _ nf ef)⟩

theorem sc_law : FnScope ["_law_script", "_law_at", "_law_bag_here", "_law_turn", "_law_ahead", "_law_row"] ["_law_script"] (defScope s_law) := ⟨rfl, rfl, rfl, by decide +kernel, rfl, by decide +kernel, by decide +kernel⟩
def spLaw (K : PySem.W.Frag) : Sp := fun vs H Q _ => ∃ (a : Addr) (ns : List Int), vs = [.ref a] ∧ SqL K H a (ns.map V.int) ∧ ns.length ≤ 63 ∧ ∀ H', Q (.bl true) H'
theorem ok_law (T : Txt K mg) : Has P w K mg base CX0 5 "law" ["_law_script"] [] (spLaw K) := by
  refine has0 T.d_law sc_law (fun _ _ _ _ _ _ us hl => match us, hl with | [_], _ => rfl) (fun vs H Q E h => ?_) (fun cv A outer s H vs Q E hg hr h => ?_)
  · obtain ⟨a, ns, rfl, _⟩ := h
    rfl
  · obtain ⟨a, ns, rfl, hS, hl, q⟩ := h
    have hrep := rep_of hr
    refine ⟨_, (pss_cons (ps_for PassesOwn.never rfl (pi_range1 (by rfl) T.m_range (pa_cons (pe_callB (call_max2 rfl) (by rfl) T.m_max (by decide +kernel) (pa_cons pe_int (pa_cons (pe_callB (call_lenK (K := K) rfl) (by rfl) T.m_len PySem.boot_len (pa_cons (pe_slice (sl_listK (K := K) rfl) (pv 0) po_none (po_some pe_int)) pa_nil)) pa_nil))) pa_nil)) (pg_name (i := 1) sc_law.nd rfl (.inl rfl))
        (pss_cons (ps_set (i := 2) sc_law.nd rfl (.inr rfl) (pe_fn (ok__law_bag (K := K) T) hg (hr.mono (by decide)) (by rfl) (pa_cons (pv 0) (pa_cons (pv 1) pa_nil))))
        (pss_cons (ps_setLc (i := 4) (own := [("_law_turn", 3)]) (g := gName 3) (tt := tYes) rfl sc_law.nd rfl rfl (sw_true rfl rfl rfl (by decide +kernel)) (pi_range1 (by rfl) T.m_range (pa_cons (pe_fn (ok__law_take T) hg (hr.mono (by decide)) (by rfl) (pa_cons (pv 2) (pa_cons pe_int pa_nil))) pa_nil)) (blkOk_by (own := [("_law_turn", 3)]) (N := ["_law_script", "_law_at", "_law_bag_here", "_law_turn", "_law_ahead", "_law_row"]) (sc := defScope s_law) (by decide +kernel)) (fun _ _ _ _ _ => pg_name (i := 3) sc_law.nd rfl (.inl rfl)) (fun _ _ _ _ _ => pts_nil) (fun _ _ _ _ _ => (pe_fn (ok__law_of (K := K) T) hg (hr.mono (by decide)) (by rfl) (pa_cons (pv 2) (pa_cons (pe_lst (pa_cons pe_int (pa_cons pe_int (pa_cons pe_non (pa_cons pe_bl pa_nil))))) pa_nil)))))
        (pss_cons (ps_set (i := 5) sc_law.nd rfl (.inl rfl) (pe_op op_cat (pv 4) (pe_fn (ok__law_spoilt (K := K) T) hg (hr.mono (by decide)) (by rfl) (pa_cons (pv 2) (pa_cons (pe_fn (ok__law_row_of (K := K) T) hg (hr.mono (by decide)) (by rfl) (pa_cons (pv 2) pa_nil)) pa_nil)))))
        (pss_one (ps_if (pt_cmpR op_ne (pe_callB (call_reprK (K := K) rfl hg hrep) (by rfl) T.m_repr (by decide +kernel) (pa_cons (pe_fn (ok__law_told (K := K) T) hg (hr.mono (by decide)) (by rfl) (pa_cons (pe_callTy (call_listK (K := K) rfl) (by rfl) T.m_list (by decide +kernel) (pa_cons (pv 5) pa_nil)) (pa_cons (pe_callB (call_lenK (K := K) rfl) (by rfl) T.m_len PySem.boot_len (pa_cons (pv 4) pa_nil)) pa_nil))) pa_nil)) (pe_callB (call_reprK (K := K) rfl hg hrep) (by rfl) T.m_repr (by decide +kernel) (pa_cons (pe_fn (ok__law_due (K := K) T) hg (hr.mono (by decide)) (by rfl) (pa_cons (pv 5) (pa_cons (pe_callB (call_lenK (K := K) rfl) (by rfl) T.m_len PySem.boot_len (pa_cons (pv 4) pa_nil)) pa_nil))) pa_nil)) (nomark _))
        (pss_one (ps_ret pe_bl))
        pss_nil))))))
        (pss_one (ps_ret pe_bl))), ?_⟩
    refine ⟨.ref a, rfl, 20, rfl, a, _, rfl, hS, fun c hc => ?_⟩
    have few : (cutV (ns.map V.int) none (some 20)).length ≤ 20 := cut_len _ 20
    generalize cutV (ns.map V.int) none (some 20) = cs at few ⊢
    have sm1 : Same H (upd H c (.lst cs)) := same_new hc
    refine ⟨c, cs, rfl, .inl (SqL.of upd_same), 1, _, rfl, _, rfl, ?_, ?_, ?_⟩
    · split <;> omega
    · split <;> omega
    have mx : (if (cs.length : Int) > 1 then (cs.length : Int) else 1) ≤ 20 := by split <;> omega
    generalize (if (cs.length : Int) > 1 then (cs.length : Int) else 1) = mm at mx ⊢
    refine for_range (lo := 0) (n := mm.toNat) (fun _ σ H3 => ∃ y1 y2 y3 y4 y5 : Option V, σ = [some (.ref a), y1, y2, y3, y4, y5] ∧ Same H H3) ⟨_, _, _, _, _, rfl, sm1⟩ ?_ ?_
    · rintro i σ H3 hi ⟨y1, y2, y3, y4, y5, rfl, sm3⟩
      refine ⟨.ref a, rfl, .int (0 + i), rfl, a, ns, 0 + i, rfl, sm3.seq hS, by omega, by omega, fun p H4 sm4 np hB => ?_⟩
      have np0 : H p = none := sm3.free np
      have sm34 := sm3.trans sm4
      -- up to three things ahead
      refine ⟨.ref p, rfl, p, 4, 0, rfl, by decide, by decide, hB, by decide, fun n H5 n0 n1 b5 hB5 => ⟨n, rfl, by omega, by omega, fun D hD => ?_⟩⟩
      have nD : D ≠ p := (hB5.ne hD).symm
      have D0 : H4 D = none := b5.free nD hD
      refine lc_range (lo := 0) (n := n.toNat) (fun j H' => ∃ xs : List V, But p H4 H' ∧ Bag H' p (1 + j) ∧ H' D = some (.lst xs) ∧ xs.length = j ∧ ∀ x ∈ xs, PlainB K p H' x) ⟨[], b5.trans (But.new hD), (hB5.new hD).more (by omega), upd_same, rfl, fun _ m => (nomatch m)⟩ ?_ ?_
      · rintro j H6 hj ⟨xs, b6, hB6, eD, lx, px⟩
        refine ⟨rfl, .ref p, rfl, (by show 4 ≤ sizeLine; decide), fun l hl => ?_⟩
        refine ⟨p, l, _, _, rfl, hB6.new hl, by omega, (hB6.ne hl).symm, SqL.of upd_same, by show 0 < 4; decide, by show 4 < 1000; decide, fun j2 v H7 ev b7 hB7 => ?_⟩
        have eD7 := b7 _ _ nD ((same_new hl (o := .lst [.int 0, .int 255, .non, .bl true])) _ _ eD)
        have pv : ∀ H', PlainB K p H' v := fun H' => by
          match j2, ev with
          | 0, ev => cases ev; exact .inl ⟨_, rfl⟩
          | 1, ev => cases ev; exact .inl ⟨_, rfl⟩
          | 2, ev => cases ev; exact .inr (.inr (.inl rfl))
          | 3, ev => cases ev; exact .inr (.inl ⟨_, rfl⟩)
          | j2 + 4, ev => cases ev
        refine ⟨_, eD7, small1000 (by omega), xs ++ [v], ?_, ?_, upd_same, ?_, fun x mx => ?_⟩
        · intro b o ne e
          rw [upd_ne (ne_of_none e D0)]
          exact b7 _ _ ne ((same_new hl) _ _ (b6 _ _ ne e))
        · obtain ⟨d, e', c', h1, h2, h3, h4, h5, h6⟩ := hB7
          exact ⟨d, e', c', by rw [upd_ne nD.symm]; exact h1, h2, h3, h4, h5, by omega⟩
        · rw [List.length_append, lx]
          rfl
        · rcases List.mem_append.mp mx with mx | mx
          · rcases px x mx with h | h | h | h | ⟨t', ys, e', ne, h⟩
            · exact .inl h
            · exact .inr (.inl h)
            · exact .inr (.inr (.inl h))
            · exact .inr (.inr (.inr (.inl h)))
            · refine .inr (.inr (.inr (.inr ⟨t', ys, e', ne, ?_⟩)))
              have h7 := b7 _ _ ne ((same_new hl (o := .lst [.int 0, .int 255, .non, .bl true])) _ _ h)
              rw [upd_ne (ne_of h7 eD7 (fun z => by cases z))]
              exact h7
          · rw [List.mem_singleton.mp mx]
            exact pv _
      · rintro H6 ⟨xs, b6, hB6, eD, lx, px⟩
        have sm6 : Same H H6 := same_but sm34 b6 np0
        -- the row
        refine ⟨_, rfl, .ref p, rfl, .ref p, rfl, p, _, rfl, hB6, by omega, fun l bs H7 l0 lb b7 hB7 el => ?_⟩
        have nl : l ≠ p := (hB6.ne l0).symm
        refine ⟨p, l, bs, _, rfl, hB7, by omega, nl, SqL.of el, lb, fun r ys H8 r0 ly py b8 hB8 er => ?_⟩
        have eD8 := b8 _ _ nD (b7 _ _ nD eD)
        have sm8 : Same H H8 := same_but (same_but sm6 b7 np0) b8 np0
        refine ⟨D, r, _, _, rfl, rfl, eD8, er, Nat.le_of_lt (small1000 (by omega)), fun w hw => ?_⟩
        have pall : ∀ x ∈ xs ++ ys, Plain K (upd H8 w (.lst (xs ++ ys))) x := fun x mx => by
          refine Plain.same ?_ (same_new hw)
          rcases List.mem_append.mp mx with mx | mx
          · exact ((px x mx).but (b7.trans b8)).plain
          · exact (py x mx).plain
        have len : (xs ++ ys).length ≤ 1000 := by
          rw [List.length_append]
          omega
        have eDw := (same_new hw (o := .lst (xs ++ ys))) _ _ eD8
        refine ⟨.ref w, rfl, w, _, rfl, .inl (SqL.of upd_same), fun w2 hw2 => ?_⟩
        have sw2 := same_new hw2 (o := .lst (xs ++ ys))
        refine ⟨.ref D, rfl, D, _, rfl, .inl (SqL.of (sw2 _ _ eDw)), w2, _, xs.length, rfl, SqL.of upd_same, fun x mx => (pall x mx).same sw2, by rw [List.length_append]; omega, len, fun t H9 sm9 tt => ?_⟩
        have fine := fine_numAt (xs := xs ++ ys) (a := xs.length) len (by rw [List.length_append]; omega)
        refine ⟨_, _, rfl, shows_told tt fine, ?_⟩
        refine ⟨.ref w, rfl, .ref D, rfl, D, _, rfl, .inl (SqL.of (sm9 _ _ (sw2 _ _ eDw))), w, _, xs.length, rfl, SqL.of (sm9 _ _ (sw2 _ _ upd_same)), fun x mx => ((pall x mx).same sw2).same sm9, by rw [List.length_append]; omega, len, fun t2 H10 sm10 tt2 => ?_⟩
        refine ⟨_, _, rfl, shows_told tt2 fine, rfl, _, rfl, iteNS rfl ?_⟩
        exact ⟨_, _, _, _, _, rfl, sm8.trans ((same_new hw).trans (sw2.trans (sm9.trans sm10)))⟩
    · rintro σ H3 ⟨y1, y2, y3, y4, y5, rfl, sm3⟩
      exact q _
theorem law_want (K : PySem.W.Frag) (H : Hp) (a : Addr) (ns : List Int) (hl : ns.length ≤ 63) (_ : ∀ z ∈ ns, Builtin.Int.intBits z ≤ 1048576) (_ : Only H) (hS : SqL K H a (ns.map V.int)) :
    spLaw K [.ref a] H (fun v _ => v = .bl true) fun _ _ _ => False := ⟨a, ns, rfl, hS, hl, fun _ => rfl⟩

end
/-! ### the head -/
def hd__law_take : He.DefD := ⟨("_law_take", none), "_law_take", "_law_take", defArgs s__law_take, defBody s__law_take, defScope s__law_take, [], []⟩
def hd__law_bag : He.DefD := ⟨("_law_bag", none), "_law_bag", "_law_bag", defArgs s__law_bag, defBody s__law_bag, defScope s__law_bag, [], []⟩
def hd__law_of : He.DefD := ⟨("_law_of", none), "_law_of", "_law_of", defArgs s__law_of, defBody s__law_of, defScope s__law_of, [], []⟩
def hd__law_number : He.DefD := ⟨("_law_number", none), "_law_number", "_law_number", defArgs s__law_number, defBody s__law_number, defScope s__law_number, [], []⟩
def hd__law_code : He.DefD := ⟨("_law_code", none), "_law_code", "_law_code", defArgs s__law_code, defBody s__law_code, defScope s__law_code, [], []⟩
def hd_is_integer : He.DefD := ⟨("is_integer", none), "is_integer", "is_integer", defArgs s_is_integer, defBody s_is_integer, defScope s_is_integer, [], []⟩
def hd_is_byte : He.DefD := ⟨("is_byte", none), "is_byte", "is_byte", defArgs s_is_byte, defBody s_is_byte, defScope s_is_byte, [], []⟩
def hd_code_size : He.DefD := ⟨("code_size", none), "code_size", "code_size", defArgs s_code_size, defBody s_code_size, defScope s_code_size, [], []⟩
def hd_code_bounds : He.DefD := ⟨("code_bounds", none), "code_bounds", "code_bounds", defArgs s_code_bounds, defBody s_code_bounds, defScope s_code_bounds, [], []⟩
def hd_code_number : He.DefD := ⟨("code_number", none), "code_number", "code_number", defArgs s_code_number, defBody s_code_number, defScope s_code_number, [], []⟩
def hd_number_at : He.DefD := ⟨("number_at", none), "number_at", "number_at", defArgs s_number_at, defBody s_number_at, defScope s_number_at, [.int 0], []⟩
def hd__law_is_byte : He.DefD := ⟨("_law_is_byte", none), "_law_is_byte", "_law_is_byte", defArgs s__law_is_byte, defBody s__law_is_byte, defScope s__law_is_byte, [], []⟩
def hd__law_due : He.DefD := ⟨("_law_due", none), "_law_due", "_law_due", defArgs s__law_due, defBody s__law_due, defScope s__law_due, [], []⟩
def hd__law_told : He.DefD := ⟨("_law_told", none), "_law_told", "_law_told", defArgs s__law_told, defBody s__law_told, defScope s__law_told, [], []⟩
def hd__law_row_of : He.DefD := ⟨("_law_row_of", none), "_law_row_of", "_law_row_of", defArgs s__law_row_of, defBody s__law_row_of, defScope s__law_row_of, [], []⟩
def hd__law_spoilt : He.DefD := ⟨("_law_spoilt", none), "_law_spoilt", "_law_spoilt", defArgs s__law_spoilt, defBody s__law_spoilt, defScope s__law_spoilt, [], []⟩
def hd_law : He.DefD := ⟨("law", none), "law", "law", defArgs s_law, defBody s_law, defScope s_law, [], []⟩
def hd_init_WrongByte : He.DefD := ⟨("WrongByte", some "__init__"), "__init__", "WrongByte.__init__", defArgs s_init_WrongByte, defBody s_init_WrongByte, defScope s_init_WrongByte, [], []⟩
def hd_init_Unfinished : He.DefD := ⟨("Unfinished", some "__init__"), "__init__", "Unfinished.__init__", defArgs s_init_Unfinished, defBody s_init_Unfinished, defScope s_init_Unfinished, [], []⟩
def hfn : List He.DefD := ([hd__law_take, hd__law_bag, hd__law_of, hd__law_number, hd__law_code, hd_is_integer, hd_is_byte, hd_code_size, hd_code_bounds, hd_code_number, hd_number_at, hd__law_is_byte, hd__law_due, hd__law_told, hd__law_row_of, hd__law_spoilt, hd_law, hd_init_WrongByte, hd_init_Unfinished] : List He.DefD)
def hf_0 : Fb := fun K => (He.Fa.glo "_law_take").ok K
def hf_1 : Fb := fun K => (He.Fa.glo "_law_bag").ok K
def hf_2 : Fb := fun K => (He.Fa.glo "_law_of").ok K
def hf_3 : Fb := fun K => (He.Fa.glo "_law_number").ok K
def hf_4 : Fb := fun K => (He.Fa.glo "_law_code").ok K
def hf_5 : Fb := fun K => (He.Fa.glo "is_integer").ok K
def hf_6 : Fb := fun K => (He.Fa.glo "is_byte").ok K
def hf_7 : Fb := fun K => (He.Fa.glo "code_size").ok K
def hf_8 : Fb := fun K => (He.Fa.glo "code_bounds").ok K
def hf_9 : Fb := fun K => (He.Fa.glo "code_number").ok K
def hf_10 : Fb := fun K => (He.Fa.glo "number_at").ok K
def hf_11 : Fb := fun K => (He.Fa.glo "_law_is_byte").ok K
def hf_12 : Fb := fun K => (He.Fa.glo "_law_due").ok K
def hf_13 : Fb := fun K => (He.Fa.glo "_law_told").ok K
def hf_14 : Fb := fun K => (He.Fa.glo "_law_row_of").ok K
def hf_15 : Fb := fun K => (He.Fa.glo "_law_spoilt").ok K
def hf_16 : Fb := fun K => (He.Fa.glo "law").ok K
def hf_17 : Fb := fun K => (He.Fa.free "abs").ok K
def hf_18 : Fb := fun K => (He.Fa.free "bool").ok K
def hf_19 : Fb := fun K => (He.Fa.free "int").ok K
def hf_20 : Fb := fun K => (He.Fa.free "isinstance").ok K
def hf_21 : Fb := fun K => (He.Fa.free "len").ok K
def hf_22 : Fb := fun K => (He.Fa.free "list").ok K
def hf_23 : Fb := fun K => (He.Fa.free "max").ok K
def hf_24 : Fb := fun K => (He.Fa.free "range").ok K
def hf_25 : Fb := fun K => (He.Fa.free "repr").ok K
def hf_26 : Fb := fun K => baseAtB K "ShortestBytesError"
def hf_27 : Fb := fun K => errAtB K "WrongByte" "at"
def hf_28 : Fb := fun K => errAtB K "Unfinished" "at"
def hf_29 : Fb := fun K => (He.Fa.exm "WrongByte" "WrongByte" true).ok K
def hf_30 : Fb := fun K => (He.Fa.exm "Unfinished" "WrongByte" false).ok K
def hf_31 : Fb := fun K => (He.Fa.exm "Unfinished" "Unfinished" true).ok K
def hf_32 : Fb := fun K => decide (PySem.W.kitOne K (.ref (He.ga K "WrongByte")) (.ref (He.ga K "Unfinished")) = some false)
def hf_33 : Fb := fun K => decide (PySem.W.kitOne K (.ref (He.ga K "WrongByte")) (.ref (He.ga K "ShortestBytesError")) = some true)
def hf_34 : Fb := fun K => decide (PySem.W.kitOne K (.ref (He.ga K "Unfinished")) (.ref (He.ga K "ShortestBytesError")) = some true)
def hfa : List Fb := ([hf_0, hf_1, hf_2, hf_3, hf_4, hf_5, hf_6, hf_7, hf_8, hf_9, hf_10, hf_11, hf_12, hf_13, hf_14, hf_15, hf_16, hf_17, hf_18, hf_19] : List Fb) ++ ([hf_20, hf_21, hf_22, hf_23, hf_24, hf_25, hf_26, hf_27, hf_28, hf_29, hf_30, hf_31, hf_32, hf_33, hf_34] : List Fb)
abbrev hR : PySem.W.OpenRow := PySem.W.OpenLaw.row PySem.Challenge.rw_shortestbytes_k03_wrong_codes
abbrev hhk : PySem.W.Hook := hookF 6 hfa hfn
def hob (s : PySem.W.SharedT) : He.AlD := lookF 6 hfa hfn (HandSHeadRun.getT s)
theorem hob_eq (s : PySem.W.SharedT) : hob s = hhk.obs s.abs := lookF_eq (HandSHeadRun.getT_eq s)
def hloose : List Str := (["ShortestBytesError", "WrongByte", "Unfinished", "is_integer", "is_byte", "code_size", "code_bounds", "code_number", "number_at", "_law_bag", "_law_take", "_law_of", "_law_number", "_law_code", "_law_row_of", "_law_spoilt", "_law_is_byte", "_law_due", "_law_told"] : List Str)
theorem hrun (w : World) : HandSHeadRun.RunEq hR (PySem.W.view hR.prog [22]) hhk hob 2000 hloose w := by
  intro os
  kernel_rfl
theorem txt_of {K : PySem.W.Frag} {h : Heap} {mg : Str → Option Value} (X : K.In h) (G : h.Ns mainGlobals mg) (c : SaysF hfa hfn K) : Txt K mg where
  d__law_take := ⟨He.glo_ok X G (c.fact 0 (f := hf_0) rfl), c.def_ 0 (d := hd__law_take) rfl⟩
  d__law_bag := ⟨He.glo_ok X G (c.fact 1 (f := hf_1) rfl), c.def_ 1 (d := hd__law_bag) rfl⟩
  d__law_of := ⟨He.glo_ok X G (c.fact 2 (f := hf_2) rfl), c.def_ 2 (d := hd__law_of) rfl⟩
  d__law_number := ⟨He.glo_ok X G (c.fact 3 (f := hf_3) rfl), c.def_ 3 (d := hd__law_number) rfl⟩
  d__law_code := ⟨He.glo_ok X G (c.fact 4 (f := hf_4) rfl), c.def_ 4 (d := hd__law_code) rfl⟩
  d_is_integer := ⟨He.glo_ok X G (c.fact 5 (f := hf_5) rfl), c.def_ 5 (d := hd_is_integer) rfl⟩
  d_is_byte := ⟨He.glo_ok X G (c.fact 6 (f := hf_6) rfl), c.def_ 6 (d := hd_is_byte) rfl⟩
  d_code_size := ⟨He.glo_ok X G (c.fact 7 (f := hf_7) rfl), c.def_ 7 (d := hd_code_size) rfl⟩
  d_code_bounds := ⟨He.glo_ok X G (c.fact 8 (f := hf_8) rfl), c.def_ 8 (d := hd_code_bounds) rfl⟩
  d_code_number := ⟨He.glo_ok X G (c.fact 9 (f := hf_9) rfl), c.def_ 9 (d := hd_code_number) rfl⟩
  d_number_at := ⟨He.glo_ok X G (c.fact 10 (f := hf_10) rfl), c.def_ 10 (d := hd_number_at) rfl⟩
  d__law_is_byte := ⟨He.glo_ok X G (c.fact 11 (f := hf_11) rfl), c.def_ 11 (d := hd__law_is_byte) rfl⟩
  d__law_due := ⟨He.glo_ok X G (c.fact 12 (f := hf_12) rfl), c.def_ 12 (d := hd__law_due) rfl⟩
  d__law_told := ⟨He.glo_ok X G (c.fact 13 (f := hf_13) rfl), c.def_ 13 (d := hd__law_told) rfl⟩
  d__law_row_of := ⟨He.glo_ok X G (c.fact 14 (f := hf_14) rfl), c.def_ 14 (d := hd__law_row_of) rfl⟩
  d__law_spoilt := ⟨He.glo_ok X G (c.fact 15 (f := hf_15) rfl), c.def_ 15 (d := hd__law_spoilt) rfl⟩
  d_law := ⟨He.glo_ok X G (c.fact 16 (f := hf_16) rfl), c.def_ 16 (d := hd_law) rfl⟩
  m_abs := He.free_ok X G (c.fact 17 (f := hf_17) rfl)
  m_bool := He.free_ok X G (c.fact 18 (f := hf_18) rfl)
  m_int := He.free_ok X G (c.fact 19 (f := hf_19) rfl)
  m_isinstance := He.free_ok X G (c.fact 20 (f := hf_20) rfl)
  m_len := He.free_ok X G (c.fact 21 (f := hf_21) rfl)
  m_list := He.free_ok X G (c.fact 22 (f := hf_22) rfl)
  m_max := He.free_ok X G (c.fact 23 (f := hf_23) rfl)
  m_range := He.free_ok X G (c.fact 24 (f := hf_24) rfl)
  m_repr := He.free_ok X G (c.fact 25 (f := hf_25) rfl)
  e_base := baseAt_ok X G (c.fact 26 (f := hf_26) rfl)
  e_WrongByte := errAt_ok X G (c.fact 27 (f := hf_27) rfl) (c.def_ 17 (d := hd_init_WrongByte) rfl)
  e_Unfinished := errAt_ok X G (c.fact 28 (f := hf_28) rfl) (c.def_ 18 (d := hd_init_Unfinished) rfl)
  x_WB_WB := He.exm_ok (c.fact 29 (f := hf_29) rfl)
  x_UF_WB := He.exm_ok (c.fact 30 (f := hf_30) rfl)
  x_UF_UF := He.exm_ok (c.fact 31 (f := hf_31) rfl)
  k_WB_UF := of_decide_eq_true (c.fact 32 (f := hf_32) rfl)
  k_WB_S := of_decide_eq_true (c.fact 33 (f := hf_33) rfl)
  k_UF_S := of_decide_eq_true (c.fact 34 (f := hf_34) rfl)
end Sb
open PySem PySem.W PySem.Calls PyProof.Rows
set_option maxRecDepth 100000 in
set_option maxHeartbeats 8000000 in
theorem PySem.Challenge.cw_shortestbytes_k03_wrong_codes_holds : PySem.Challenge.rw_shortestbytes_k03_wrong_codes.Holds := by
  w_on; o_law
  refine HandSHeadRun.head_any (r := OpenLaw.row PySem.Challenge.rw_shortestbytes_k03_wrong_codes) (q := view (OpenLaw.row PySem.Challenge.rw_shortestbytes_k03_wrong_codes).prog [22]) (H := Sb.hhk) (ob := Sb.hob) (M := 2000) (loose := Sb.hloose) (d := HandSHeadRun.topDef (OpenLaw.row PySem.Challenge.rw_shortestbytes_k03_wrong_codes).prog 22) (kwd := []) Sb.hob_eq
    (by kernel_rfl) (fun s => by kernel_rfl) Sb.hrun (by kernel_rfl) (by kernel_rfl) (by kernel_rfl) (by rfl) (by first | assumption | decide +kernel) (by decide +kernel) ⟨rfl, rfl, rfl, rfl, rfl, by decide +kernel⟩ ?hw ?hc
  case hw => w_witness2
  case hc =>
    refine Sb.walk_ofG (l := PySem.Challenge.rw_shortestbytes_k03_wrong_codes) (n := 63) (k := 5) (x := "_law_script") (nm := "law") (CX := fun w => L2.CX0) rfl (by decide) (by kernel_rfl) (by kernel_rfl) ⟨rfl, by decide, by decide⟩ ?F (fun _ _ _ _ _ z => z)
    intro w mg h Y G
    obtain ⟨K, KX, c⟩ := Y
    exact ⟨K, Sb.spLaw K, KX, Sb.law_want K, fun base _ _ => Sb.ok_law (Sb.txt_of KX G c)⟩
#print axioms PySem.Challenge.cw_shortestbytes_k03_wrong_codes_holds
