import PyProof.Rows.All
import Wide.All
import OpenK.AllK
import Wide.FinOn
import PySem.Challenge.RW_shortestbytes_k09_bad_values
import HandS.ForMost
import HandS.ForExc
import HandS.EndBits
import HandS.IsInst
import HandS.RaiseMore
import HandS.Defaults
import HandS.HeadHook2
import HandS.Head2
import HandS.ExcInit
import HandS.ExcField
import HandS.CallSlots
import HandS.TryMany
import HandS.ExcIs
import KE.KExcIs
import KE.DataCmp
import HandS.Codes
import PyProof.EqAt
import PyProof.EqKinds
import PyProof.TupleCall
import KE.KeyNested
import KE.KDictWalk
import HandS.Base
import HandS.Call
import HandS.Dict
import HandS.TupAny
import HandS.Walk
import HandS.Style
import HandS.Wide
import HandS.ClsMeth
import HandS.HeadNt
import HandS.OwnIter
import HandS.IterVal
import KE.KDictCopyH
import KE.KDictList
import KE.SortKeyHeap
import HandS.SortKw
import HandS.TupMul
import HandS.TryOnly
import HandS.Head0
import HandS.Head1
set_option Elab.async false
set_option linter.all false
set_option maxRecDepth 100000
set_option maxHeartbeats 4000000
set_option maxHeartbeats 4000000
/-! Sb, part Z: the run of the top by one look at each turn (a lighter twin of the kit's run). -/
namespace Sb
open PySem PySem.W HandSHeadRun

abbrev KZ := SharedT → Thread → Option SharedT
noncomputable def getZ (t : BT) : Nat → Option Obj :=
  BT.rec (motive := fun _ => Nat → Option Obj) (fun _ => none) (fun v _ _ l r i => Bool.rec (Bool.rec (r (Nat.sub (Nat.div i 2) 1)) (l (Nat.div i 2)) (Nat.beq (Nat.mod i 2) 1)) (some v) (Nat.beq i 0)) t
noncomputable def setZ (f : Obj → Obj) (t : BT) : Nat → BT :=
  BT.rec (motive := fun _ => Nat → BT) (fun _ => .nil) (fun v l r hl hr i => Bool.rec (Bool.rec (.node v l (hr (Nat.sub (Nat.div i 2) 1))) (.node v (hl (Nat.div i 2)) r) (Nat.beq (Nat.mod i 2) 1)) (.node (f v) l r) (Nat.beq i 0)) t
noncomputable def insZ (o : Obj) (t : BT) : Nat → BT :=
  BT.rec (motive := fun _ => Nat → BT) (fun _ => .node o .nil .nil) (fun v l r hl hr i => Bool.rec (Bool.rec (.node v l (hr (Nat.sub (Nat.div i 2) 1))) (.node v (hl (Nat.div i 2)) r) (Nat.beq (Nat.mod i 2) 1)) (.node o l r) (Nat.beq i 0)) t
theorem getZ_eq : ∀ (t : BT) (i : Nat), getZ t i = t.get i
  | .nil, _ => rfl
  | .node v l r, i => by
    show Bool.rec (Bool.rec (getZ r _) (getZ l _) (Nat.beq (i % 2) 1)) (some v) (Nat.beq i 0) = BT.get (.node v l r) i
    rw [getZ_eq r, getZ_eq l]
    conv => rhs; unfold BT.get
    cases Nat.beq i 0 <;> cases Nat.beq (i % 2) 1 <;> rfl
theorem setZ_eq (f : Obj → Obj) : ∀ (t : BT) (i : Nat), setZ f t i = t.set i f
  | .nil, _ => rfl
  | .node v l r, i => by
    show Bool.rec (Bool.rec (.node v l (setZ f r _)) (.node v (setZ f l _) r) (Nat.beq (i % 2) 1)) (.node (f v) l r) (Nat.beq i 0) = BT.set (.node v l r) i f
    rw [setZ_eq f r, setZ_eq f l]
    conv => rhs; unfold BT.set
    cases Nat.beq i 0 <;> cases Nat.beq (i % 2) 1 <;> rfl
theorem insZ_eq (o : Obj) : ∀ (t : BT) (i : Nat), insZ o t i = t.ins i o
  | .nil, _ => rfl
  | .node v l r, i => by
    show Bool.rec (Bool.rec (.node v l (insZ o r _)) (.node v (insZ o l _) r) (Nat.beq (i % 2) 1)) (.node o l r) (Nat.beq i 0) = BT.ins (.node v l r) i o
    rw [insZ_eq o r, insZ_eq o l]
    conv => rhs; unfold BT.ins
    cases Nat.beq i 0 <;> cases Nat.beq (i % 2) 1 <;> rfl
noncomputable def zold (st : SharedT → Thread → Option (SharedT × Thread)) (n0 : Nat) (ann : Option Value) (s : SharedT) (t : Thread) (K : KZ) : Option SharedT := match through t with
  | true => some s
  | false => match stepOk n0 ann t with
    | false => none
    | true => match st s t with
      | some (s', t') => frS s' fun s' => K s' t'
      | none => none
noncomputable def zload (s : SharedT) (a : Nat) (k : Obj → Sem PySem.Fin) (c : Code) (p : Pos) (fs : List Frame) (K : KZ) : Option SharedT :=
  Bool.rec none (Option.rec none (fun o => Option.rec none (fun o' => K s ⟨k o', c, p, fs⟩) (alive o)) (getZ s.tree a)) (Nat.blt a s.n)
noncomputable def zalive (s : SharedT) (a : Nat) (k : Option Obj → Sem PySem.Fin) (c : Code) (p : Pos) (fs : List Frame) (K : KZ) : Option SharedT :=
  Bool.rec (K s ⟨k none, c, p, fs⟩) (Option.rec none (fun o => K s ⟨k (alive o), c, p, fs⟩) (getZ s.tree a)) (Nat.blt a s.n)
noncomputable def zupd2 (s : SharedT) (a : Nat) (f : Obj → Obj) (k : Unit → Sem PySem.Fin) (c : Code) (p : Pos) (fs : List Frame) (K : KZ) : Option SharedT :=
  Bool.rec none (Option.rec none (fun o => Option.rec none (fun _ => K ⟨setZ f s.tree a, s.n, s.life, s.gens, s.drawn, s.toks, s.os⟩ ⟨k (), c, p, fs⟩) (alive o)) (getZ s.tree a)) (Nat.blt a s.n)
noncomputable def zupd (n0 : Nat) (ann : Option Value) (s : SharedT) (a : Nat) (f : Obj → Obj) (k : Unit → Sem PySem.Fin) (c : Code) (p : Pos) (fs : List Frame) (K : KZ) : Option SharedT :=
  Bool.rec none (zupd2 s a f k c p fs K) (Nat.ble n0 a || a == mainNs || a == cStatics || ann == some (.ref a))
noncomputable def zalloc (s : SharedT) (o : Obj) (k : Addr → Sem PySem.Fin) (c : Code) (p : Pos) (fs : List Frame) (K : KZ) : Option SharedT :=
  Bool.rec none (frNat (Nat.add s.n 1) fun n' => K ⟨insZ o s.tree s.n, n', s.life, s.gens, s.drawn, s.toks, s.os⟩ ⟨k s.n, c, p, fs⟩) (getZ (insZ o s.tree s.n) s.n).isSome
noncomputable def zfresh (s : SharedT) (k : Tok → Sem PySem.Fin) (c : Code) (p : Pos) (fs : List Frame) (K : KZ) : Option SharedT :=
  frNat (Nat.add s.toks 1) fun t' => K ⟨s.tree, s.n, s.life, s.gens, s.drawn, t', s.os⟩ ⟨k s.toks, c, p, fs⟩
def keptZ (c code : Code) (l : List Value) : List Value := match c, code with
  | .builtin _ a, _ => unmarked a.refs
  | .call f a, .builtin .. | .call f a, .call .. => unmarked (if l.contains borrowed then a.refs else f :: a.refs)
  | _, _ => []
noncomputable def zcall (den : Code → Sem PySem.Fin) (s : SharedT) (c' : Code) (h : Option Value) (g : Bool) (l : List Value) (k : Result → Sem PySem.Fin) (c : Code) (p : Pos) (fs : List Frame) (K : KZ) : Option SharedT :=
  K s ⟨den c', c', p, .ret k h g l c p (keptZ c' c l) :: fs⟩
noncomputable def zdone (n0 : Nat) (s : SharedT) (f : Flow) (c : Code) (p : Pos) (fs : List Frame) (K : KZ) (old : Option SharedT) : Option SharedT :=
  List.rec (some s) (fun fr rest _ => Frame.rec (motive := fun _ => Option SharedT) (fun k _ _ _ c p _ => K s ⟨k (.ok f), c, p, rest⟩) (fun _ _ _ _ _ => old) fr) fs
noncomputable def turnZ (den : Code → Sem PySem.Fin) (pr : Program) (w : World) (st : SharedT → Thread → Option (SharedT × Thread)) (n0 : Nat) (ann : Option Value) (s : SharedT) (t : Thread) (K : KZ) : Option SharedT :=
  Thread.rec (motive := fun _ => Option SharedT) (fun cur c p fs =>
    Sem.rec (motive := fun _ => Option SharedT)
      (pure := fun f => PySem.Fin.rec (motive := fun _ => Option SharedT) (fun f => zdone n0 s f c p fs K (zold st n0 ann s ⟨.pure (.done f), c, p, fs⟩ K)) (fun a => zold st n0 ann s ⟨.pure (.again a), c, p, fs⟩ K) f)
      (raise := fun e => zold st n0 ann s ⟨.raise e, c, p, fs⟩ K)
      (unsupported := fun _ => none)
      (finish := fun _ => none)
      (rule := fun _ k _ => K s ⟨k (), c, p, fs⟩)
      («at» := fun q k _ => K s ⟨k (), c, q, fs⟩)
      (load := fun a _ k _ => zload s a k c p fs K)
      (update := fun a _ f k _ => zupd n0 ann s a f k c p fs K)
      (alloc := fun o k _ => zalloc s o k c p fs K)
      (loadIfAlive := fun a k _ => zalive s a k c p fs K)
      (point := fun _ k _ => K s ⟨k (), c, p, fs⟩)
      (register := fun _ _ _ => none)
      (fresh := fun k _ => zfresh s k c p fs K)
      (ask := fun k _ => K s ⟨k ⟨pr, w.params⟩, c, p, fs⟩)
      (choose := fun a n k _ => zold st n0 ann s ⟨.choose a n k, c, p, fs⟩ K)
      (os := fun _ _ _ _ => none)
      (call := fun c' h g l k _ => zcall den s c' h g l k c p fs K)
      (handled := fun o k _ => zold st n0 ann s ⟨.handled o k, c, p, fs⟩ K)
      (newGen := fun a k _ => zold st n0 ann s ⟨.newGen a k, c, p, fs⟩ K)
      (genState := fun a k _ => zold st n0 ann s ⟨.genState a k, c, p, fs⟩ K)
      (resume := fun a b l k _ => zold st n0 ann s ⟨.resume a b l k, c, p, fs⟩ K)
      (yield := fun a b l k _ => zold st n0 ann s ⟨.yield a b l k, c, p, fs⟩ K)
      (stack := fun k _ => K s ⟨k ((c, p) :: fs.map Frame.where_), c, p, fs⟩)
      (fork := fun _ _ _ => none)
      (thread := fun k _ => K s ⟨k 0, c, p, fs⟩)
      (await := fun _ _ _ _ _ _ => none)
      cur) t
noncomputable def goZ (den : Code → Sem PySem.Fin) (pr : Program) (w : World) (st : SharedT → Thread → Option (SharedT × Thread)) (n0 : Nat) (ann : Option Value) (M : Nat) : KZ :=
  Nat.rec (motive := fun _ => KZ) (fun _ _ => none) (fun _ ih s t => turnZ den pr w st n0 ann s t ih) M

section
variable {den : Code → Sem PySem.Fin} {pr : Program} {w : World} {n0 : Nat} {ann : Option Value}
theorem turnZ_eq (s : SharedT) (t : Thread) (K : KZ) : turnZ den pr w (stepT den pr w) n0 ann s t K = zold (stepT den pr w) n0 ann s t K := by
  obtain ⟨cur, c, p, fs⟩ := t
  obtain ⟨T, n, life, gens, drawn, toks, os⟩ := s
  cases cur with
  | pure f =>
    cases f with
    | done f =>
      cases fs with
      | nil => rfl
      | cons fr rest =>
        cases fr with
        | ret k h g l c' p' kept =>
          show K _ _ = _
          simp [zold, through, stepOk, Thread.calm, Thread.atCollectorCode, Thread.atExit, Thread.yieldsInsideHandler, stepT, step, frS_eq]
        | gen g k l c' p' => rfl
    | again a => rfl
  | raise e => rfl
  | unsupported e => simp [turnZ, zold, through, stepOk, Thread.calm, Thread.atCollectorCode, Thread.atExit, Thread.yieldsInsideHandler, stepT, step, frS_eq]
  | finish e => cases h : leftWithCleanup gens <;> simp [turnZ, zold, through, stepOk, Thread.calm, Thread.atCollectorCode, Thread.atExit, Thread.yieldsInsideHandler, stepT, step, frS_eq, h]
  | rule a k => simp [turnZ, zold, through, stepOk, Thread.calm, Thread.atCollectorCode, Thread.atExit, Thread.yieldsInsideHandler, stepT, step, frS_eq]
  | «at» a k => simp [turnZ, zold, through, stepOk, Thread.calm, Thread.atCollectorCode, Thread.atExit, Thread.yieldsInsideHandler, stepT, step, frS_eq]
  | load a q k =>
    show zload _ a k c p fs K = _
    simp only [zload, getZ_eq]
    simp [zold, through, stepOk, Thread.calm, Thread.atCollectorCode, Thread.atExit, Thread.yieldsInsideHandler, stepT]
    cases Nat.blt a n with
    | false => rfl
    | true =>
      cases T.get a with
      | none => rfl
      | some o => cases h : alive o <;> simp [h, frS_eq]
  | update a q f k =>
    show zupd n0 ann _ a f k c p fs K = _
    simp only [zupd, zupd2, getZ_eq, setZ_eq]
    simp only [zold, through, stepOk, Thread.calm, Thread.atCollectorCode, Thread.atExit, Thread.yieldsInsideHandler, stepT, Bool.and_false, Bool.not_false, Bool.or_false, Bool.true_and, Bool.and_true, Bool.or_true]
    cases (Nat.ble n0 a || a == mainNs || a == cStatics || ann == some (.ref a)) with
    | false => rfl
    | true =>
      cases Nat.blt a n with
      | false => rfl
      | true =>
        cases T.get a with
        | none => rfl
        | some o => cases h : alive o <;> simp [h, frS_eq]
  | alloc o k =>
    show zalloc _ o k c p fs K = _
    simp only [zalloc, getZ_eq, insZ_eq, frNat_eq]
    simp [zold, through, stepOk, Thread.calm, Thread.atCollectorCode, Thread.atExit, Thread.yieldsInsideHandler, stepT]
    cases ((T.ins n o).get n).isSome <;> simp [frS_eq]
  | loadIfAlive a k =>
    show zalive _ a k c p fs K = _
    simp only [zalive, getZ_eq]
    simp [zold, through, stepOk, Thread.calm, Thread.atCollectorCode, Thread.atExit, Thread.yieldsInsideHandler, stepT]
    cases Nat.blt a n with
    | false => simp [frS_eq]
    | true => cases T.get a <;> simp [frS_eq]
  | point a k => simp [turnZ, zold, through, stepOk, Thread.calm, Thread.atCollectorCode, Thread.atExit, Thread.yieldsInsideHandler, stepT, step, frS_eq]
  | register a k => simp [turnZ, zold, through, stepOk, Thread.calm, Thread.atCollectorCode, Thread.atExit, Thread.yieldsInsideHandler, stepT, step, frS_eq]
  | fresh k => simp [turnZ, zfresh, frNat_eq, zold, through, stepOk, Thread.calm, Thread.atCollectorCode, Thread.atExit, Thread.yieldsInsideHandler, stepT, step, frS_eq]
  | ask k => simp [turnZ, zold, through, stepOk, Thread.calm, Thread.atCollectorCode, Thread.atExit, Thread.yieldsInsideHandler, stepT, step, frS_eq]
  | choose a n k => rfl
  | os a l k => simp [turnZ, zold, through, stepOk, Thread.calm, Thread.atCollectorCode, Thread.atExit, Thread.yieldsInsideHandler, stepT, step, frS_eq]
  | call c' h g l k =>
    show zcall den _ c' h g l k c p fs K = _
    simp only [zold, through, stepOk, Thread.calm, Thread.atCollectorCode, Thread.atExit, Thread.yieldsInsideHandler, Bool.and_false, Bool.not_false, Bool.or_false, Bool.true_and, Bool.and_true]
    show _ = (match (some ((⟨T, n, life, gens, drawn, toks, os⟩ : SharedT), (⟨den c', c', p, .ret k h g l c p (keptZ c' c l) :: fs⟩ : Thread))) with
      | some (s', t') => frS s' fun s' => K s' t'
      | none => none)
    simp only [frS_eq, zcall]
  | handled o k => rfl
  | newGen a k => rfl
  | genState a k => rfl
  | resume a b l k => rfl
  | «yield» a b l k => rfl
  | stack k => simp [turnZ, zold, through, stepOk, Thread.calm, Thread.atCollectorCode, Thread.atExit, Thread.yieldsInsideHandler, stepT, step, frS_eq]
  | fork a k => simp [turnZ, zold, through, stepOk, Thread.calm, Thread.atCollectorCode, Thread.atExit, Thread.yieldsInsideHandler, stepT, step, frS_eq]
  | thread k => simp [turnZ, zold, through, stepOk, Thread.calm, Thread.atCollectorCode, Thread.atExit, Thread.yieldsInsideHandler, stepT, step, frS_eq]
  | await a t d l k => simp [turnZ, zold, through, stepOk, Thread.calm, Thread.atCollectorCode, Thread.atExit, Thread.yieldsInsideHandler, stepT, step, frS_eq]
theorem goZ_eq : ∀ (M : Nat) (s : SharedT) (t : Thread), goZ den pr w (stepT den pr w) n0 ann M s t = goF (stepT den pr w) n0 ann M s t
  | 0, _, _ => rfl
  | M + 1, s, t => by
    show turnZ den pr w (stepT den pr w) n0 ann s t (goZ den pr w (stepT den pr w) n0 ann M) = _
    rw [turnZ_eq, funext fun s => funext fun t => goZ_eq M s t]
    rfl
end
noncomputable def endZ (M : Nat) (p : Program) (w : World) (os : OsState) : Option SharedT := match putAll (boot_heap w.params).objs.toList .nil 0 with
  | some (t, n) => frNat n fun n0 => goZ (denQ tabQ) p w (stepQ (denQ tabQ) p w) n0 (bootAnn w) M (bootT w os (t, n0)) (topStub p)
  | none => none
theorem endZ_eq (M : Nat) (p : Program) (w : World) (os : OsState) : endZ M p w os = endF (stepQ (denQ tabQ) p w) M p w os := by
  have e : ∀ (n0 : Nat) (ann : Option Value) (s : SharedT) (t : Thread), goZ (denQ tabQ) p w (stepQ (denQ tabQ) p w) n0 ann M s t = goF (stepQ (denQ tabQ) p w) n0 ann M s t := fun n0 ann s t => by
    rw [← stepQ_eq]
    exact goZ_eq M s t
  unfold endZ endF
  cases putAll (boot_heap w.params).objs.toList .nil 0 with
  | none => rfl
  | some x =>
    obtain ⟨t, n⟩ := x
    dsimp only
    rw [frNat_eq, frNat_eq]
    exact e _ _ _ _
end Sb

namespace Sb
open PySem PySem.Spec PyProof.Rows L2
abbrev Fb := PySem.W.Frag → Bool
def errCls (K : PySem.W.Frag) (C : Addr) : Bool := match K.lookup C with
  | some ⟨.type "type", _, .cls cd, sl⟩ => (match cd.mro, sl.toList with
    | .ref C' :: bm, [_, _, _, _, some (.builtin n), _] => decide (C' = C) && decide (n = "ValueError.__new__") && !cd.hasDel && cd.hasDict && PySem.HandSPX.refsVE bm
    | _, _ => false)
  | _ => false
def errB (K : PySem.W.Frag) (C : Addr) : Bool :=
  errCls K C && decide (PySem.W.findIn K (.ref C) "__setattr__" = some (some (.builtin "object.__setattr__"))) && decide (PySem.W.subIn K (.ref C) (.type "BaseException") = some true) &&
  decide (PySem.W.typeIn K (.ref C) = some (.type "type")) && PySem.W.keepIn K (.ref C) &&
  decide (PySem.W.findIn K (.ref C) "__getattribute__" = some (some (.builtin "BaseException.__getattribute__"))) && decide (PySem.W.findIn K (.ref C) "__getattr__" = some none) && PySem.W.hasDictIn K C &&
  (PySem.W.clsIn K C).isSome && decide (PySem.W.findIn K (.ref C) "__class__" = some (some (.builtin "object.__class__"))) &&
  decide (PySem.W.specialIn K (.builtin "object.__class__") "__get__" = some (some (.builtin "getset_descriptor.__get__"))) && decide (PySem.W.takesIn K (.builtin "object.__class__") = some true) &&
  decide (PySem.W.mroIn K C (.type "object") = some true)
def baseB (K : PySem.W.Frag) (S : Addr) : Bool :=
  decide (PySem.W.specialIn K (.ref S) "__getattribute__" = some (some (.builtin "type.__getattribute__"))) && PySem.W.readsIn K S (.type "type") &&
  (match PySem.W.findCls K (.ref S) (.type "type") "__init__" with | some (.val (.builtin n)) => decide (n = "ValueError.__init__") | _ => false)
def baseAtB (K : PySem.W.Frag) (x : Str) : Bool := He.eqO (PySem.W.nsIn K mainGlobals x) (some (some (.ref (He.ga K x)))) && errB K (He.ga K x) && baseB K (He.ga K x)
def errAtB (K : PySem.W.Frag) (x f : Str) : Bool := He.eqO (PySem.W.nsIn K mainGlobals x) (some (some (.ref (He.ga K x)))) && errB K (He.ga K x) &&
  decide (PySem.W.findIn K (.ref (He.ga K x)) "__init__" = some (some (.ref (He.fAd K (x, some "__init__"))))) && decide (PySem.W.typeIn K (.ref (He.fAd K (x, some "__init__"))) = some (.type "function")) &&
  decide (PySem.W.findIn K (.ref (He.ga K x)) f = some none)
inductive TK where
  | b (n : String) | c (x : Str)
  deriving DecidableEq
def valOf (K : PySem.W.Frag) : TK → Value
  | .b n => .type n
  | .c x => .ref (He.ga K x)
def insB (K : PySem.W.Frag) (x : Str) : Bool :=
  PySem.W.plainGet K (He.ga K x) Str.empty && PySem.W.hasDictIn K (He.ga K x) && PySem.W.plainOver K (He.ga K x) && decide (PySem.W.findIn K (.ref (He.ga K x)) "__setattr__" = some (some (.builtin "object.__setattr__"))) &&
  decide (PySem.W.findIn K (.ref (He.ga K x)) "__class__" = some (some (.builtin "object.__class__"))) && decide (PySem.W.specialIn K (.builtin "object.__class__") "__get__" = some (some (.builtin "getset_descriptor.__get__"))) &&
  decide (PySem.W.takesIn K (.builtin "object.__class__") = some true) && decide (PySem.W.mroIn K (He.ga K x) (.type "object") = some true)
def isiB (K : PySem.W.Frag) (u : Value) (tab : List (TK × Bool)) : Bool := tab.all fun e => decide (PySem.W.kitOne K (valOf K e.1) u = some e.2) && (match e.1 with | .c x => insB K x | _ => true)
def clsB (K : PySem.W.Frag) (x : Str) : Bool := PySem.W.plainGet K (He.ga K x) Str.empty && PySem.W.hasDictIn K (He.ga K x) && PySem.W.plainOver K (He.ga K x) && decide (PySem.W.findIn K (.ref (He.ga K x)) "__setattr__" = some (some (.builtin "object.__setattr__")))
def fldB (K : PySem.W.Frag) (f : Str) (cs : List Str) : Bool := cs.all fun c => clsB K c && decide (PySem.W.findIn K (.ref (He.ga K c)) f = some none)
def methB (K : PySem.W.Frag) (c m : Str) (f : Addr) : Bool := clsB K c && decide (PySem.W.findIn K (.ref (He.ga K c)) m = some (some (.ref f))) && PySem.W.isFn K (.ref f) && PySem.W.keepIn K (.ref f)
def mkB (K : PySem.W.Frag) (c : Str) (f : Addr) : Bool := PySem.W.makesIn K (He.ga K c) && decide (PySem.W.findIn K (.ref (He.ga K c)) "__init__" = some (some (.ref f))) && PySem.W.isFn K (.ref f) && PySem.W.keepIn K (.ref (He.ga K c))
def tupStrB (K : PySem.W.Frag) (a : Addr) (xs : List Str) : Bool := match K.lookup a with
  | some ⟨.type n, _, .seq its _, _⟩ => n == "tuple" && decide (its.size ≤ sizeLine) && decide (its.toList.map absV = xs.map fun x => some (V.str x))
  | _ => false
def lsB (K : PySem.W.Frag) (c : Str) (fi fl : Addr) : Bool := decide (PySem.W.findIn K (.ref (He.ga K c)) "__iter__" = some (some (.ref fi))) && PySem.W.isFn K (.ref fi) && decide (PySem.W.findIn K (.ref (He.ga K c)) "__len__" = some (some (.ref fl))) && decide (PySem.W.typeIn K (.ref fl) = some (.type "function"))
def obsM (fs : List Fb) (fn : List He5.DefA) (K : PySem.W.Frag) : He.AlD := (fs.all (fun f => f K) && fn.all (fun d => d.ok K), fn.map fun d => He5.fnA K (d.at_ K))
def lookM (pick : (Addr → Option Obj) → List Addr) (fs : List Fb) (fn : List He5.DefA) (g : Addr → Option Obj) : He.AlD := obsM fs fn (He.frG g (pick g))
def strAtB (K : PySem.W.Frag) (x v : Str) : Bool := match PySem.W.nsIn K mainGlobals x with
  | some (some (.str y _)) => decide (y = v)
  | _ => false
def gaB (K : PySem.W.Frag) (x : Str) : Bool := He.eqO (PySem.W.nsIn K mainGlobals x) (some (some (.ref (He.ga K x))))
def creadB (K : PySem.W.Frag) (C : Addr) : Bool := PySem.W.readsIn K C (.type "type") && decide (PySem.W.specialIn K (.ref C) "__getattribute__" = some (some (.builtin "type.__getattribute__")))
def cmetB (K : PySem.W.Frag) (C : Addr) (m : Str) : Bool := He5.wrapB K C "classmethod" "classmethod.__get__" m && PySem.W.fnIn K (He5.wf K C "classmethod" m)
def refs1 (g : Addr → Option Obj) (a : Addr) : List Addr := match g a with
  | some o => He.refsD o
  | none => []
def growT (g : Addr → Option Obj) : Nat → Addr → List Addr
  | 0, a => [a]
  | n + 1, a => a :: (refs1 g a).flatMap (growT g n)
def pickT (cs fs : List Str) (n : Nat) (g : Addr → Option Obj) : List Addr :=
  mainGlobals :: cStatics :: ((fs.map (He.ga (He.frG g [mainGlobals]))).flatMap (growT g 1) ++ (cs.map (He.ga (He.frG g [mainGlobals]))).flatMap (growT g n))
def errsFB (K : PySem.W.Frag) (es : List (Str × Str)) : Bool := es.all fun p => errB K (He.ga K p.1) && decide (PySem.W.findIn K (.ref (He.ga K p.1)) p.2 = some none)
def exFB (K : PySem.W.Frag) (c : Value) (tab : List (Str × Bool)) : Bool := tab.all fun p => decide (PySem.W.exmOne K (.ref (He.ga K p.1)) c = some p.2)
def isxFB (K : PySem.W.Frag) (c : Value) (tab : List (Str × Bool)) : Bool := tab.all fun p => decide (PySem.W.kitOne K (.ref (He.ga K p.1)) c = some p.2)
end Sb
namespace Sb
open PySem PySem.Spec PyProof.Rows L2
def vCHARS : Str := "\t\n !\"#$&'()*+,-.\
/0123456789:;<=>\
?@ABCDEFGHIJKLMN\
OPQRSTUVWXYZ[\\]^\
_`abcdefghijklmn\
opqrstuvwxyz{|}~"
def vKINDS : List Str := ["", "none", "false", "true", "integer", "integer", "octets", "text", "list", "map", "tag"]
def tab_int : List (TK × Bool) := [(.b "NoneType", false), (.b "bool", true), (.b "int", true), (.b "str", false), (.b "list", false), (.b "tuple", false), (.b "dict", false), (.c "Tag", false), (.c "Document", false)]
def tab_bool : List (TK × Bool) := [(.b "NoneType", false), (.b "bool", true), (.b "int", false), (.b "str", false), (.b "list", false), (.b "tuple", false), (.b "dict", false), (.c "Tag", false), (.c "Document", false)]
def tab_str : List (TK × Bool) := [(.b "NoneType", false), (.b "bool", false), (.b "int", false), (.b "str", true), (.b "list", false), (.b "tuple", false), (.b "dict", false), (.c "Tag", false), (.c "Document", false)]
def tab_tuple : List (TK × Bool) := [(.b "NoneType", false), (.b "bool", false), (.b "int", false), (.b "str", false), (.b "list", false), (.b "tuple", true), (.b "dict", false), (.c "Tag", false), (.c "Document", false)]
def tab_list : List (TK × Bool) := [(.b "NoneType", false), (.b "bool", false), (.b "int", false), (.b "str", false), (.b "list", true), (.b "tuple", false), (.b "dict", false), (.c "Tag", false), (.c "Document", false)]
def tab_dict : List (TK × Bool) := [(.b "NoneType", false), (.b "bool", false), (.b "int", false), (.b "str", false), (.b "list", false), (.b "tuple", false), (.b "dict", true), (.c "Tag", false), (.c "Document", false)]
def tab_Tag : List (TK × Bool) := [(.b "NoneType", false), (.b "bool", false), (.b "int", false), (.b "str", false), (.b "list", false), (.b "tuple", false), (.b "dict", false), (.c "Tag", true), (.c "Document", false)]
def tab_Document : List (TK × Bool) := [(.b "NoneType", false), (.b "bool", false), (.b "int", false), (.b "str", false), (.b "list", false), (.b "tuple", false), (.b "dict", false), (.c "Tag", false), (.c "Document", true)]
def xerrs : List (Str × Str) := [("BadValue", "path"), ("BadNumber", "number")]
def xtab_BadNumber : List (Str × Bool) := [("BadValue", false), ("BadNumber", true)]
def xtab_BadValue : List (Str × Bool) := [("BadValue", true), ("BadNumber", false)]
def xtab_ShortestBytesError : List (Str × Bool) := [("BadValue", true), ("BadNumber", true)]
def topS (i : Nat) : Stmt := PySem.Challenge.pw_shortestbytes_k09_bad_values.main.body.getD i (.Pass ⟨0, 0, 0, 0⟩)
abbrev s__law_bag : Stmt := topS 122
abbrev s__law_take : Stmt := topS 123
abbrev s__law_of : Stmt := topS 124
abbrev s__law_number : Stmt := topS 125
abbrev s__law_octets : Stmt := topS 126
abbrev s__law_text : Stmt := topS 127
abbrev s__law_integer : Stmt := topS 128
abbrev s_is_integer : Stmt := topS 14
abbrev s_is_number : Stmt := topS 16
abbrev s_is_byte : Stmt := topS 15
abbrev s_base_bytes : Stmt := topS 17
abbrev s_plain_code : Stmt := topS 18
abbrev s_is_text : Stmt := topS 29
abbrev s_is_octets : Stmt := topS 30
abbrev s_is_key : Stmt := topS 31
abbrev s_is_plain : Stmt := topS 32
abbrev s_integer_row : Stmt := topS 33
abbrev s_scalar_row : Stmt := topS 34
abbrev s_key_row : Stmt := topS 35
abbrev s_sorted_keys : Stmt := topS 36
abbrev s_steps_of : Stmt := topS 37
abbrev s_first_bad : Stmt := topS 38
abbrev s_is_value : Stmt := topS 39
abbrev s_encoded : Stmt := topS 40
abbrev s_checked_row : Stmt := topS 41
abbrev s_Tag___init__ : Stmt := inClass (topS 50) 0
abbrev s_Document___init__ : Stmt := inClass (topS 120) 1
abbrev s_Document_of : Stmt := inClass (topS 120) 2
abbrev s__law_bad : Stmt := topS 130
abbrev s__law_pair : Stmt := topS 131
abbrev s__law_round : Stmt := topS 132
abbrev s__law_path : Stmt := topS 133
abbrev s__law_tag_path : Stmt := topS 134
abbrev s_law : Stmt := topS 135
abbrev s_init_BadValue : Stmt := inClass (topS 4) 0
abbrev s_init_BadNumber : Stmt := inClass (topS 3) 0
/-! ### the head -/
def hd_0 : He5.DefA := ⟨fun K => He.ga K "_law_bag", "_law_bag", "_law_bag", defArgs s__law_bag, defBody s__law_bag, defScope s__law_bag, [], []⟩
def hd_1 : He5.DefA := ⟨fun K => He.ga K "_law_take", "_law_take", "_law_take", defArgs s__law_take, defBody s__law_take, defScope s__law_take, [], []⟩
def hd_2 : He5.DefA := ⟨fun K => He.ga K "_law_of", "_law_of", "_law_of", defArgs s__law_of, defBody s__law_of, defScope s__law_of, [], []⟩
def hd_3 : He5.DefA := ⟨fun K => He.ga K "_law_number", "_law_number", "_law_number", defArgs s__law_number, defBody s__law_number, defScope s__law_number, [], []⟩
def hd_4 : He5.DefA := ⟨fun K => He.ga K "_law_octets", "_law_octets", "_law_octets", defArgs s__law_octets, defBody s__law_octets, defScope s__law_octets, [], []⟩
def hd_5 : He5.DefA := ⟨fun K => He.ga K "_law_text", "_law_text", "_law_text", defArgs s__law_text, defBody s__law_text, defScope s__law_text, [], []⟩
def hd_6 : He5.DefA := ⟨fun K => He.ga K "_law_integer", "_law_integer", "_law_integer", defArgs s__law_integer, defBody s__law_integer, defScope s__law_integer, [], []⟩
def hd_7 : He5.DefA := ⟨fun K => He.ga K "is_integer", "is_integer", "is_integer", defArgs s_is_integer, defBody s_is_integer, defScope s_is_integer, [], []⟩
def hd_8 : He5.DefA := ⟨fun K => He.ga K "is_number", "is_number", "is_number", defArgs s_is_number, defBody s_is_number, defScope s_is_number, [], []⟩
def hd_9 : He5.DefA := ⟨fun K => He.ga K "is_byte", "is_byte", "is_byte", defArgs s_is_byte, defBody s_is_byte, defScope s_is_byte, [], []⟩
def hd_10 : He5.DefA := ⟨fun K => He.ga K "base_bytes", "base_bytes", "base_bytes", defArgs s_base_bytes, defBody s_base_bytes, defScope s_base_bytes, [], []⟩
def hd_11 : He5.DefA := ⟨fun K => He.ga K "plain_code", "plain_code", "plain_code", defArgs s_plain_code, defBody s_plain_code, defScope s_plain_code, [], []⟩
def hd_12 : He5.DefA := ⟨fun K => He.ga K "is_text", "is_text", "is_text", defArgs s_is_text, defBody s_is_text, defScope s_is_text, [], []⟩
def hd_13 : He5.DefA := ⟨fun K => He.ga K "is_octets", "is_octets", "is_octets", defArgs s_is_octets, defBody s_is_octets, defScope s_is_octets, [], []⟩
def hd_14 : He5.DefA := ⟨fun K => He.ga K "is_key", "is_key", "is_key", defArgs s_is_key, defBody s_is_key, defScope s_is_key, [], []⟩
def hd_15 : He5.DefA := ⟨fun K => He.ga K "is_plain", "is_plain", "is_plain", defArgs s_is_plain, defBody s_is_plain, defScope s_is_plain, [], []⟩
def hd_16 : He5.DefA := ⟨fun K => He.ga K "integer_row", "integer_row", "integer_row", defArgs s_integer_row, defBody s_integer_row, defScope s_integer_row, [], []⟩
def hd_17 : He5.DefA := ⟨fun K => He.ga K "scalar_row", "scalar_row", "scalar_row", defArgs s_scalar_row, defBody s_scalar_row, defScope s_scalar_row, [], []⟩
def hd_18 : He5.DefA := ⟨fun K => He.ga K "key_row", "key_row", "key_row", defArgs s_key_row, defBody s_key_row, defScope s_key_row, [], []⟩
def hd_19 : He5.DefA := ⟨fun K => He.ga K "sorted_keys", "sorted_keys", "sorted_keys", defArgs s_sorted_keys, defBody s_sorted_keys, defScope s_sorted_keys, [], []⟩
def hd_20 : He5.DefA := ⟨fun K => He.ga K "steps_of", "steps_of", "steps_of", defArgs s_steps_of, defBody s_steps_of, defScope s_steps_of, [], []⟩
def hd_21 : He5.DefA := ⟨fun K => He.ga K "first_bad", "first_bad", "first_bad", defArgs s_first_bad, defBody s_first_bad, defScope s_first_bad, [], []⟩
def hd_22 : He5.DefA := ⟨fun K => He.ga K "is_value", "is_value", "is_value", defArgs s_is_value, defBody s_is_value, defScope s_is_value, [], []⟩
def hd_23 : He5.DefA := ⟨fun K => He.ga K "encoded", "encoded", "encoded", defArgs s_encoded, defBody s_encoded, defScope s_encoded, [], []⟩
def hd_24 : He5.DefA := ⟨fun K => He.ga K "checked_row", "checked_row", "checked_row", defArgs s_checked_row, defBody s_checked_row, defScope s_checked_row, [], []⟩
def hd_25 : He5.DefA := ⟨fun K => He.fAd K ("Tag", some "__init__"), "__init__", "Tag.__init__", defArgs s_Tag___init__, defBody s_Tag___init__, defScope s_Tag___init__, [.non], []⟩
def hd_26 : He5.DefA := ⟨fun K => He.fAd K ("Document", some "__init__"), "__init__", "Document.__init__", defArgs s_Document___init__, defBody s_Document___init__, defScope s_Document___init__, [], []⟩
def hd_27 : He5.DefA := ⟨fun K => He5.wf K (He.ga K "Document") "classmethod" "of", "of", "Document.of", defArgs s_Document_of, defBody s_Document_of, defScope s_Document_of, [], []⟩
def hd_28 : He5.DefA := ⟨fun K => He.ga K "_law_bad", "_law_bad", "_law_bad", defArgs s__law_bad, defBody s__law_bad, defScope s__law_bad, [], []⟩
def hd_29 : He5.DefA := ⟨fun K => He.ga K "_law_pair", "_law_pair", "_law_pair", defArgs s__law_pair, defBody s__law_pair, defScope s__law_pair, [], []⟩
def hd_30 : He5.DefA := ⟨fun K => He.ga K "_law_round", "_law_round", "_law_round", defArgs s__law_round, defBody s__law_round, defScope s__law_round, [], []⟩
def hd_31 : He5.DefA := ⟨fun K => He.ga K "_law_path", "_law_path", "_law_path", defArgs s__law_path, defBody s__law_path, defScope s__law_path, [], []⟩
def hd_32 : He5.DefA := ⟨fun K => He.ga K "_law_tag_path", "_law_tag_path", "_law_tag_path", defArgs s__law_tag_path, defBody s__law_tag_path, defScope s__law_tag_path, [], []⟩
def hd_33 : He5.DefA := ⟨fun K => He.ga K "law", "law", "law", defArgs s_law, defBody s_law, defScope s_law, [], []⟩
def hd_34 : He5.DefA := ⟨fun K => He.fAd K ("BadValue", some "__init__"), "__init__", "BadValue.__init__", defArgs s_init_BadValue, defBody s_init_BadValue, defScope s_init_BadValue, [], []⟩
def hd_35 : He5.DefA := ⟨fun K => He.fAd K ("BadNumber", some "__init__"), "__init__", "BadNumber.__init__", defArgs s_init_BadNumber, defBody s_init_BadNumber, defScope s_init_BadNumber, [], []⟩
def hf_0 : Fb := fun K => gaB K "_law_bag"
def hf_1 : Fb := fun K => gaB K "_law_take"
def hf_2 : Fb := fun K => gaB K "_law_of"
def hf_3 : Fb := fun K => gaB K "_law_number"
def hf_4 : Fb := fun K => gaB K "_law_octets"
def hf_5 : Fb := fun K => gaB K "_law_text"
def hf_6 : Fb := fun K => gaB K "_law_integer"
def hf_7 : Fb := fun K => gaB K "is_integer"
def hf_8 : Fb := fun K => gaB K "is_number"
def hf_9 : Fb := fun K => gaB K "is_byte"
def hf_10 : Fb := fun K => gaB K "base_bytes"
def hf_11 : Fb := fun K => gaB K "plain_code"
def hf_12 : Fb := fun K => gaB K "is_text"
def hf_13 : Fb := fun K => gaB K "is_octets"
def hf_14 : Fb := fun K => gaB K "is_key"
def hf_15 : Fb := fun K => gaB K "is_plain"
def hf_16 : Fb := fun K => gaB K "integer_row"
def hf_17 : Fb := fun K => gaB K "scalar_row"
def hf_18 : Fb := fun K => gaB K "key_row"
def hf_19 : Fb := fun K => gaB K "sorted_keys"
def hf_20 : Fb := fun K => gaB K "steps_of"
def hf_21 : Fb := fun K => gaB K "first_bad"
def hf_22 : Fb := fun K => gaB K "is_value"
def hf_23 : Fb := fun K => gaB K "encoded"
def hf_24 : Fb := fun K => gaB K "checked_row"
def hf_25 : Fb := fun K => mkB K "Tag" (He.fAd K ("Tag", some "__init__"))
def hf_26 : Fb := fun K => mkB K "Document" (He.fAd K ("Document", some "__init__"))
def hf_27 : Fb := fun K => cmetB K (He.ga K "Document") "of"
def hf_28 : Fb := fun K => gaB K "_law_bad"
def hf_29 : Fb := fun K => gaB K "_law_pair"
def hf_30 : Fb := fun K => gaB K "_law_round"
def hf_31 : Fb := fun K => gaB K "_law_path"
def hf_32 : Fb := fun K => gaB K "_law_tag_path"
def hf_33 : Fb := fun K => gaB K "law"
def hf_34 : Fb := fun K => gaB K "BadNumber"
def hf_35 : Fb := fun K => gaB K "BadValue"
def hf_36 : Fb := fun K => gaB K "Document"
def hf_37 : Fb := fun K => gaB K "ShortestBytesError"
def hf_38 : Fb := fun K => gaB K "Tag"
def hf_39 : Fb := fun K => errsFB K xerrs
def hf_40 : Fb := fun K => exFB K (.ref (He.ga K "BadNumber")) xtab_BadNumber
def hf_41 : Fb := fun K => isxFB K (.ref (He.ga K "BadNumber")) xtab_BadNumber
def hf_42 : Fb := fun K => exFB K (.ref (He.ga K "BadValue")) xtab_BadValue
def hf_43 : Fb := fun K => isxFB K (.ref (He.ga K "BadValue")) xtab_BadValue
def hf_44 : Fb := fun K => exFB K (.ref (He.ga K "ShortestBytesError")) xtab_ShortestBytesError
def hf_45 : Fb := fun K => isxFB K (.ref (He.ga K "ShortestBytesError")) xtab_ShortestBytesError
def hf_46 : Fb := fun K => creadB K (He.ga K "Document")
def hf_47 : Fb := fun K => fldB K "content_row" ["Tag"]
def hf_48 : Fb := fun K => fldB K "data" ["Document"]
def hf_49 : Fb := fun K => fldB K "kind" ["Document"]
def hf_50 : Fb := fun K => fldB K "number" ["Tag"]
def hf_51 : Fb := fun K => (He.Fa.free "abs").ok K
def hf_52 : Fb := fun K => (He.Fa.free "all").ok K
def hf_53 : Fb := fun K => (He.Fa.free "bool").ok K
def hf_54 : Fb := fun K => (He.Fa.free "dict").ok K
def hf_55 : Fb := fun K => (He.Fa.free "enumerate").ok K
def hf_56 : Fb := fun K => (He.Fa.free "int").ok K
def hf_57 : Fb := fun K => (He.Fa.free "isinstance").ok K
def hf_58 : Fb := fun K => (He.Fa.free "len").ok K
def hf_59 : Fb := fun K => (He.Fa.free "list").ok K
def hf_60 : Fb := fun K => (He.Fa.free "max").ok K
def hf_61 : Fb := fun K => (He.Fa.free "ord").ok K
def hf_62 : Fb := fun K => (He.Fa.free "range").ok K
def hf_63 : Fb := fun K => (He.Fa.free "repr").ok K
def hf_64 : Fb := fun K => (He.Fa.free "sorted").ok K
def hf_65 : Fb := fun K => (He.Fa.free "str").ok K
def hf_66 : Fb := fun K => (He.Fa.free "tuple").ok K
def hf_67 : Fb := fun K => baseAtB K "ShortestBytesError"
def hf_68 : Fb := fun K => errAtB K "BadValue" "path"
def hf_69 : Fb := fun K => errAtB K "BadNumber" "number"
def hf_70 : Fb := fun K => isiB K (.type "int") tab_int
def hf_71 : Fb := fun K => isiB K (.type "bool") tab_bool
def hf_72 : Fb := fun K => isiB K (.type "str") tab_str
def hf_73 : Fb := fun K => isiB K (.type "tuple") tab_tuple
def hf_74 : Fb := fun K => isiB K (.type "list") tab_list
def hf_75 : Fb := fun K => isiB K (.type "dict") tab_dict
def hf_76 : Fb := fun K => isiB K (.ref (He.ga K "Tag")) tab_Tag
def hf_77 : Fb := fun K => isiB K (.ref (He.ga K "Document")) tab_Document
def hf_78 : Fb := fun K => (He.Fa.int "MOST" (256 ^ 63 - 1)).ok K
def hf_79 : Fb := fun K => (He.Fa.int "LIMIT" (256 ^ 63)).ok K
def hf_80 : Fb := fun K => (He.Fa.int "DEEPEST" 24).ok K
def hf_81 : Fb := fun K => strAtB K "CHARS" vCHARS
def hf_82 : Fb := fun K => gaB K "KINDS" && tupStrB K (He.ga K "KINDS") vKINDS
def hfn0 : List He5.DefA := ([hd_0, hd_1, hd_2, hd_3, hd_4, hd_5, hd_6, hd_7, hd_8, hd_9, hd_10, hd_11, hd_12, hd_13, hd_14, hd_15, hd_16, hd_17] : List He5.DefA)
def hfa0 : List Fb := ([hf_0, hf_1, hf_2, hf_3, hf_4, hf_5, hf_6, hf_7, hf_8, hf_9, hf_10, hf_11, hf_12, hf_13, hf_14, hf_15, hf_16, hf_17, hf_18, hf_19] : List Fb) ++ ([hf_20, hf_21, hf_22, hf_23, hf_24, hf_25, hf_26, hf_27, hf_28, hf_29, hf_30, hf_31, hf_32, hf_33, hf_34, hf_35, hf_36, hf_37, hf_38, hf_39] : List Fb) ++ ([hf_40] : List Fb)
def hfn1 : List He5.DefA := ([hd_18, hd_19, hd_20, hd_21, hd_22, hd_23, hd_24, hd_25, hd_26, hd_27, hd_28, hd_29, hd_30, hd_31, hd_32, hd_33, hd_34, hd_35] : List He5.DefA)
def hfa1 : List Fb := ([hf_41, hf_42, hf_43, hf_44, hf_45, hf_46, hf_47, hf_48, hf_49, hf_50, hf_51, hf_52, hf_53, hf_54, hf_55, hf_56, hf_57, hf_58, hf_59, hf_60] : List Fb) ++ ([hf_61, hf_62, hf_63, hf_64, hf_65, hf_66, hf_67, hf_68, hf_69, hf_70, hf_71, hf_72, hf_73, hf_74, hf_75, hf_76, hf_77, hf_78, hf_79, hf_80] : List Fb) ++ ([hf_81, hf_82] : List Fb)
def hfn : List He5.DefA := hfn0 ++ hfn1
def hfa : List Fb := hfa0 ++ hfa1
def hnames : List Str := (["_law_bag", "_law_take", "_law_of", "_law_number", "_law_octets", "_law_text", "_law_integer", "is_integer", "is_number", "is_byte", "base_bytes", "plain_code", "is_text", "is_octets", "is_key", "is_plain", "integer_row", "scalar_row", "key_row", "sorted_keys", "steps_of", "first_bad", "is_value", "encoded", "checked_row", "_law_bad", "_law_pair", "_law_round", "_law_path", "_law_tag_path"] : List Str) ++ (["law", "KINDS"] : List Str)
def hcls : List Str := (["Document", "Tag", "BadValue", "BadNumber", "ShortestBytesError"] : List Str)
abbrev hR : PySem.W.OpenRow := PySem.W.OpenLaw.row PySem.Challenge.rw_shortestbytes_k09_bad_values
abbrev hpick : (Addr → Option Obj) → List Addr := pickT hcls hnames 4
def hloose : List Str := (["_wall", "ShortestBytesError", "BadNumber", "BadValue", "WrongByte", "Unfinished", "BadShape", "UnknownName", "Circular", "Ambiguous", "Barren", "MOST", "is_integer", "is_byte", "is_number", "base_bytes", "plain_code", "code_size", "code_bounds", "code_number", "least_number", "DEEPEST", "KINDS", "LIMIT", "CHARS", "char_of", "is_text", "is_octets", "is_key", "is_plain"] : List Str) ++ (["integer_row", "scalar_row", "key_row", "sorted_keys", "steps_of", "first_bad", "is_value", "encoded", "checked_row", "head_at", "scalar_at", "parts_of", "item_end", "row_depth", "value_at", "digits_of", "decoded", "Tag", "ALL_KEYS", "LEAST_INTEGER_ROW", "GREATEST_INTEGER_ROW", "OCTETS_END", "TEXTS_END", "range_low", "range_high", "powers", "base_of", "range_size", "keys_size", "char_code"] : List Str) ++ (["content_row", "row_from_top", "top_row", "next_integer_row", "next_content_row", "row_behind", "kind_bounds", "bounds_of", "KIND_WORDS", "is_bound", "check_bounds", "end_of_bounds", "is_name", "is_shape_table", "key_ranges", "Shape", "alternatives_of", "FAR", "inner_shapes", "mentioned", "direct_names", "height", "word_of", "lead_of", "Schema", "is_scalar_key", "is_in_ranges", "general_schema", "schema_or_general", "CHAR_RANGES"] : List Str) ++ (["joined_ranges", "cut_ranges", "Walker", "Span", "Among", "SCALAR_WORDS", "RANGE_WORDS", "FIRST_CODE", "LAST_CODE", "Frame", "open_entries", "record_choices", "map_ranges", "key_bounds", "scalar_bounds", "scalar_walker", "count_bounds", "kinds_of", "Machine", "take_all", "checked_document", "Document", "_law_bag", "_law_take", "_law_of", "_law_number", "_law_octets", "_law_text", "_law_integer", "_law_key"] : List Str) ++ (["_law_bad", "_law_pair", "_law_round", "_law_path", "_law_tag_path"] : List Str)
section
open PySem.W HandSHeadRun
noncomputable abbrev hend (w : World) (os : OsState) := endZ 20000 hR.prog w os
abbrev hq : Program := view hR.prog [135]
abbrev hw (w : World) (b : Bool) : World := w.withFollow "special-get-raises" b
theorem hlF (w : World) (os : OsState) : (hend (hw w false) os).map (fun s => looksF hR.prog (boot_heap (hw w false).params) s.abs) = some true := by kernel_rfl
theorem hsF (w : World) (os : OsState) : (hend (hw w false) os).map (fun s => seenQ hq hloose (importedModules hR.prog.main.body) (fun s => xlAt hq [] s && recOk hR.toRowW.records s) s.abs) = some (openGood hq hloose) := by kernel_rfl
theorem hc0F (w : World) (os : OsState) : (hend (hw w false) os).map (fun s => lookM hpick hfa0 hfn0 (getT s)) = some (He5.valA hfn0) := by kernel_rfl
theorem hc1F (w : World) (os : OsState) : (hend (hw w false) os).map (fun s => lookM hpick hfa1 hfn1 (getT s)) = some (He5.valA hfn1) := by kernel_rfl
theorem hlT (w : World) (os : OsState) : (hend (hw w true) os).map (fun s => looksF hR.prog (boot_heap (hw w true).params) s.abs) = some true := by kernel_rfl
theorem hsT (w : World) (os : OsState) : (hend (hw w true) os).map (fun s => seenQ hq hloose (importedModules hR.prog.main.body) (fun s => xlAt hq [] s && recOk hR.toRowW.records s) s.abs) = some (openGood hq hloose) := by kernel_rfl
theorem hc0T (w : World) (os : OsState) : (hend (hw w true) os).map (fun s => lookM hpick hfa0 hfn0 (getT s)) = some (He5.valA hfn0) := by kernel_rfl
theorem hc1T (w : World) (os : OsState) : (hend (hw w true) os).map (fun s => lookM hpick hfa1 hfn1 (getT s)) = some (He5.valA hfn1) := by kernel_rfl
end
end Sb
/-! Sb, part G: contracts of defs that may call repr (they are called while no repr is under way); repr of data; the end of a law over such contracts. -/
namespace Sb
open PySem PySem.Spec PyProof.Rows L2

/-- no repr is under way -/
abbrev Still (A : Around) : Prop := A.guards = some []

section
variable {P : Program} {w : World} {K : PySem.W.Frag} {mg : Str → Option Value} {base : Heap} {CX : CXT} {f : Addr} {fd : FuncData} {ps : List Str} {sp : Sp}

/-- one call of a def of the text, from what its body does in this very surrounding -/
theorem entered {A : Around} {k : Nat} {outer : List Env} {s : Shared} {H : Hp} {args : Args} {us : List Value} {vs : List V} {Q : VK} {E : XK}
    {nm qn : Str} {pars : Arguments} {bd : List Stmt} {sco : Scope} {dV kV dc pm cv ct oc : Value} {an od : Option Addr} {sl : Array (Option Value)} {N : List Str} {t : TS}
    (at_ : K.lookup f = some ⟨oc, od, .func (PySem.W.fnOf nm qn pars bd sco dV kV dc pm an cv ct), sl⟩)
    (cod : PySem.W.codeIn K cv qn = true) (S : FnScope N ps sco) (n : vs.length = ps.length) (room : Room (k + 1) A)
    (env : Env0 P w K mg base A outer s H) (bnd : BindsTo s (PySem.W.fnOf nm qn pars bd sco dV kV dc pm an cv ct) args (ps.zip us)) (rv : Vals vs us)
    (walk : PSs (cxOf CX P w K mg base N qn sco f cv A outer s H E) bd t)
    (read : t { nx := fun _ H' => Q .non H', rt := Q } (start N vs) H) :
    codeAny (model P w) A (.call (.ref f) args) -- what the call does
      (CR CX outer P w H s Q E) s := by
  have old : ∀ b o, base.get? b = some o → s.heap.get? b = some o := fun b o e => (env.bs b o e).1
  have kin := env.mod.kin.keeps old
  have slotOk : ∀ y ∈ ps.zip us, sco.names.lookup y.1 = some .local ∨
      (sco.names.lookup y.1 = some .cell ∧ ((cellsFrom (s.heap.objs.size + 1) sco.names []).lookup y.1).isSome = true) := by
    rintro ⟨x, v⟩ m
    exact (S.par x (List.of_mem_zip m).1).imp id fun c => ⟨c, PySem.W.cellsFrom_some _ _ _ (.inl c)⟩
  apply codeAny_call_function room.depth (kin _ _ at_) rfl S.co S.gen rfl (PySem.W.codeRec_of kin cod)
  apply bnd
  apply wpAny_newFunctionEnv_cells S.kind slotOk
  rintro _ rfl s1 x
  refine ⟨(env.mod.nolimit.keeps old).keeps x.toInCall.keep, codeAny_func ?_⟩
  refine wpAny_mono (walk.run [] s1 (start N vs) H _ (inv_start S room.hd env n rv x) read) ?_ fun _ _ z => z
  intro fl s' z
  match fl, z with
  | .ret u, ⟨v, _, H', J, r, q⟩ => exact ⟨v, H', J.os, J.bare, J.base, J.hok, r, q⟩
  | .next, ⟨_, H', J, q⟩ => exact ⟨.non, H', J.os, J.bare, J.base, J.hok, rfl, q⟩
  | .brk, ⟨_, _, _, q⟩ => exact q.elim
  | .cont, ⟨_, _, _, q⟩ => exact q.elim

/-- the contract of a def that is called while no repr is under way -/
structure FnG (P : Program) (w : World) (K : PySem.W.Frag) (mg : Str → Option Value) (base : Heap) (CX : CXT) (k : Nat) (f : Addr) (fd : FuncData) (ps : List Str) (sp : Sp) : Prop where
  many : ∀ vs H Q E, sp vs H Q E → vs.length = ps.length
  does : ∀ (A : Around) (outer : List Env) (s : Shared) (H : Hp) (args : Args) (us : List Value) (vs : List V) (Q : VK) (E : XK),
    Still A → Room k A → Env0 P w K mg base A outer s H → BindsTo s fd args (ps.zip us) → Vals vs us → sp vs H Q E →
      codeAny (model P w) A (.call (.ref f) args)
        (CR CX outer P w H s Q E) s
theorem FnG.of {k : Nat} (F : FnOk P w K mg base CX k f fd ps sp) : FnG P w K mg base CX k f fd ps sp :=
  ⟨F.len, fun A o s H as us vs Q E _ => F.run A o s H as us vs Q E⟩
theorem FnG.up {j k : Nat} (F : FnG P w K mg base CX j f fd ps sp) (h : j ≤ k) : FnG P w K mg base CX k f fd ps sp :=
  ⟨F.many, fun A o s H as us vs Q E g r => F.does A o s H as us vs Q E g (r.mono h)⟩
theorem FnG.weak {k : Nat} {sp' : Sp} (F : FnG P w K mg base CX k f fd ps sp) (h : ∀ vs H Q E, sp' vs H Q E → sp vs H Q E) : FnG P w K mg base CX k f fd ps sp' :=
  ⟨fun vs H Q E q => F.many vs H Q E (h _ _ _ _ q), fun A o s H as us vs Q E g r e b v q => F.does A o s H as us vs Q E g r e b v (h _ _ _ _ q)⟩

/-- a def that lets no exception out -/
theorem okG {x qn : Str} {pars : Arguments} {bd : List Stmt} {sco : Scope} {dvs : List V} {kws : List (Str × V)} {N : List Str} {k : Nat} (F : FunD K x qn pars bd sco dvs kws f fd) (S : FnScope N ps sco) (many : ∀ vs H Q E, sp vs H Q E → vs.length = ps.length)
    (does : ∀ (cv : Value) (A : Around) (outer : List Env) (s : Shared) (H : Hp) (vs : List V) (Q : VK) (E : XK), Still A → Room k (A.deeper (envOfC qn sco s.heap.objs.size f cv)) → sp vs H Q E →
      ∃ t, PSs (cxOf CX0 P w K mg base N qn sco f cv A outer s H E).nox bd t ∧ t { nx := fun _ H' => Q .non H', rt := Q } (start N vs) H) :
    FnG P w K mg base CX0 (k + 1) f fd ps sp := by
  obtain ⟨_, _, _, _, _, _, _, cv, _, _, rfl, at_, cod, _, _⟩ := F.ex
  refine ⟨many, fun A outer s H args us vs Q E g room env bnd rv h => ?_⟩
  obtain ⟨t, ht, q⟩ := does cv A outer s H vs Q E g (room.deeper _) h
  exact entered at_ cod S (many _ _ _ _ h) room env bnd rv ht.nox q
/-- a def that may raise -/
theorem okXG {x qn : Str} {pars : Arguments} {bd : List Stmt} {sco : Scope} {dvs : List V} {kws : List (Str × V)} {N : List Str} {k : Nat} (F : FunD K x qn pars bd sco dvs kws f fd) (S : FnScope N ps sco) (many : ∀ vs H Q E, sp vs H Q E → vs.length = ps.length)
    (does : ∀ (cv : Value) (A : Around) (outer : List Env) (s : Shared) (H : Hp) (vs : List V) (Q : VK) (E : XK), Still A → Room k (A.deeper (envOfC qn sco s.heap.objs.size f cv)) → sp vs H Q E →
      ∃ t, PSs (cxOf (L2.CX P w) P w K mg base N qn sco f cv A outer s H E) bd t ∧ t { nx := fun _ H' => Q .non H', rt := Q } (start N vs) H) :
    FnG P w K mg base (L2.CX P w) (k + 1) f fd ps sp := by
  obtain ⟨_, _, _, _, _, _, _, cv, _, _, rfl, at_, cod, _, _⟩ := F.ex
  refine ⟨many, fun A outer s H args us vs Q E g room env bnd rv h => ?_⟩
  obtain ⟨t, ht, q⟩ := does cv A outer s H vs Q E g (room.deeper _) h
  exact entered at_ cod S (many _ _ _ _ h) room env bnd rv ht q
end

section
variable {X : Cx} {CX : CXT} {k : Nat} {f : Addr} {fd : FuncData} {ps : List Str} {sp : Sp} {dvs : List V} {ds : List Value} {E : XK}
/-- such a def is called -/
theorem called {pins : List (Addr × Obj)} {σ : L2.St} {H : Hp} {s : Shared} {Q : VK} {us : List Value} {vs : List V} (F : FnG X.prog X.w X.K X.mg X.base CX k f fd ps sp) (g : Still X.A) (room : Room k X.A)
    (bnd : Binds X.K fd ps ds) (dv : Vals dvs ds) (px : Passes CX X E) (I : Inv X pins σ H s) (rv : Vals vs us) (h : sp (vs ++ dvs) H Q E) :
    wpAny (model X.prog X.w) X.A (call (.ref f) us)
      (EP X pins σ Q) X.xe s := by
  have all := rv.append dv
  have n : (us ++ ds).length = ps.length := all.length.symm.trans (F.many _ _ _ _ h)
  refine wpAny_call (codeAny_mono (F.does X.A X.stack s H ⟨us, []⟩ _ _ Q E g room I.env0 (bnd s us I.kIn n) all h) ?_)
  intro r s' z
  match r, z with
  | .error e, z => exact px pins σ H s e s' I z
  | .ok (.ret u), z => exact I.after z
  | .ok .next, z => exact z.elim
  | .ok .brk, z => exact z.elim
  | .ok .cont, z => exact z.elim
theorem pe_callG {x : Str} {p pos : Pos} {e : Expr} {es : List Expr} {t : TA} (F : FnG X.prog X.w X.K X.mg X.base CX k f fd ps sp) (g : Still X.A) (room : Room k X.A) (gl : Gl X x) (isf : X.mg x = some (.ref f))
    (kp : PySem.W.keepIn X.K (.ref f) = true) (bnd : Binds X.K fd ps ds) (dv : Vals dvs ds) (px : Passes CX X E) (as : PA X (e :: es) t)
    (nd : (x == ("__debug__" : Str)) = false := by decide) (st : starEach (e :: es) X.env = (false, eval e X.env) :: starEach es X.env := by rfl) (pl : (backTo pos (starEach es X.env)).any (·.1) = false := by rfl) :
    PE X (.Call (.Name x p) (e :: es) [] pos) (tCall sp dvs E t) :=
  ⟨fun pins s σ H Q I h => wpAny_Call_Name_kw (ld_glob I gl isf (PySem.W.callWith_K (h₀ := X.base) I.ok.mod.kin kp
    (thn (as.run pos pins s σ H _ I h) fun _ _ ⟨_, _, J, r, q⟩ => ⟨J.kIn, called F g room bnd dv px J r q⟩) st pl) nd)⟩
end

/-! ### a def by its name -/
/-- what the head says of a def of the module: its name and its object; dvs: its defaults -/
structure DefAt (K : PySem.W.Frag) (mg : Str → Option Value) (x : Str) (st : Stmt) (dvs : List V) : Prop where
  g : mg x = some (.ref (He.ga K x))
  F : ∃ fd, FunD K x x (defArgs st) (defBody st) (defScope st) dvs [] (He.ga K x) fd
/-- the module's name x is a def with this contract; the last dvs of its parameters are filled by defaults -/
def Has (P : Program) (w : World) (K : PySem.W.Frag) (mg : Str → Option Value) (base : Heap) (CX : CXT) (k : Nat) (x : Str) (ps : List Str) (dvs : List V) (sp : Sp) : Prop :=
  ∃ (f : Addr) (fd : FuncData) (ds : List Value), FnG P w K mg base CX k f fd ps sp ∧ mg x = some (.ref f) ∧ PySem.W.keepIn K (.ref f) = true ∧ Binds K fd ps ds ∧ Vals dvs ds
section
variable {P : Program} {w : World} {K : PySem.W.Frag} {mg : Str → Option Value} {base : Heap} {k : Nat} {x : Str} {st : Stmt} {ps N : List Str} {sp : Sp}
theorem Has.up {j : Nat} {CX : CXT} {dvs : List V} (h : Has P w K mg base CX j x ps dvs sp) (le : j ≤ k) : Has P w K mg base CX k x ps dvs sp := by
  obtain ⟨f, fd, ds, F, r⟩ := h
  exact ⟨f, fd, ds, F.up le, r⟩
theorem Has.weak {CX : CXT} {dvs : List V} {sp' : Sp} (h : Has P w K mg base CX k x ps dvs sp) (le : ∀ vs H Q E, sp' vs H Q E → sp vs H Q E) : Has P w K mg base CX k x ps dvs sp' := by
  obtain ⟨f, fd, ds, F, r⟩ := h
  exact ⟨f, fd, ds, F.weak le, r⟩
/-- a def without defaults that lets no exception out -/
theorem has0 (D : DefAt K mg x st []) (S : FnScope N ps (defScope st))
    (bnd : ∀ (kV doc pm : Value) (an : Option Addr) (cdv ct : Value) (us : List Value), us.length = ps.length →
      bindArgs (PySem.W.fnOf x x (defArgs st) (defBody st) (defScope st) .none kV doc pm an cdv ct) ⟨us, []⟩ = pure (ps.zip us))
    (many : ∀ vs H Q E, sp vs H Q E → vs.length = ps.length)
    (does : ∀ (cv : Value) (A : Around) (outer : List Env) (s : Shared) (H : Hp) (vs : List V) (Q : VK) (E : XK), Still A → Room k (A.deeper (envOfC x (defScope st) s.heap.objs.size (He.ga K x) cv)) → sp vs H Q E →
      ∃ t, PSs (cxOf CX0 P w K mg base N x (defScope st) (He.ga K x) cv A outer s H E).nox (defBody st) t ∧ t { nx := fun _ H' => Q .non H', rt := Q } (start N vs) H) :
    Has P w K mg base CX0 (k + 1) x ps [] sp := by
  obtain ⟨fd, F⟩ := D.F
  exact ⟨_, fd, [], okG F S many does, D.g, F.kp, F.bindsN bnd, .nil⟩
/-- the same of a def that may raise -/
theorem hasX (D : DefAt K mg x st []) (S : FnScope N ps (defScope st))
    (bnd : ∀ (kV doc pm : Value) (an : Option Addr) (cdv ct : Value) (us : List Value), us.length = ps.length →
      bindArgs (PySem.W.fnOf x x (defArgs st) (defBody st) (defScope st) .none kV doc pm an cdv ct) ⟨us, []⟩ = pure (ps.zip us))
    (many : ∀ vs H Q E, sp vs H Q E → vs.length = ps.length)
    (does : ∀ (cv : Value) (A : Around) (outer : List Env) (s : Shared) (H : Hp) (vs : List V) (Q : VK) (E : XK), Still A → Room k (A.deeper (envOfC x (defScope st) s.heap.objs.size (He.ga K x) cv)) → sp vs H Q E →
      ∃ t, PSs (cxOf (L2.CX P w) P w K mg base N x (defScope st) (He.ga K x) cv A outer s H E) (defBody st) t ∧ t { nx := fun _ H' => Q .non H', rt := Q } (start N vs) H) :
    Has P w K mg base (L2.CX P w) (k + 1) x ps [] sp := by
  obtain ⟨fd, F⟩ := D.F
  exact ⟨_, fd, [], okXG F S many does, D.g, F.kp, F.bindsN bnd, .nil⟩
end
section
variable {X : Cx} {CX : CXT} {k : Nat} {ps : List Str} {sp : Sp} {dvs : List V} {E : XK} {x : Str} {p pos : Pos} {e : Expr} {es : List Expr} {t : TA}
/-- f(e, ..); px: where what it raises goes -/
theorem pe_fnX (C : Has X.prog X.w X.K X.mg X.base CX k x ps dvs sp) (px : Passes CX X E) (g : Still X.A) (room : Room k X.A) (gl : Gl X x) (as : PA X (e :: es) t)
    (nd : (x == ("__debug__" : Str)) = false := by decide) (st : starEach (e :: es) X.env = (false, eval e X.env) :: starEach es X.env := by rfl) (pl : (backTo pos (starEach es X.env)).any (·.1) = false := by rfl) :
    PE X (.Call (.Name x p) (e :: es) [] pos) (tCall sp dvs E t) := by
  obtain ⟨f, fd, ds, F, isf, kp, bnd, dv⟩ := C
  exact pe_callG F g room gl isf kp bnd dv px as nd st pl
/-- f(e, ..) of a def that lets no exception out -/
theorem pe_fn (C : Has X.prog X.w X.K X.mg X.base CX0 k x ps dvs sp) (g : Still X.A) (room : Room k X.A) (gl : Gl X x) (as : PA X (e :: es) t)
    (nd : (x == ("__debug__" : Str)) = false := by decide) (st : starEach (e :: es) X.env = (false, eval e X.env) :: starEach es X.env := by rfl) (pl : (backTo pos (starEach es X.env)).any (·.1) = false := by rfl) :
    PE X (.Call (.Name x p) (e :: es) [] pos) (tCall sp dvs E0 t) := pe_fnX C pass0 g room gl as nd st pl
end

/-! ### repr of data -/
/-- repr(x): x data of at most 100 levels without dicts -/
structure Shows (K : PySem.W.Frag) (H : Hp) (x : V) (d : PyData) : Prop where
  dp : Dp K H x d
  ok : d.showable = true
  nd : d.hasDict = false
  deep : d.depth ≤ 100
  size : d.shown.length ≤ sizeLine
def rRepr (K : PySem.W.Frag) : List V → Hp → VK → Prop := fun xs H Q => ∃ (x : V) (d : PyData), xs = [x] ∧ Shows K H x d ∧ Q (.str d.shown) H
theorem rep_of {A : Around} {k : Nat} (r : Room k A) : A.units + 102 < cLine := by
  have := r.un
  omega
theorem call_repr {X : Cx} (g : Still X.A) (room : X.A.units + 102 < cLine) : CallR X (.builtin "repr") (rRepr X.K) := by
  intro pins s σ H _ us Q I r h
  obtain ⟨x, d, rfl, ⟨hd, hs, hn, hk, hz⟩, q⟩ := h
  obtain ⟨u, rfl, r1⟩ := vals1 r
  obtain ⟨as, rd⟩ := Dp.reads I d x u hd r1
  have fin : ∀ h' u tk, (∀ b o, s.heap.get? b = some o → h'.get? b = some o) → EP X pins σ Q (.str d.shown u) { s with heap := h', toks := tk } :=
    fun h' u tk more => ⟨.str d.shown, H, I.kept more, ⟨_, rfl⟩, q⟩
  have no : d.hasDict = true → sysModules ∉ as := fun z => nomatch hn.symm.trans z
  have same : ∀ (u : Tok) (tk : Nat), EP X pins σ Q (.str d.shown u) { s with toks := tk } := fun u tk => fin s.heap u tk fun _ _ e => e
  cases rd with
  | none => exact PySem.P.repr_of_none (same _ _)
  | bool b => exact PySem.P.repr_of_bool (same _ _)
  | int i t => exact PySem.P.repr_of_int (by simpa [PyData.showable] using hs) (same _ _)
  | str z t => exact PySem.P.repr_of_str (same _ _) hz
  | list h1 h2 h3 h4 => exact repr_of_reads' (.list h1 h2 h3 h4) hs no g (by omega) (fun _ _ e => e) fin hz
  | tuple h1 h2 h3 h4 => exact repr_of_reads' (.tuple h1 h2 h3 h4) hs no g (by omega) (fun _ _ e => e) fin hz
  | dict h1 h2 h3 h4 h5 => exact repr_of_reads' (.dict h1 h2 h3 h4 h5) hs no g (by omega) (fun _ _ e => e) fin hz

/-! ### the end of a law: the bits of the script are told -/
section
variable {P : Program} {w : World} {K : PySem.W.Frag} {mg mb : Str → Option Value} {s : Shared} {a : Addr} {vs : List Value} {ns : List Int}
abbrev scriptObj (vs : List Value) : Obj := { cls := .type "list", data := .seq vs.toArray }
/-- the surroundings of the law's call, where at most the script is tracked -/
theorem top_env {H : Hp} (kin : K.In s.heap) (gl : s.heap.Ns mainGlobals mg) (bl : s.heap.Ns builtinsNs mb) (std : ∀ x : Str, x ≠ "__name__" → mb x = bootBuiltins x) (lim : s.heap.NoLimit) (gens : s.gens = #[])
    (is : s.heap.get? a = some (scriptObj vs)) (only : ∀ b, H b ≠ none → b = a) (off : H a ≠ none → K.lookup a = none) (ok : HOk P w H s.heap) :
    K.In (hidT s.heap H) ∧ (hidT s.heap H).Ns mainGlobals mg ∧ Env0 P w K mg (hidT s.heap H) callerA [] s H := by
  have free : ∀ {b : Addr}, b ≠ a → H b = none := fun {b} ne => Classical.byContradiction fun z => ne (only b z)
  have sub : ∀ {b : Addr} {m : Str → Option Value}, s.heap.Ns b m → (hidT s.heap H).Ns b m := by
    rintro b m ⟨o, es, ep, e, d, r⟩
    refine ⟨o, es, ep, hidT_get e (free fun z => ?_), d, r⟩
    rw [z, is] at e
    cases e
    cases d
  have kin' : K.In (hidT s.heap H) := fun b o e => hidT_get (kin b o e) (Classical.byContradiction fun z => by
    have q := only b z
    subst q
    exact nomatch (off z).symm.trans e)
  obtain ⟨mc, h1, h2⟩ := lim
  refine ⟨kin', sub gl, ⟨rfl, ⟨kin', sub gl, ⟨mb, sub bl, std⟩, ⟨mc, sub h1, h2⟩⟩, fun _ _ e => of_hidT e, Nat.le_of_eq (hidT_size _ _), trivial, fun _ m => (nomatch m), ok, .of_eq gens⟩⟩
theorem law_callG {CX : CXT} {k : Nat} {fa : Addr} {x nm : Str} {sp : Sp}
    (kin : K.In s.heap) (gl : s.heap.Ns mainGlobals mg) (bl : s.heap.Ns builtinsNs mb) (std : ∀ x : Str, x ≠ "__name__" → mb x = bootBuiltins x) (lim : s.heap.NoLimit) (gens : s.gens = #[])
    (is : s.heap.get? a = some (scriptObj vs)) (hi : IntsAre vs ns) (hl : ns.length ≤ sizeLine) (room : Room k callerA)
    (F : ∀ base : Heap, K.In base → base.Ns mainGlobals mg → Has P w K mg base CX k nm [x] [] sp) (isf : mg nm = some (.ref fa))
    (want : ∀ H : Hp, Only H → SqL K H a (ns.map V.int) → sp [.ref a] H (fun v _ => v = .bl true) fun _ _ _ => False)
    (noX : ∀ H e s', CX [] H s (fun _ _ _ => False) e s' → False) :
    codeAny (model P w) callerA (.call (.ref fa) ⟨[.ref a], []⟩) (fun r s' => r = .ok (.ret (.bool true)) ∧ OldK s.heap s'.heap ∧ s'.os = s.os ∧ AllBare s'.gens) s := by
  have from_ : ∀ H : Hp, Only H → SqL K H a (ns.map V.int) → HOk P w H s.heap → (∀ b, H b ≠ none → b = a) → (H a ≠ none → K.lookup a = none) →
      codeAny (model P w) callerA (.call (.ref fa) ⟨[.ref a], []⟩) (fun r s' => r = .ok (.ret (.bool true)) ∧ OldK s.heap s'.heap ∧ s'.os = s.os ∧ AllBare s'.gens) s := by
    intro H hO hS ok only off
    obtain ⟨k1, k2, env⟩ := top_env (H := H) kin gl bl std lim gens is only off ok
    obtain ⟨f, fd, ds, F', g, _, bnd, dv⟩ := F _ k1 k2
    cases dv
    cases g.symm.trans isf
    refine codeAny_mono (F'.does callerA [] s H ⟨[.ref a], []⟩ [.ref a] [.ref a] _ _ rfl room env (bnd s [.ref a] kin rfl) (.cons rfl .nil) (want H hO hS)) ?_
    intro r s' z
    match r, z with
    | .error e, z => exact (noX H e s' z).elim
    | .ok .next, z => exact z.elim
    | .ok .brk, z => exact z.elim
    | .ok .cont, z => exact z.elim
    | .ok (.ret u), ⟨v, H', os, bare, un, ok', r', q⟩ =>
      have q' : v = .bl true := q
      subst q'
      have r2 : u = Value.bool true := r'
      subst r2
      refine ⟨rfl, OldK.of_keep ?_, os, bare⟩
      intro b o e
      rcases hO b with z | ⟨ob, ys, z⟩
      · exact un.keep b o e z (fun m => (nomatch m)) (fun m => (nomatch m))
      · have e1 := (ok b _ z).1
        have e2 := (ok' b _ (un.frzs b ob _ z)).1
        rw [e] at e1
        cases e1
        exact e2
  have rv := vals_ints hi
  cases q : K.lookup a with
  | some o =>
    have e := kin a o q
    rw [is] at e
    cases e
    exact from_ (fun _ => none) (fun _ => .inl rfl) (.inr ⟨_, vs.toArray, _, q, rfl, rfl, rfl, by rw [List.size_toArray, hi.length]; exact hl, by simpa using rv⟩) (fun _ _ z => nomatch z) (fun _ z => (z rfl).elim) fun z => (z rfl).elim
  | none =>
    have here : ∀ b u, (if b = a then some (HO.frz (scriptObj vs) (.lst (ns.map V.int))) else none) = some u → b = a ∧ u = .frz (scriptObj vs) (.lst (ns.map V.int)) := by
      intro b u z
      by_cases c : b = a
      · rw [if_pos c] at z
        exact ⟨c, (Option.some.inj z).symm⟩
      · rw [if_neg c] at z
        cases z
    refine from_ (fun b => if b = a then some (.frz (scriptObj vs) (.lst (ns.map V.int))) else none) ?_ (.inl (.inr ⟨scriptObj vs, if_pos rfl⟩)) ?_ ?_ fun _ => q
    · intro b
      by_cases c : b = a
      · exact .inr ⟨_, _, if_pos c⟩
      · exact .inl (if_neg c)
    · intro b u z
      obtain ⟨c, rfl⟩ := here b u z
      subst c
      exact ⟨is, by rw [List.length_map]; exact hl, vs, _, rv, is⟩
    · intro b z
      by_cases c : b = a
      · exact c
      · exact (z (if_neg c)).elim
end
/-- what k_head (or a head by facts) leaves open, from the law's contract -/
theorem walk_ofG {l : PySem.W.OpenLaw} {n k : Nat} {q : Program} {loose : List Str} {XP : (Str → Option Value) → Heap → Prop} {YP : World → Heap → Prop} {d : DefRec} {CX : World → CXT} {x nm : Str}
    (most : l.most = some n) (few : n ≤ sizeLine) (nodef : d.params.defaults = []) (named : d.name = nm) (room : Room k callerA)
    (F : ∀ (w : World) (mg : Str → Option Value) (h : Heap), YP w h → h.Ns mainGlobals mg → ∃ (K : PySem.W.Frag) (sp : Sp), K.In h ∧
        (∀ (H : Hp) (a : Addr) (ns : List Int), ns.length ≤ n → (∀ z ∈ ns, Builtin.Int.intBits z ≤ 1048576) → Only H → SqL K H a (ns.map V.int) → sp [.ref a] H (fun v _ => v = .bl true) fun _ _ _ => False) ∧
        ∀ base : Heap, K.In base → base.Ns mainGlobals mg → Has l.prog w K mg base (CX w) k nm [x] [] sp)
    (noX : ∀ (w : World) (H : Hp) (s : Shared) (e : Value) (s' : Shared), CX w [] H s (fun _ _ _ => False) e s' → False) :
    PySem.W.WalkO q loose XP YP l.row.toRowW d []
      (fun f vs => PySem.call f vs) := by
  apply Att.attach_callB most nodef
  intro w s0 s1 mg mb fa o pm cd doc a vs ns G Y _ _ _ isf is hi hl bits gens
  obtain ⟨K, sp, kin, want, F'⟩ := F w mg _ Y G.T.g
  exact law_callG kin G.T.g G.T.b G.T.builtins G.T.nolimit gens is hi (Nat.le_trans hl few) room F' (named ▸ isf) (fun H hO hS => want H a ns hl bits hO hS) fun H e s' => noX w H s1 e s'
end Sb

/-! Sb, part E: facts of the top as Boolean functions of the written part; the package's errors: made, raised, caught, asked. -/
namespace Sb
open PySem PySem.Spec PyProof.Rows L2

/-! ### facts of the top -/
def obsF (fs : List Fb) (fn : List He.DefD) (K : PySem.W.Frag) : He.AlD := (fs.all (fun f => f K) && fn.all (fun d => d.ok K), fn.map fun d => He.fnW K d.at_)
def SaysF (fs : List Fb) (fn : List He.DefD) (K : PySem.W.Frag) : Prop := obsF fs fn K = He.valD fn
/-- what is reached from the module's names and from the interpreter's own table in n steps -/
def reach (g : Addr → Option Obj) : Nat → List Addr
  | 0 => [mainGlobals, cStatics]
  | n + 1 => He.growD g (reach g n)
def lookF (n : Nat) (fs : List Fb) (fn : List He.DefD) (g : Addr → Option Obj) : He.AlD := obsF fs fn (He.frG g (reach g n))
def hookF (n : Nat) (fs : List Fb) (fn : List He.DefD) : PySem.W.Hook :=
  ⟨He.AlD, fun s => lookF n fs fn s.heap.get?, fun _ => He.valD fn, fun _ h => ∃ K : PySem.W.Frag, K.In h ∧ SaysF fs fn K, fun _ _ e => ⟨_, He.frG_in, e⟩,
    fun _ _ _ z more => z.imp fun _ c => ⟨PySem.W.Frag.In.keeps c.1 more, c.2⟩⟩
theorem lookF_eq {n : Nat} {fs : List Fb} {fn : List He.DefD} {g : Addr → Option Obj} {s : Shared} (h : ∀ a, g a = s.heap.get? a) : lookF n fs fn g = (hookF n fs fn).obs s := by
  cases funext h
  rfl
section
variable {fs : List Fb} {fn : List He.DefD} {K : PySem.W.Frag}
theorem SaysF.fact (c : SaysF fs fn K) (i : Nat) {f : Fb} (at_ : fs[i]? = some f) : f K = true := by
  have both : (fs.all (fun f => f K) && fn.all (fun d => d.ok K)) = true := congrArg Prod.fst c
  exact List.all_eq_true.mp (Bool.and_eq_true_iff.mp both).1 f (List.mem_of_getElem? at_)
theorem SaysF.def_ (c : SaysF fs fn K) (i : Nat) {d : He.DefD} (at_ : fn[i]? = some d) : ∃ fd, FunD K d.name d.qual d.params d.body d.scope (d.dvs K) (d.kws K) (He.fAd K d.at_) fd := by
  have both : (fs.all (fun f => f K) && fn.all (fun d => d.ok K)) = true := congrArg Prod.fst c
  have e : (fn.map fun d => He.fnW K d.at_)[i]? = (fn.map He.DefD.val)[i]? := congrArg (·[i]?) (congrArg Prod.snd c)
  simp only [List.getElem?_map, at_, Option.map_some, Option.some.injEq] at e
  exact He.DefD.funD e (List.all_eq_true.mp (Bool.and_eq_true_iff.mp both).2 d (List.mem_of_getElem? at_))
end

/-! ### the package's errors -/
theorem errCls_ok {K : PySem.W.Frag} {C : Addr} (h : errCls K C = true) :
    ∃ nm q N bs bm sn sub ab col dd k0 k1 k2 k3 k5, K.lookup C = some (excClassObj nm q C N bs bm true sn sub ab col dd k0 k1 k2 k3 k5 "ValueError.__new__") ∧ PySem.HandSPX.refsVE bm = true := by
  unfold errCls at h
  split at h
  · rename_i dd cd sl at_
    split at h
    · rename_i C' bm k0 k1 k2 k3 n k5 e1 e2
      simp only [Bool.and_eq_true, decide_eq_true_eq, Bool.not_eq_true'] at h
      obtain ⟨⟨⟨⟨rfl, rfl⟩, e3⟩, e4⟩, e5⟩ := h
      cases cd
      cases sl
      cases e1
      cases e2
      cases e3
      cases e4
      exact ⟨_, _, _, _, _, _, _, _, _, _, _, _, _, _, _, at_, e5⟩
    · cases h
  · cases h
/-- what the written part says of an error class -/
structure ErrC (K : PySem.W.Frag) (C : Addr) : Prop where
  oex : OexC K C
  xf : XfC K C
  cl : (PySem.W.clsIn K C).isSome = true
  ha : PySem.W.findIn K (.ref C) "__class__" = some (some (.builtin "object.__class__"))
  hn : PySem.W.specialIn K (.builtin "object.__class__") "__get__" = some (some (.builtin "getset_descriptor.__get__"))
  ht : PySem.W.takesIn K (.builtin "object.__class__") = some true
  hm : PySem.W.mroIn K C (.type "object") = some true
theorem errB_ok {K : PySem.W.Frag} {C : Addr} (h : errB K C = true) : ErrC K C := by
  simp only [errB, Bool.and_eq_true, decide_eq_true_eq] at h
  obtain ⟨⟨⟨⟨⟨⟨⟨⟨⟨⟨⟨⟨a, b⟩, c⟩, d⟩, e⟩, f⟩, g⟩, i⟩, j⟩, k⟩, l⟩, m⟩, n⟩ := h
  exact ⟨⟨errCls_ok a, b, c, d, e⟩, ⟨f, g, c, i⟩, j, k, l, m, n⟩
structure BaseC (K : PySem.W.Frag) (S : Addr) : Prop where
  sp : PySem.W.specialIn K (.ref S) "__getattribute__" = some (some (.builtin "type.__getattribute__"))
  rd : PySem.W.readsIn K S (.type "type") = true
  fc : PySem.W.findCls K (.ref S) (.type "type") "__init__" = some (.val (.builtin "ValueError.__init__"))
theorem baseB_ok {K : PySem.W.Frag} {S : Addr} (h : baseB K S = true) : BaseC K S := by
  simp only [baseB, Bool.and_eq_true, decide_eq_true_eq] at h
  obtain ⟨⟨a, b⟩, c⟩ := h
  refine ⟨a, b, ?_⟩
  split at c
  · rename_i n e
    rw [e, of_decide_eq_true c]
  · cases c

section
variable {X : Cx} {e : Expr} {es : List Expr} {ta : TA} {p1 p2 pos : Pos} {x : Str} {S : Addr}
/-- S.__init__(self, ..), S the base class of the errors -/
theorem pe_baseinit {pl : Sem Bool} (gl : Gl X x) (isS : X.mg x = some (.ref S)) (B : BaseC X.K S) (ha : PA X (e :: es) ta)
    (form : eval (.Call (.Attribute (.Name x p1) "__init__" p2) (e :: es) [] pos) X.env = (do
      let ov ← eval (.Name x p1) X.env
      standAt p2.atName
      let (f, first) ← holding [ov] (getMethod ov "__init__" pl)
      callWith pos f first (backTo pos (starEach (e :: es) X.env)) (backToKw pos (keywordEach [] X.env))) := by rfl)
    (nd : (x == ("__debug__" : Str)) = false := by decide) (st : starEach (e :: es) X.env = (false, eval e X.env) :: starEach es X.env := by rfl) (plain : (backTo pos (starEach es X.env)).any (·.1) = false := by rfl) :
    PE X (.Call (.Attribute (.Name x p1) "__init__" p2) (e :: es) [] pos) (tVeI X.K ta) := by
  refine ⟨fun pins s σ H Q I h => PySem.W.methodCall_KW (ld_glob I gl isS ?_ nd) form⟩
  refine PySem.W.method_cls I.kIn B.sp (PySem.W.cls_value I.kIn B.rd B.fc (by decide +kernel) ?_)
  show wpAny _ _ (callWith pos (Value.builtin "ValueError.__init__") [] (backTo pos (starEach (e :: es) X.env)) []) _ _ _
  refine PyProof.Rows.callWith_method1 (thn (ha.run pos pins _ σ H _ (I.tok _) h) ?_) st plain
  rintro us s1 ⟨vs, H1, J, r, a, C, ws, rfl, few, T, isE, q⟩
  cases r with
  | cons ra rr =>
    cases ra
    refine oinit_ok T J isE ?_ fun s' J' => ⟨.non, H1, J', rfl, q⟩
    rw [← Paired.length rr, sizeLine_eq]
    omega
end

/-- __init__ of an error with the field f -/
def spInit (C : Addr) (f : Str) : Sp := fun vs H Q _ => ∃ (a : Addr) (v : V), vs = [.ref a, v] ∧ H a = some (exo a C none) ∧
  ∀ dx, H dx = none → dx ≠ a → Q .non (upd (upd H dx (exd dx [(f, v)])) a (exo a C (some dx)))
/-- the error class named x, with its field f, can be made -/
def Err (P : Program) (w : World) (K : PySem.W.Frag) (mg : Str → Option Value) (base : Heap) (x f : Str) : Prop :=
  mg x = some (.ref (He.ga K x)) ∧ ErrC K (He.ga K x) ∧ ∃ (fI : Addr) (fd : FuncData) (ps : List Str), PySem.W.findIn K (.ref (He.ga K x)) "__init__" = some (some (.ref fI)) ∧ PySem.W.typeIn K (.ref fI) = some (.type "function") ∧
    FnOk P w K mg base CX0 1 fI fd ps (spInit (He.ga K x) f) ∧ Binds K fd ps []
/-- C(e) -/
def tErr (C : Addr) (f : Str) (te : TE) : L2.St → Hp → XK → Prop := fun σ H Q => te σ H fun v H1 => ∀ d, H1 d = none → Q (.ref C) (some d) (upd H1 d (.xd [(f, v)]))
/-- a reading that hands on less -/
def tLess (te : TE) : TE := fun σ H Q => ∃ Q0 : VK, te σ H Q0 ∧ ∀ v H1, Q0 v H1 → Q v H1
section
variable {X : Cx} {e : Expr} {te : TE} {p pos : Pos} {x f : Str}
theorem pe_less (he : PE X e te) : PE X e (tLess te) := by
  refine ⟨fun pins s σ H Q I h => ?_⟩
  obtain ⟨Q0, h0, imp⟩ := h
  refine wpAny_mono (he.run pins s σ H Q0 I h0) ?_ fun _ _ z => z
  rintro u s1 ⟨v, H1, J, r, q⟩
  exact ⟨v, H1, J, r, imp v H1 q⟩
theorem err_made {C a : Addr} {f : Str} {v : V} {H : Hp} {Q : XK} (ha : H a = none) (z : ∀ d, H d = none → Q (.ref C) (some d) (upd H d (.xd [(f, v)]))) :
    spInit C f [.ref a, v] (upd H a (exo a C none)) (fun v H2 => v = .non ∧ ∃ (d : Addr) (fs : List (Str × V)), H2 a = some (exo a C (some d)) ∧ H2 d = some (exd d fs) ∧ H d = none ∧ Q (.ref C) (some d) (upd (del H2 a) d (.xd fs))) (fun _ _ _ => False) := by
  refine ⟨a, v, rfl, upd_same, fun dx hd ne => ⟨rfl, dx, [(f, v)], upd_same, ?_, ?_, ?_⟩⟩
  · rw [upd_ne ne, upd_same]
  · rwa [upd_ne ne] at hd
  · have e : upd (del (upd (upd (upd H a (exo a C none)) dx (exd dx [(f, v)])) a (exo a C (some dx))) a) dx (.xd [(f, v)]) = upd H dx (.xd [(f, v)]) := by
      funext b
      by_cases hb : b = dx
      · rw [hb, upd_same, upd_same]
      · rw [upd_ne hb, upd_ne hb]
        by_cases hb2 : b = a
        · rw [hb2, del_same, ha]
        · rw [del_ne hb2, upd_ne hb2, upd_ne hb, upd_ne hb2]
    rw [e]
    rw [upd_ne ne] at hd
    exact z dx hd
theorem pmk_err {k : Nat} (M : Err X.prog X.w X.K X.mg X.base x f) (room : Room (k + 2) X.A) (gl : Gl X x) (he : PE X e te)
    (nd : (x == ("__debug__" : Str)) = false := by decide) (st : starEach [e] X.env = (false, eval e X.env) :: starEach [] X.env := by rfl) (pl : (backTo pos (starEach [] X.env)).any (·.1) = false := by rfl) :
    PMk X (.Call (.Name x p) [e] [] pos) (tErr (He.ga X.K x) f te) := by
  obtain ⟨g, C, fI, fd, ps, iC, tI, F, bnd⟩ := M
  intro pins s σ H Q I h
  refine pmk_oex (C := He.ga X.K x) C.oex iC tI F (room.mono (by omega)) bnd .nil pass0 gl g (pa_cons (t := tNil) (pe_less he) pa_nil st) nd st pl pins s σ H Q I ?_
  exact ⟨_, h, fun v H1 z => ⟨(by decide : 1 ≤ 1000), fun a ha => err_made ha z⟩⟩
/-- raise C(e) -/
theorem ps_err {k : Nat} {W : WX} {pos2 : Pos} (M : Err X.prog X.w X.K X.mg X.base x f) (calm : X.calm = true) (tk : Takes X W) (room : Room (k + 2) X.A) (gl : Gl X x) (he : PE X e te)
    (nd : (x == ("__debug__" : Str)) = false := by decide) (st : starEach [e] X.env = (false, eval e X.env) :: starEach [] X.env := by rfl) (pl : (backTo pos (starEach [] X.env)).any (·.1) = false := by rfl) :
    PS X (.Raise (some (.Call (.Name x p) [e] [] pos)) none pos2) (fun _ σ H => tErr (He.ga X.K x) f te σ H fun cls d H' => W cls d σ H') := ps_raise calm tk (pmk_err M room gl he nd st pl)
end

/-- the base class of the errors -/
structure BaseAt (K : PySem.W.Frag) (mg : Str → Option Value) (x : Str) : Prop where
  g : mg x = some (.ref (He.ga K x))
  c : ErrC K (He.ga K x)
  b : BaseC K (He.ga K x)
theorem baseAt_ok {K : PySem.W.Frag} {h : Heap} {mg : Str → Option Value} {x : Str} (X : K.In h) (G : h.Ns mainGlobals mg) (b : baseAtB K x = true) : BaseAt K mg x := by
  simp only [baseAtB, Bool.and_eq_true] at b
  exact ⟨PySem.W.mg_of X G (He.eqO_ok b.1.1), errB_ok b.1.2, baseB_ok b.2⟩
/-! ### an error's __init__ in the text -/
/-- what the head says of the error class x and of its __init__, st -/
structure ErrAt (K : PySem.W.Frag) (mg : Str → Option Value) (x f qn : Str) (st : Stmt) : Prop where
  g : mg x = some (.ref (He.ga K x))
  c : ErrC K (He.ga K x)
  i : PySem.W.findIn K (.ref (He.ga K x)) "__init__" = some (some (.ref (He.fAd K (x, some "__init__"))))
  t : PySem.W.typeIn K (.ref (He.fAd K (x, some "__init__"))) = some (.type "function")
  n : PySem.W.findIn K (.ref (He.ga K x)) f = some none
  F : ∃ fd, FunD K "__init__" qn (defArgs st) (defBody st) (defScope st) [] [] (He.fAd K (x, some "__init__")) fd
theorem errAt_ok {K : PySem.W.Frag} {h : Heap} {mg : Str → Option Value} {x f qn : Str} {st : Stmt} (X : K.In h) (G : h.Ns mainGlobals mg) (b : errAtB K x f = true)
    (F : ∃ fd, FunD K "__init__" qn (defArgs st) (defBody st) (defScope st) [] [] (He.fAd K (x, some "__init__")) fd) : ErrAt K mg x f qn st := by
  simp only [errAtB, Bool.and_eq_true, decide_eq_true_eq] at b
  obtain ⟨⟨⟨⟨a, b⟩, c⟩, d⟩, e⟩ := b
  exact ⟨PySem.W.mg_of X G (He.eqO_ok a), errB_ok b, c, d, e, F⟩
/-! ### calls whose errors are wished for at the caller's slots -/
section
variable {X : Cx} {CX : CXT} {k : Nat} {ps : List Str} {sp : Sp} {dvs : List V} {E : L2.St → XK} {x : Str} {p pos : Pos} {e : Expr} {es : List Expr} {t : TA}
theorem pe_fnS (C : Has X.prog X.w X.K X.mg X.base CX k x ps dvs sp) (px : ∀ σ, PassesAt CX X σ (E σ)) (g : Still X.A) (room : Room k X.A) (gl : Gl X x) (as : PA X (e :: es) t)
    (nd : (x == ("__debug__" : Str)) = false := by decide) (st : starEach (e :: es) X.env = (false, eval e X.env) :: starEach es X.env := by rfl) (pl : (backTo pos (starEach es X.env)).any (·.1) = false := by rfl) :
    PE X (.Call (.Name x p) (e :: es) [] pos) (tCallSD sp dvs E t) := by
  obtain ⟨f, fd, ds, F, isf, kp, bnd, dv⟩ := C
  refine ⟨fun pins s σ H Q I h => wpAny_Call_Name_kw (ld_glob I gl isf (PySem.W.callWith_K (h₀ := X.base) I.ok.mod.kin kp (thn (as.run pos pins s σ H _ I h) ?_) st pl) nd)⟩
  rintro us s1 ⟨vs, H1, J, rv, q⟩
  have all := rv.append dv
  have n : (us ++ ds).length = ps.length := all.length.symm.trans (F.many _ _ _ _ q)
  refine ⟨J.kIn, wpAny_call (codeAny_mono (F.does X.A X.stack s1 H1 ⟨us, []⟩ _ _ Q (E σ) g room J.env0 (bnd s1 us J.kIn n) all q) ?_)⟩
  intro r s' z
  match r, z with
  | .error e, z => exact px σ pins H1 s1 e s' J z
  | .ok (.ret u), z => exact J.after z
  | .ok .next, z => exact z.elim
  | .ok .brk, z => exact z.elim
  | .ok .cont, z => exact z.elim
end

/-- where no error is wished for, none comes -/
theorem no_cx {P : Program} {w : World} {outer : List Env} {H : Hp} {s : Shared} {e : Value} {s' : Shared} (h : L2.CX P w outer H s (fun _ _ _ => False) e s') : False := by
  obtain ⟨_, _, _, _, _, _, _, _, _, _, _, _, z⟩ := h
  exact z
theorem Has.calm {P : Program} {w : World} {K : PySem.W.Frag} {mg : Str → Option Value} {base : Heap} {k : Nat} {x : Str} {ps : List Str} {dvs : List V} {sp sp' : Sp} (h : Has P w K mg base (L2.CX P w) k x ps dvs sp)
    (imp : ∀ vs H Q E, sp' vs H Q E → sp vs H Q (fun _ _ _ => False)) : Has P w K mg base CX0 k x ps dvs sp' := by
  obtain ⟨f, fd, ds, F, r⟩ := h
  refine ⟨f, fd, ds, ⟨fun vs H Q E q => F.many _ _ _ _ (imp _ _ _ _ q), fun A o s H as us vs Q E g ro e b v q => codeAny_mono (F.does A o s H as us vs Q _ g ro e b v (imp _ _ _ _ q)) ?_⟩, r⟩
  intro r s' z
  match r, z with
  | .error _, z => exact no_cx z
  | .ok (.ret _), z => exact z
  | .ok .next, z => exact z
  | .ok .brk, z => exact z
  | .ok .cont, z => exact z
/-! ### isinstance of a caught error -/
/-- isinstance(e, c), e the error at a that the suite holds, of the class cls, with the dict d -/
def rIsX (K : PySem.W.Frag) (a : Addr) (cls : Value) (d : Option Addr) : List V → Hp → VK → Prop := fun xs H Q => ∃ (D dd : Addr) (fs : List (Str × V)) (c : V) (cv : Value) (b : Bool),
  xs = [.ref a, c] ∧ cls = .ref D ∧ d = some dd ∧ H dd = some (.xd fs) ∧ ErrC K D ∧ ClsV c cv ∧ PySem.W.kitOne K (.ref D) cv = some b ∧ Q (.bl b) H
theorem call_isX {X : Cx} {a : Addr} {cls : Value} {d : Option Addr} {oe : Obj} {pn : List (Addr × Obj)} (hz : Zc cls d oe) (hf : ∃ vs, oe.data = .fields vs) :
    CallR (X.suite a ((a, oe) :: pn)) (.builtin "isinstance") (rIsX X.K a cls d) := by
  intro pins s σ H _ us Q I r h
  obtain ⟨D, dd, fs, c, cv, b, rfl, rfl, rfl, hd, T, k, e, q⟩ := h
  obtain ⟨u1, u2, rfl, r1, r2⟩ := vals2 r
  cases r1
  have e2 := k.eq r2
  subst e2
  obtain ⟨here, _⟩ := I.pin (a, oe) (List.mem_append_left _ List.mem_cons_self)
  obtain ⟨mA, hns, _⟩ := (show ObjOk X.prog X.w H s.heap dd (.xd fs) from I.hok dd _ hd)
  obtain ⟨od, ho, _⟩ := lookIn_ns hns
  obtain ⟨vs, hv⟩ := hf
  have J : PySem.W.InstAt s.heap a oe D (some od) := ⟨here, hz.1, by unfold PySem.W.notCls; rw [hv] <;> rfl, by rw [hz.2]; exact ho⟩
  exact PySem.W.kia_one (PySem.W.kitx_exc T.cl T.xf.ga T.xf.gg T.xf.exC T.ha T.hn T.ht T.hm) I.kIn J e (fun z => nomatch z) fun tk => ⟨.bl b, H, I.kept (t' := tk) fun _ _ z => z, rfl, q⟩

/-- repr within an except suite -/
theorem call_reprS {X : Cx} {a : Addr} {pn : List (Addr × Obj)} (g : Still X.A) (room : X.A.units + 102 < cLine) : CallR (X.suite a pn) (.builtin "repr") (rRepr X.K) := call_repr (X := X.suite a pn) g room
/-! ### data stays data -/
section
variable {K : PySem.W.Frag} {H H' : Hp}
theorem seqT_same {a : Addr} {xs : List V} (e : Same H H') (h : SqT K H a xs) : SqT K H' a xs := by
  rcases h with (h | ⟨o, h⟩) | h
  · exact .inl (.inl (e _ _ h))
  · exact .inl (.inr ⟨o, e _ _ h⟩)
  · exact .inr h
mutual
theorem Dp.same (e : Same H H') : ∀ (d : PyData) (v : V), Dp K H v d → Dp K H' v d
  | _, _, .non => .non
  | _, _, .bl b => .bl b
  | _, _, .int i => .int i
  | _, _, .str x => .str x
  | .list ds, _, .lst h hs => .lst (e.seq h) (DpAll.same e ds _ hs)
  | .tuple ds, _, .tup h hs => .tup (seqT_same e h) (DpAll.same e ds _ hs)
theorem DpAll.same (e : Same H H') : ∀ (ds : List PyData) (vs : List V), DpAll K H vs ds → DpAll K H' vs ds
  | [], _, .nil => .nil
  | d :: ds, _, .cons h hs => .cons (Dp.same e d _ h) (DpAll.same e ds _ hs)
end
theorem Shows.same {x : V} {d : PyData} (s : Shows K H x d) (e : Same H H') : Shows K H' x d := ⟨Dp.same e d x s.dp, s.ok, s.nd, s.deep, s.size⟩
theorem tyx_same {x : V} {n : String} (e : Same H H') (h : TyX K H x (.type n)) : TyX K H' x (.type n) := by
  cases h with
  | base b =>
    cases b with
    | non => exact .base .non
    | bl b => exact .base (.bl b)
    | int i => exact .base (.int i)
    | str x => exact .base (.str x)
    | flt x => exact .base (.flt x)
    | lst h => exact .base (.lst (e _ _ h))
    | frz h => exact .base (.frz (e _ _ h))
    | tup h => exact .base (.tup (e _ _ h))
    | dK h => exact .base (.dK (e _ _ h))
    | dT h => exact .base (.dT (e _ _ h))
  | byt b => exact .byt b
  | set h => exact .set (e _ _ h)
  | kList h c => exact .kList h c
  | kTuple h c => exact .kTuple h c
  | kDict h c => exact .kDict h c
  | fTuple h => exact .fTuple (e _ _ h)
  | fDict h => exact .fDict (e _ _ h)
end
/-! ### defs with defaults -/
section
variable {P : Program} {w : World} {K : PySem.W.Frag} {mg : Str → Option Value} {base : Heap} {k : Nat} {x : Str} {st : Stmt} {ps N : List Str} {sp : Sp} {dvs dv : List V}
/-- a def that may raise; bnd tells how its parameters are bound, dv: by which defaults the last ones are filled -/
theorem hasXB (D : DefAt K mg x st dvs) (S : FnScope N ps (defScope st))
    (bnd : ∀ fd, FunD K x x (defArgs st) (defBody st) (defScope st) dvs [] (He.ga K x) fd → ∃ ds, Vals dv ds ∧ Binds K fd ps ds)
    (many : ∀ vs H Q E, sp vs H Q E → vs.length = ps.length)
    (does : ∀ (cv : Value) (A : Around) (outer : List Env) (s : Shared) (H : Hp) (vs : List V) (Q : VK) (E : XK), Still A → Room k (A.deeper (envOfC x (defScope st) s.heap.objs.size (He.ga K x) cv)) → sp vs H Q E →
      ∃ t, PSs (cxOf (L2.CX P w) P w K mg base N x (defScope st) (He.ga K x) cv A outer s H E) (defBody st) t ∧ t { nx := fun _ H' => Q .non H', rt := Q } (start N vs) H) :
    Has P w K mg base (L2.CX P w) (k + 1) x ps dv sp := by
  obtain ⟨fd, F⟩ := D.F
  obtain ⟨ds, v, b⟩ := bnd fd F
  exact ⟨_, fd, ds, okXG F S many does, D.g, F.kp, b, v⟩
end
/-! ### a reading of one's own -/
section
variable {X : Cx} {e : Expr} {st : Stmt}
theorem pt_imp {t t' : TT} (h : PT X e t) (imp : ∀ σ H Q, t' σ H Q → t σ H Q) : PT X e t' := ⟨fun pins s σ H Q I z => h.run pins s σ H Q I (imp _ _ _ z)⟩
theorem pe_imp {t t' : TE} (h : PE X e t) (imp : ∀ σ H Q, t' σ H Q → t σ H Q) : PE X e t' := ⟨fun pins s σ H Q I z => h.run pins s σ H Q I (imp _ _ _ z)⟩
theorem ps_imp {t t' : TS} (h : PS X st t) (imp : ∀ D σ H, t' D σ H → t D σ H) : PS X st t' := ⟨fun pins s σ H D I z => h.run pins s σ H D I (imp _ _ _ z)⟩
end
/-! ### the order of data; lists of ints compared -/
def rLtD (K : PySem.W.Frag) : R2 := fun x y H Q => ∃ d e, Dp K H x d ∧ Dp K H y e ∧ PySem.W.alike d e = true ∧ d ≠ .none ∧ d.depth ≤ 60 ∧ Q (.bl (PySem.W.dataLt d e)) H
theorem op_ltD {X : Cx} (room : X.A.units + 64 < cLine) : OpR X (compareOp .Lt) (rLtD X.K) := by
  intro pins s σ H x y v u Q I rx ry h
  obtain ⟨d, e, hd, he, al, nn, dp, q⟩ := h
  obtain ⟨as, r1⟩ := Dp.reads I d x v hd rx
  obtain ⟨bs, r2⟩ := Dp.reads I e y u he ry
  have le : min d.depth e.depth ≤ d.depth := Nat.min_le_left _ _
  exact PySem.W.lt_data r1 r2 al nn (by omega) ⟨.bl _, H, I, rfl, q⟩
theorem alike_ints : ∀ ns ms : List Int, PySem.W.alikeAll (ns.map PyData.int) (ms.map PyData.int) = true
  | [], _ => by
    show PySem.W.alikeAll [] _ = true
    rw [PySem.W.alikeAll]
  | _ :: _, [] => by
    show PySem.W.alikeAll (_ :: _) [] = true
    rw [PySem.W.alikeAll]
  | n :: ns, m :: ms => by
    show PySem.W.alikeAll (.int n :: ns.map .int) (.int m :: ms.map .int) = true
    rw [PySem.W.alikeAll, alike_ints ns ms, PySem.W.alike]
    rfl
theorem eqv_int (n m : Int) : PyData.eqv (.int n) (.int m) = decide (n = m) := by
  rw [PyData.eqv]
  by_cases e : n = m
  · rw [e]
    simp
  · rw [decide_eq_false e]
    simpa using e
theorem eqv_ints : ∀ ns ms : List Int, PyData.eqvAll (ns.map PyData.int) (ms.map PyData.int) = decide (ns = ms)
  | [], [] => by
    show PyData.eqvAll [] [] = _
    rw [PyData.eqvAll]
    rfl
  | [], m :: ms => by
    show PyData.eqvAll [] (_ :: _) = _
    rw [PyData.eqvAll, decide_eq_false fun e => by cases e]
  | n :: ns, [] => by
    show PyData.eqvAll (_ :: _) [] = _
    rw [PyData.eqvAll, decide_eq_false fun e => by cases e]
  | n :: ns, m :: ms => by
    show PyData.eqvAll (.int n :: ns.map .int) (.int m :: ms.map .int) = _
    rw [PyData.eqvAll, eqv_int, eqv_ints ns ms]
    by_cases e : n = m
    · by_cases e2 : ns = ms
      · rw [e, e2]
        simp
      · rw [decide_eq_false e2, Bool.and_false, decide_eq_false fun z => e2 (List.cons.inj z).2]
    · rw [decide_eq_false e, Bool.false_and, decide_eq_false fun z => e (List.cons.inj z).1]
theorem lt_ints (ns ms : List Int) : PySem.W.dataLt (.list (ns.map PyData.int)) (.list (ms.map PyData.int)) = HT.lexLt ns ms := by
  rw [PySem.W.dataLt_list]
  induction ns generalizing ms with
  | nil =>
    cases ms with
    | nil => rfl
    | cons m ms =>
      show PyProof.Rows.lexLt PyProof.Rows.itemOrd (PySem.W.keyToksAll []) (PySem.W.keyToksAll (.int m :: ms.map .int)) = _
      rw [PySem.W.toks_all_cons]
      rfl
  | cons n ns ih =>
    cases ms with
    | nil =>
      show PyProof.Rows.lexLt PyProof.Rows.itemOrd (PySem.W.keyToksAll (.int n :: ns.map .int)) (PySem.W.keyToksAll []) = _
      rw [PySem.W.toks_all_cons]
      rfl
    | cons m ms =>
      have al : PySem.W.alike (.int n) (.int m) = true := by rw [PySem.W.alike]
      show PyProof.Rows.lexLt PyProof.Rows.itemOrd (PySem.W.keyToksAll (.int n :: ns.map .int)) (PySem.W.keyToksAll (.int m :: ms.map .int)) = _
      rw [HT.lexLt_cons]
      by_cases e : n = m
      · rw [PySem.W.dataLt_all_yes al (by rw [eqv_int, decide_eq_true e]), if_pos e]
        exact ih ms
      · rw [PySem.W.dataLt_all_no al (by rw [eqv_int, decide_eq_false e]), if_neg e, PySem.W.dataLt_int]
theorem canLay_ints : ∀ ns : List Int, PyData.canLayAll0 (ns.map PyData.int) = true
  | [] => rfl
  | n :: ns => by
    show (PyData.canLay0 (.int n) && PyData.canLayAll0 (ns.map PyData.int)) = true
    rw [canLay_ints ns]
    rfl
/-! ### rules that name the written part, whatever stands around -/
section
variable {X : Cx} {K : PySem.W.Frag}
theorem ix_listK (e : X.K = K) : IxR X (rIxL K) := e ▸ ix_list
theorem ix_tupK (e : X.K = K) : IxR X (rIxT K) := e ▸ ix_tup
theorem sl_listK (e : X.K = K) : SlR X (rSlL K) := e ▸ sl_list
theorem sl_tupK (e : X.K = K) : SlR X (rSlT K) := e ▸ sl_tup
def rLenK (K : PySem.W.Frag) : List V → Hp → VK → Prop := fun xs H Q => ∃ p ys, xs = [.ref p] ∧ (SqL K H p ys ∨ SqT K H p ys) ∧ Q (.int ys.length) H
theorem call_lenK (e : X.K = K) : CallR X (.builtin "len") (rLenK K) := by
  subst e
  exact call_len_seq
def rListK (K : PySem.W.Frag) : List V → Hp → VK → Prop := fun xs H Q => ∃ p ys, xs = [.ref p] ∧ (SqL K H p ys ∨ SqT K H p ys) ∧ ∀ l, H l = none → Q (.ref l) (upd H l (.lst ys))
theorem call_listK (e : X.K = K) : CallR X (.type "list") (rListK K) := by
  subst e
  exact call_list_of
def rTupleK (K : PySem.W.Frag) : List V → Hp → VK → Prop := fun xs H Q => ∃ p ys, xs = [.ref p] ∧ ((SqL K H p ys ∧ ∀ l, H l = none → Q (.ref l) (upd H l (.tup ys))) ∨ (SqT K H p ys ∧ Q (.ref p) H))
theorem call_tupleK (e : X.K = K) : CallR X (.type "tuple") (rTupleK K) := by
  subst e
  exact call_tuple_of
theorem call_isiK' (e : X.K = K) : CallR X (.builtin "isinstance") (rIsi K) := e ▸ call_isi
theorem cr_allK (e : X.K = K) (c : X.calm = true) : CallR X (.builtin "all") (rAll K) := e ▸ cr_all c
theorem call_reprK (e : X.K = K) (g : Still X.A) (room : X.A.units + 102 < cLine) : CallR X (.builtin "repr") (rRepr K) := e ▸ call_repr g room
theorem op_eqK (e : X.K = K) (room : X.A.units + 64 < cLine) : OpR X (compareOp .Eq) (rEqD K) := e ▸ op_eqD room
theorem op_neK (e : X.K = K) (room : X.A.units + 64 < cLine) : OpR X (compareOp .NotEq) (rNeD K) := e ▸ op_neD room
theorem op_ltK (e : X.K = K) (room : X.A.units + 64 < cLine) : OpR X (compareOp .Lt) (rLtD K) := e ▸ op_ltD room
theorem pi_listK {tg l : Expr} {tl : TE} (e : X.K = K) (h : PE X l tl) : PI X tg l (iList K tl) := e ▸ pi_list h
theorem pi_tupK {tg l : Expr} {tl : TE} (e : X.K = K) (h : PE X l tl) : PI X tg l (iTup K tl) := e ▸ pi_tup h
end
/-! ### lists of ints cut and compared -/
theorem cut_take {α : Type} (f : α → V) (xs : List α) (n : Nat) : cutV (xs.map f) none (some (n : Int)) = (xs.take n).map f := by
  unfold cutV
  rw [HT.sIx_nat, HT.sIx_none, List.drop_zero, Nat.sub_zero, List.length_map, List.map_take]
  by_cases h : n ≤ xs.length
  · rw [Nat.min_eq_left h]
  · rw [Nat.min_eq_right (by omega), List.take_of_length_le (by rw [List.length_map]; exact Nat.le_refl _), List.take_of_length_le (by rw [List.length_map]; omega)]
theorem dp_ints' {K : PySem.W.Frag} {H : Hp} : ∀ ns : List Int, DpAll K H (ns.map V.int) (ns.map PyData.int)
  | [] => .nil
  | n :: r => .cons (.int n) (dp_ints' r)
theorem depth_ints' : ∀ ns : List Int, PyData.depthAll (ns.map PyData.int) = 0
  | [] => rfl
  | n :: r => by
    show max 0 (PyData.depthAll (r.map PyData.int)) = 0
    rw [depth_ints' r]
    rfl
theorem shaped_ints (ns : List Int) : SeqAt.shaped (.list (ns.map PyData.int)) = true := by
  show (PyData.canLayAll0 (ns.map PyData.int) && decide (PyData.depthAll (ns.map PyData.int) + 1 ≤ 64)) = true
  rw [canLay_ints, depth_ints']
  rfl
theorem shaped_intsT (ns : List Int) : SeqAt.shaped (.tuple (ns.map PyData.int)) = true := by
  show (PyData.canLayAll0 (ns.map PyData.int) && decide (PyData.depthAll (ns.map PyData.int) + 1 ≤ 64)) = true
  rw [canLay_ints, depth_ints']
  rfl
/-- two lists of ints, == and != -/
theorem eq_lists {K : PySem.W.Frag} {H : Hp} {a b : Addr} {ns ms : List Int} {Q : VK} (ha : SqL K H a (ns.map V.int)) (hb : SqL K H b (ms.map V.int)) (q : Q (.bl (decide (ns = ms))) H) : rEqD K (.ref a) (.ref b) H Q := by
  refine ⟨_, _, .lst ha (dp_ints' ns), .lst hb (dp_ints' ms), shaped_ints ns, shaped_ints ms, ?_⟩
  rw [PyData.eqv, eqv_ints]
  exact q
theorem ne_lists {K : PySem.W.Frag} {H : Hp} {a b : Addr} {ns ms : List Int} {Q : VK} (ha : SqL K H a (ns.map V.int)) (hb : SqL K H b (ms.map V.int)) (q : Q (.bl (!decide (ns = ms))) H) : rNeD K (.ref a) (.ref b) H Q := by
  refine ⟨_, _, .lst ha (dp_ints' ns), .lst hb (dp_ints' ms), shaped_ints ns, shaped_ints ms, ?_⟩
  rw [PyData.eqv, eqv_ints]
  exact q
theorem lt_lists {K : PySem.W.Frag} {H : Hp} {a b : Addr} {ns ms : List Int} {Q : VK} (ha : SqL K H a (ns.map V.int)) (hb : SqL K H b (ms.map V.int)) (q : Q (.bl (HT.lexLt ns ms)) H) : rLtD K (.ref a) (.ref b) H Q := by
  refine ⟨_, _, .lst ha (dp_ints' ns), .lst hb (dp_ints' ms), ?_, fun z => (nomatch z), ?_, ?_⟩
  · rw [PySem.W.alike]
    exact alike_ints ns ms
  · show PyData.depthAll (ns.map .int) + 1 ≤ 60
    rw [depth_ints']
    decide
  · rw [lt_ints]
    exact q
end Sb

/-! Sb, part T: a try with several clauses «except C as e». -/
namespace Sb
open PySem PySem.Spec PyProof.Rows L2
/-- a clause: its class, the slot of its name, its suite -/
structure Cl where
  c : Value
  i : Nat
  ts : Addr → Value → Option Addr → TS
/-- behind a suite the name is gone -/
def Ends.less (D : Ends) (i : Nat) : Ends := ⟨fun σ H => D.nx (σ.set i none) H, D.rt, fun σ H => D.bk (σ.set i none) H, fun σ H => D.ct (σ.set i none) H⟩
/-- what the clauses wish of an error: the first one that fits runs -/
def wCl (K : PySem.W.Frag) (Wout : WX) (D : Ends) : List Cl → WX
  | [] => Wout
  | k :: r => fun cls d σ H => ∃ b, PySem.W.exmOne K cls k.c = some b ∧ (b = true → ∀ a, H a = none → k.ts a cls d (Ends.less D k.i) (σ.set k.i (some (.ref a))) H) ∧ (b = false → wCl K Wout D r cls d σ H)
inductive Cls_ (X : Cx) : List ExceptHandler → List Cl → Prop
  | nil : Cls_ X [] []
  | cons (c : Value) (i : Nat) {ts : Addr → Value → Option Addr → TS} {x n : Str} {st : Stmt} {su : List Stmt} {np pos : Pos} {hs : List ExceptHandler} {l : List Cl} (slot : X.N[i]? = some n) (loc : X.env.kindOf n = some .local) (nm : Names X x c)
      (run : ∀ (a : Addr) (oe : Obj) (cls : Value) (d : Option Addr) (pn : List (Addr × Obj)), Zc cls d oe → (∃ vs, oe.data = .fields vs) → PSs (X.suite a ((a, oe) :: pn)) (st :: su) (ts a cls d))
      (r : Cls_ X hs l) : Cls_ X (.ExceptHandler (some (.Name x np)) (some n) (st :: su) pos :: hs) (⟨c, i, ts⟩ :: l)

section
variable {X : Cx} {pins : List (Addr × Obj)} {σ : L2.St} {H : Hp} {a : Addr} {B : Heap} {sI s' : Shared} {cls : Value} {d : Option Addr} {D : Ends} {Wout : WX} {h3 : Heap}
/-- an error has landed: the clauses are asked one after another -/
theorem clauses_run (ok : X.Ok) (hs : X.stack = X.env :: X.outer) (hf : X.env.frame = some X.env.locals) (nd : X.N.Nodup) (tk : Takes X Wout)
    (J : Inv X pins σ H sI) (nb : ∀ b o, sI.heap.get? b = some o → b ∉ frs X.stack → B.get? b = some o) (up : sI.heap.UpToSlots s'.heap) (os : s'.os = sI.os) (ag : AllBare s'.gens) (na : H a = none)
    (fl : HandSPX.FlyingZ B (X.env :: X.outer) a (Zc cls d) h3) (up3 : s'.heap.UpToSlots h3) :
    ∀ {hds : List ExceptHandler} {l : List Cl}, Cls_ X hds l → wCl X.K Wout D l cls d σ H → wpAny (model X.prog X.w) X.A (handleBy (.ref a) X.env hds) (SP X pins D) X.xe { s' with heap := h3 } := by
  have J3 : Inv X pins σ H { s' with heap := h3 } := J.landed nb fl.1 (up.trans up3) os ag
  obtain ⟨o3, v3, g3, z3, d3⟩ := fl.there
  have out : a ∉ frs (X.env :: X.outer) := by
    intro m
    obtain ⟨_, o', e', no⟩ := fl.2.2.1.mem m
    cases g3.symm.trans e'
    exact no _ d3
  have nL : a ≠ X.env.locals := by
    intro z
    exact out (List.mem_filterMap.mpr ⟨X.env, List.mem_cons_self, by rw [hf, z]⟩)
  have nF : a ∉ X.fs := by
    intro m
    obtain ⟨e, he, q⟩ := List.mem_filterMap.mp m
    exact out (List.mem_filterMap.mpr ⟨e, List.mem_cons_of_mem _ he, q⟩)
  have S3 := J3.suite g3 d3 na nL nF
  intro hds l hk
  induction hk with
  | nil =>
    intro w
    apply wpAny_handleBy_nil
    obtain ⟨_, _, _, oe, vs, T, oT, _, he, _, hd, h1, _⟩ := id fl
    have fin : wpAny (model X.prog X.w) X.A (setFlight (.ref a) X.env.frame) (fun _ s4 => wpAny (model X.prog X.w) X.A (throw (.ref a) : Sem Flow) (SP X pins D) X.xe s4) X.xe { s' with heap := h3 } := by
      rw [hf]
      apply HandSPX.setFlight_upZ fl
      intro h4 hh4 up4
      exact wpAny_throw (tk _ _ ⟨a, B, sI, pins, σ, H, cls, d, rfl, J, nb, (up.trans up3).trans up4, .inr (.inr (by rw [hs]; exact hh4)), na, os, ag, w⟩)
    unfold PySem.passOn
    apply wpAny_bind
    apply wpAny_field he hd h1
    rw [if_neg (show ¬ ((Value.ref T == Value.none) = true) by simp)]
    first
      | exact wpAny_bind (wpAny_pure (wpAny_bind fin))
      | exact wpAny_bind fin
  | cons c i slot loc nm run r ih =>
    rename_i ts x n st su np pos hs2 l2
    intro w
    obtain ⟨b, eb, yes, no⟩ := w
    apply wpAny_handleBy_cons _ (by intro q; cases q)
    apply codeAny_handlers_test
    have ty : PySem.W.Looks (model X.prog X.w) h3 (typeOf (.ref a)) cls := fun A Q E s kp q => wpAny_typeOf_ref (kp _ _ g3) (by rw [z3.1]; exact q)
    have fits := PySem.W.exm_one (M := model X.prog X.w) J3.kIn ty eb
    have named : ∀ {Q : Value → Shared → Prop} {E : Value → Shared → Prop}, Q c { s' with heap := h3 } → wpAny (model X.prog X.w) (X.A.mark (some (.ref a))) (eval (.Name x np) X.env) Q E { s' with heap := h3 } := by
      intro Q E q
      obtain ⟨gl, nd', g | ⟨g, bl, nn⟩⟩ := nm
      · exact ld_glob (X := X.suite a ((a, o3) :: (X.pn ++ pins))) S3 gl g q nd'
      · exact ld_blt (X := X.suite a ((a, o3) :: (X.pn ++ pins))) S3 gl g bl q nn nd'
    apply named
    apply fits.here
    cases b with
    | false => exact ih (no rfl)
    | true =>
      apply codeAny_handlers_suite_as
      apply HandSPX.lands_againZ fl
      intro h4 fl4 up4
      have J4 : Inv X pins σ H { s' with heap := h4 } := J.landed nb fl4.1 ((up.trans up3).trans up4) os ag
      obtain ⟨o4, v4, g4, z4, d4⟩ := fl4.there
      have S4 := J4.suite g4 d4 na nL nF
      refine store_ok (X := X.suite a ((a, o4) :: (X.pn ++ pins))) (v := .ref a) S4 nd slot (.inl loc) rfl ?_ (.inr loc)
      intro s5 S5
      refine wpAny_mono ((run a o4 cls d (X.pn ++ pins) z4 ⟨_, d4⟩).run [] s5 _ H _ S5 (yes rfl a na)) ?_ fun _ _ z => z.elim
      intro f s6 sp
      have gone : ∀ {σ6 : L2.St} {H6 : Hp} {Q : Shared → Prop}, Inv (X.suite a ((a, o4) :: (X.pn ++ pins))) [] σ6 H6 s6 → (∀ s7, Inv X pins (σ6.set i none) H6 s7 → Q s7) →
          wpAny (model X.prog X.w) X.A (do bindName X.env n .none; unbindBehindTheSuite X.env n pos) (fun _ s7 => Q s7) X.xe s6 := fun S6 hq => gone_ok (S6.unsuite ok) nd slot loc hq
      match f, sp with
      | .next, ⟨_, _, S6, q6⟩ => exact gone S6 fun s7 J7 => ⟨_, _, J7, q6⟩
      | .brk, ⟨_, _, S6, q6⟩ => exact gone S6 fun s7 J7 => ⟨_, _, J7, q6⟩
      | .cont, ⟨_, _, S6, q6⟩ => exact gone S6 fun s7 J7 => ⟨_, _, J7, q6⟩
      | .ret u, ⟨_, _, _, S6, r6, q6⟩ => exact gone S6 fun s7 J7 => ⟨_, _, _, J7, r6, q6⟩
end
section
variable {X : Cx} {body : List Stmt} {h0 : ExceptHandler} {hds : List ExceptHandler} {l : List Cl} {pos : Pos} {tb : WX → TS} {Wout : WX}
/-- try: .. except C as e: .. except D as e: .. -/
theorem ps_try_cl (hs : X.stack = X.env :: X.outer) (hf : X.env.frame = some X.env.locals) (nd : X.N.Nodup) (tk : Takes X Wout)
    (hb : ∀ (W : WX) (pn : List (Addr × Obj)) (xe : Value → Shared → Prop), Takes (X.tr pn xe) W → PassesOwn (model X.prog X.w) X.A X.env xe → PSs (X.tr pn xe) body (tb W))
    (cl : Cls_ X (h0 :: hds) l) : PS X (.Try body (h0 :: hds) [] [] pos) (fun D σ H => tb (wCl X.K Wout D l) D σ H) := by
  refine ⟨fun pins s σ H D I h => ?_⟩
  have ok := I.ok
  apply wpAny_Try_except
  refine wpAny_mono ((hb (wCl X.K Wout D l) (X.pn ++ pins) (fun e s1 => wpAny (model X.prog X.w) X.A (noteFrame e X.env) (fun _ s2 => wpAny (model X.prog X.w) X.A (setFlight e none) (fun _ s3 =>
    wpAny (model X.prog X.w) X.A (handleBy e X.env (h0 :: hds)) (SP X pins D) X.xe s3) X.xe s2) X.xe s1) ?_ PassesOwn.looking).run [] s σ H D (I.toTry _) h) ?_ fun _ _ z => z
  · rintro u s' ⟨a, B, sI, _, σ', H', cls, d, rfl, J', nb, up, sky, na, os, ag, w⟩
    show wpAny (model X.prog X.w) X.A (noteFrame (.ref a) X.env) _ _ _
    refine Sky.land Zc.steady (by rw [ok.frames, hs]) hf (hs ▸ sky) ?_
    intro h3 fl3 up3
    exact clauses_run ok hs hf nd tk (J'.ofTry ok) nb up os ag na fl3 up3 cl w
  · intro f s1 sp
    match f, sp with
    | .next, ⟨σ', H', J', q⟩ => exact wpAny_execs_nil ⟨σ', H', J'.ofTry ok, q⟩
    | .brk, ⟨σ', H', J', q⟩ => exact ⟨σ', H', J'.ofTry ok, q⟩
    | .cont, ⟨σ', H', J', q⟩ => exact ⟨σ', H', J'.ofTry ok, q⟩
    | .ret u, ⟨v, σ', H', J', r, q⟩ => exact ⟨v, σ', H', J'.ofTry ok, r, q⟩
end
/-- e.f in a suite, the written part by its own name -/
theorem pe_xfK {X : Cx} {K : PySem.W.Frag} {a C : Addr} {oe : Obj} {cls : Value} {d : Option Addr} {pn : List (Addr × Obj)} {e : Expr} {te : TE} {pos : Pos} {n : Str} (T : XfC K C) (hno : PySem.W.findIn K (.ref C) n = some none)
    (hz : Zc cls d oe) (hf : ∃ vs, oe.data = .fields vs) (he : PE (X.suite a ((a, oe) :: pn)) e te) (eK : X.K = K := by rfl) (hb : attributeBase e n X.env (eval e X.env) = eval e X.env := by rfl) :
    PE (X.suite a ((a, oe) :: pn)) (.Attribute e n pos) (tXf a cls d C n te) := by
  subst eK
  exact pe_xf T hno hz hf he hb
end Sb

/-! Sb, part X: the package's errors as values: made, their fields read, asked by isinstance. -/
namespace Sb
open PySem PySem.Spec PyProof.Rows L2
/-- at a: an error of the class at C with the field f = v, not raised -/
def Made (H : Hp) (a C : Addr) (f : Str) (v : V) : Prop := ∃ d, H a = some (exo a C (some d)) ∧ H d = some (exd d [(f, v)])
theorem Made.same {H H' : Hp} {a C : Addr} {f : Str} {v : V} (h : Made H a C f v) (s : Same H H') : Made H' a C f v := by
  obtain ⟨d, h1, h2⟩ := h
  exact ⟨d, s _ _ h1, s _ _ h2⟩
/-- C(e) as a value -/
def tMkV (C : Addr) (f : Str) (te : TE) : TE := fun σ H Q => te σ H fun v H1 => ∀ (a : Addr) (H' : Hp), H1 a = none → Same H1 H' → Made H' a C f v → Q (.ref a) H'
section
variable {X : Cx} {e : Expr} {te : TE} {p pos : Pos} {x f : Str}
theorem pe_mkV {k : Nat} {C : Addr} (M : Err X.prog X.w X.K X.mg X.base x f) (isC : He.ga X.K x = C) (room : Room (k + 2) X.A) (gl : Gl X x) (he : PE X e te)
    (nd : (x == ("__debug__" : Str)) = false := by decide) (st : starEach [e] X.env = (false, eval e X.env) :: starEach [] X.env := by rfl) (pl : (backTo pos (starEach [] X.env)).any (·.1) = false := by rfl) :
    PE X (.Call (.Name x p) [e] [] pos) (tMkV C f te) := by
  subst isC
  obtain ⟨g, T, fI, fd, ps, iC, tI, F, bnd⟩ := M
  obtain ⟨nm, q, N, bs, bm, sn, sub, ab, col, dd, k0, k1, k2, k3, k5, hC, hbm⟩ := T.oex.cls
  refine ⟨fun pins s σ H Q I h => ?_⟩
  have as := (pa_cons (t := tNil) (pe_less he) pa_nil st).run pos pins s σ H (fun vs H1 => ∃ v, vs = [v] ∧ ∀ (a : Addr) (H' : Hp), H1 a = none → Same H1 H' → Made H' a (He.ga X.K x) f v → Q (.ref a) H') I ⟨_, h, fun v H1 z => ⟨v, rfl, z⟩⟩
  refine wpAny_Call_Name_kw (ld_glob I gl g (PySem.W.callWith_K (h₀ := X.base) I.ok.mod.kin T.oex.kC (thn as ?_) st pl) nd)
  rintro us s1 ⟨vs, H1, J, rv, v, rfl, want⟩
  refine ⟨J.kIn, ?_⟩
  obtain ⟨u, rfl, r1⟩ := vals1 rv
  obtain ⟨hp, g1, dr, tk, os⟩ := s1
  have le : hp.objs.size ≤ hp.objs.size + 1 := Nat.le_succ _
  have free : H1 (hp.objs.size + 1) = none := J.hok.fresh le
  have grow : ∀ b o, hp.get? b = some o → ((hp.push (PySem.W.kdv_tup [u])).push (PySem.HandSPX.excO (He.ga X.K x) hp.objs.size)).get? b = some o := fun b o e => Heap.get?_push_of_some _ (Heap.get?_push_of_some _ e)
  have here : ((hp.push (PySem.W.kdv_tup [u])).push (PySem.HandSPX.excO (He.ga X.K x) hp.objs.size)).get? (hp.objs.size + 1) = some (PySem.HandSPX.excO (He.ga X.K x) hp.objs.size) := by heap_get
  have I2 : Inv X pins σ (upd H1 (hp.objs.size + 1) (exo (hp.objs.size + 1) (He.ga X.K x) none)) ⟨(hp.push (PySem.W.kdv_tup [u])).push (PySem.HandSPX.excO (He.ga X.K x) hp.objs.size), g1, dr, tk, os⟩ :=
    J.laid (t' := tk) (a := hp.objs.size + 1) (o := exo (hp.objs.size + 1) (He.ga X.K x) none) (h' := (hp.push (PySem.W.kdv_tup [u])).push (PySem.HandSPX.excO (He.ga X.K x) hp.objs.size)) grow le (exo_ok here)
  have r2 : Vals [V.ref (hp.objs.size + 1), v] [Value.ref (hp.objs.size + 1), u] := .cons rfl (.cons r1 .nil)
  have sp : spInit (He.ga X.K x) f [.ref (hp.objs.size + 1), v] (upd H1 (hp.objs.size + 1) (exo (hp.objs.size + 1) (He.ga X.K x) none)) (fun z H2 => z = .non ∧ Q (.ref (hp.objs.size + 1)) H2) (fun _ _ _ => False) := by
    refine ⟨hp.objs.size + 1, v, rfl, upd_same, fun dx hd ne => ⟨rfl, want _ _ free ?_ ⟨dx, upd_same, ?_⟩⟩⟩
    · intro b o e
      have hd1 : H1 dx = none := by rwa [upd_ne ne] at hd
      rw [upd_ne (ne_of_none e free), upd_ne (ne_of_none e hd1), upd_ne (ne_of_none e free)]
      exact e
    · rw [upd_ne ne, upd_same]
  have n : ([Value.ref (hp.objs.size + 1), u] ++ ([] : List Value)).length = ps.length := by
    have e := F.len _ _ _ _ sp
    simpa using e
  have one : ([u] : List Value).length ≤ sizeLine := by
    rw [sizeLine_eq]
    exact (by decide : 1 ≤ 16777216)
  refine wpAny_call (PySem.HandSPX.call_own PySem.F.excBase_ValueError (fun Y => PySem.HandSPX.refsVE_contains Y bm hbm) (J.kIn _ _ hC) (PySem.W.looks_findIn J.kIn iC) (fun self => PySem.W.bind_fn J.kIn self tI) one ?_)
  have room1 : Room 1 (X.A.under (.builtin "type.__call__" ⟨.ref (He.ga X.K x) :: [u], []⟩)) := (room.mono (by omega : 2 ≤ k + 2)).make (He.ga X.K x) [u] []
  refine codeAny_mono (F.run _ X.stack _ _ ⟨[Value.ref (hp.objs.size + 1), u], []⟩ [Value.ref (hp.objs.size + 1), u] _ _ (fun _ _ _ => False) room1 (I2.env0.make (He.ga X.K x) [u] []) (by simpa using bnd _ [Value.ref (hp.objs.size + 1), u] I2.kIn n) r2 sp) ?_
  intro r s' z
  match r, z with
  | .error er, z => exact z.elim
  | .ok .next, z => exact z.elim
  | .ok .brk, z => exact z.elim
  | .ok .cont, z => exact z.elim
  | .ok (.ret u'), z =>
    obtain ⟨v', H2, J2, r', rfl, q2⟩ := I2.after z
    exact ⟨r', .ref (hp.objs.size + 1), H2, J2, rfl, q2⟩
end

/-! ### its fields, its classes -/
/-- e.f, e such an error -/
def tXfV (K : PySem.W.Frag) (f : Str) (te : TE) : TE := fun σ H Q => te σ H fun x H1 => ∃ (a C : Addr) (v : V), x = .ref a ∧ Made H1 a C f v ∧ XfC K C ∧ PySem.W.findIn K (.ref C) f = some none ∧ Q v H1
theorem inst_of {X : Cx} {pins : List (Addr × Obj)} {σ : L2.St} {H : Hp} {s : Shared} {a C : Addr} {f : Str} {v : V} (I : Inv X pins σ H s) (h : Made H a C f v) :
    ∃ (oe : Obj) (od : Obj) (u : Value), PySem.W.InstAt s.heap a oe C (some od) ∧ RelV v u ∧ PySem.W.lookIn f od = some (some u) := by
  obtain ⟨d, h1, h2⟩ := h
  obtain ⟨t1, ho⟩ := exo_at I.hok h1
  obtain ⟨mA, hns, rel⟩ := exd_at I.hok h2
  obtain ⟨od, hd, hl⟩ := lookIn_ns hns
  have l : List.lookup f [(f, v)] = some v := by simp [List.lookup]
  obtain ⟨u, hu, ru⟩ := RelO.some_of (v := v) (o := mA f) (by rw [← l]; exact rel f)
  exact ⟨_, od, u, ⟨ho, rfl, rfl, hd⟩, ru, by rw [hl, hu]⟩
theorem pe_xfV {X : Cx} {K : PySem.W.Frag} {e : Expr} {te : TE} {pos : Pos} {f : Str} (eK : X.K = K) (he : PE X e te) (hb : attributeBase e f X.env (eval e X.env) = eval e X.env := by rfl) : PE X (.Attribute e f pos) (tXfV K f te) := by
  subst eK
  refine ⟨fun pins s σ H Q I h => attr_of hb (thn (he.run pins s σ H _ I h) ?_)⟩
  rintro u s1 ⟨x, H1, J, rx, a, C, v, rfl, m, T, no, q⟩
  cases rx
  obtain ⟨oe, od, u, inst, ru, lk⟩ := inst_of J m
  exact HandSPX.exc_get J.kIn inst T.ga T.gg T.exC (PySem.W.findObj_own T.hdC no rfl lk) (handed_of ru) ⟨v, H1, J.tok _, ru, q⟩
/-- isinstance(e, c), e such an error -/
def rIsV (K : PySem.W.Frag) : List V → Hp → VK → Prop := fun xs H Q => ∃ (a C : Addr) (f : Str) (v c : V) (cv : Value) (b : Bool), xs = [.ref a, c] ∧ Made H a C f v ∧ ErrC K C ∧ ClsV c cv ∧ PySem.W.kitOne K (.ref C) cv = some b ∧ Q (.bl b) H
theorem call_isV {X : Cx} {K : PySem.W.Frag} (eK : X.K = K) : CallR X (.builtin "isinstance") (rIsV K) := by
  subst eK
  intro pins s σ H _ us Q I r h
  obtain ⟨a, C, f, v, c, cv, b, rfl, m, T, k, e, q⟩ := h
  obtain ⟨u1, u2, rfl, r1, r2⟩ := vals2 r
  cases r1
  have e2 := k.eq r2
  subst e2
  obtain ⟨oe, od, u, inst, _, _⟩ := inst_of I m
  exact PySem.W.kia_one (PySem.W.kitx_exc T.cl T.xf.ga T.xf.gg T.xf.exC T.ha T.hn T.ht T.hm) I.kIn inst e (fun z => nomatch z) fun tk => ⟨.bl b, H, I.kept (t' := tk) fun _ _ z => z, rfl, q⟩
/-! ### all errors of the package -/
def errNames : List Str := ["BadNumber", "BadValue", "WrongByte", "Unfinished", "TooDeep", "BadItem", "BadPath", "BadDeed", "DuplicateKey", "BadShape", "UnknownName", "Circular", "Ambiguous", "Barren", "TooLong", "NoDocument"]
def errFields : List Str := ["number", "path", "at", "at", "reached", "at", "at", "at", "at", "word", "name", "name", "name", "name", "debt", "number"]
/-- none is another one -/
def pairsB (K : PySem.W.Frag) : Bool := errNames.zipIdx.all fun p => errNames.zipIdx.all fun r => decide (PySem.W.kitOne K (.ref (He.ga K p.1)) (.ref (He.ga K r.1)) = some (p.2 == r.2))
theorem pairs_ok {K : PySem.W.Frag} (h : pairsB K = true) {j k : Nat} {x y : Str} (hx : errNames[j]? = some x) (hy : errNames[k]? = some y) : PySem.W.kitOne K (.ref (He.ga K x)) (.ref (He.ga K y)) = some (j == k) := by
  have mx : (x, j) ∈ errNames.zipIdx := List.mk_mem_zipIdx_iff_getElem?.mpr hx
  have my : (y, k) ∈ errNames.zipIdx := List.mk_mem_zipIdx_iff_getElem?.mpr hy
  exact of_decide_eq_true (List.all_eq_true.mp (List.all_eq_true.mp h _ mx) _ my)
/-- each is an error of the package and a ValueError -/
def overB (K : PySem.W.Frag) : Bool := errNames.all fun x => errB K (He.ga K x) && decide (PySem.W.kitOne K (.ref (He.ga K x)) (.ref (He.ga K "ShortestBytesError")) = some true) && decide (PySem.W.kitOne K (.ref (He.ga K x)) (.type "ValueError") = some true)
theorem over_ok {K : PySem.W.Frag} (h : overB K = true) {j : Nat} {x : Str} (hx : errNames[j]? = some x) : ErrC K (He.ga K x) ∧ PySem.W.kitOne K (.ref (He.ga K x)) (.ref (He.ga K "ShortestBytesError")) = some true ∧ PySem.W.kitOne K (.ref (He.ga K x)) (.type "ValueError") = some true := by
  have q := List.all_eq_true.mp h x (List.mem_of_getElem? hx)
  simp only [Bool.and_eq_true, decide_eq_true_eq] at q
  exact ⟨errB_ok q.1.1, q.1.2, q.2⟩
theorem names_16 : errNames.length = 16 := rfl
end Sb

/-! Sb, part N: the head's facts over a small part of the heap, followed from some names alone. -/
namespace Sb
open PySem PySem.Spec PyProof.Rows L2

def growN (g : Addr → Option Obj) : Nat → List Addr → List Addr
  | 0, as => as
  | n + 1, as => growN g n (He.growD g as)
/-- the module's table, the interpreter's own, and what these names reach in n steps -/
def named (xs : List Str) (n : Nat) (g : Addr → Option Obj) : List Addr :=
  mainGlobals :: growN g n (cStatics :: xs.map (He.ga (He.frG g [mainGlobals])))
def lookP (pick : (Addr → Option Obj) → List Addr) (fs : List Fb) (fn : List He.DefD) (g : Addr → Option Obj) : He.AlD := obsF fs fn (He.frG g (pick g))
def hookP (pick : (Addr → Option Obj) → List Addr) (fs : List Fb) (fn : List He.DefD) : PySem.W.Hook :=
  ⟨He.AlD, fun s => lookP pick fs fn s.heap.get?, fun _ => He.valD fn, fun _ h => ∃ K : PySem.W.Frag, K.In h ∧ SaysF fs fn K, fun _ _ e => ⟨_, He.frG_in, e⟩,
    fun _ _ _ z more => z.imp fun _ c => ⟨PySem.W.Frag.In.keeps c.1 more, c.2⟩⟩
theorem lookP_eq {pick : (Addr → Option Obj) → List Addr} {fs : List Fb} {fn : List He.DefD} {g : Addr → Option Obj} {s : Shared} (h : ∀ a, g a = s.heap.get? a) : lookP pick fs fn g = (hookP pick fs fn).obs s := by
  cases funext h
  rfl
end Sb

set_option maxHeartbeats 4000000
/-! Sb, part D0: dicts whose keys are numbers, truth values, None, texts and tuples of such, mixed: the model's own steps. -/
namespace Sb
open PySem PySem.Spec PyProof.Rows L2

/-- a row of a dict: its key up to ==, the key's value, the value -/
abbrev Rw := NestedKey × Value × Value
def entN (w : World) (x : Rw) : DictEntry := ⟨x.1.hash w, x.2.1, x.2.2⟩
structure Keyed (w : World) (h : Heap) (es : Array DictEntry) (xs : List Rw) : Prop where
  ents : es.toList = xs.map (entN w)
  keys : ∀ x ∈ xs, NestedIs h x.1 x.2.1
  low : ∀ x ∈ xs, x.1.depth ≤ 8
  nd : (xs.map (·.1)).Nodup
section
variable {w : World} {h : Heap} {es : Array DictEntry} {xs : List Rw}
theorem Keyed.get (k : Keyed w h es xs) (j : Nat) : es[j]? = (xs[j]?).map (entN w) := by
  rw [← Array.getElem?_toList, k.ents, List.getElem?_map]
theorem Keyed.size (k : Keyed w h es xs) : es.size = xs.length := by
  rw [← Array.length_toList, k.ents, List.length_map]
theorem Keyed.mem (k : Keyed w h es xs) {e : DictEntry} (m : e ∈ es) : ∃ x ∈ xs, e = entN w x := by
  have : e ∈ xs.map (entN w) := k.ents ▸ Array.mem_toList_iff.mpr m
  obtain ⟨x, hx, z⟩ := List.mem_map.mp this
  exact ⟨x, hx, z.symm⟩
theorem Keyed.one (k : Keyed w h es xs) {i j : Nat} {x y : Rw} (a : xs[i]? = some x) (b : xs[j]? = some y) (e : x.1 = y.1) : i = j := by
  have a' : (xs.map (·.1))[i]? = some x.1 := by rw [List.getElem?_map, a]; rfl
  have b' : (xs.map (·.1))[j]? = some x.1 := by rw [List.getElem?_map, b, e]; rfl
  exact (List.getElem?_inj (List.getElem?_eq_some_iff.mp a').1 k.nd).mp (a'.trans b'.symm)
end
/-- the places whose hash is n -/
abbrev spots (es : Array DictEntry) (n : Int) : List Nat := placesWithHash es.size (fun i => es[i]?.map (·.hash)) n
theorem spots_of {w : World} {h : Heap} {es : Array DictEntry} {xs : List Rw} {k : NestedKey} (kd : Keyed w h es xs) {j : Nat} {x : Rw} (a : xs[j]? = some x) (e : x.1 = k) : j ∈ spots es (k.hash w) := by
  refine List.mem_filter.mpr ⟨List.mem_range.mpr ?_, ?_⟩
  · rw [kd.size]
    exact (List.getElem?_eq_some_iff.mp a).1
  · show (Option.map (fun x => x.hash) es[j]? == some (NestedKey.hash w k)) = true
    rw [kd.get, a, ← e]
    simp [entN]
section
variable {prog : Program} {w : World} {A : Around} {E : Value → Shared → Prop} {s : Shared}
theorem quiet_all {key : Value} {stored : List Value} {k : NestedKey} {Q : Bool → Shared → Prop} (hk : NestedIs s.heap k key) (h8 : k.depth ≤ 8)
    (hst : ∀ v ∈ stored, ∃ k', NestedIs s.heap k' v ∧ k'.depth ≤ 8) (q : Q false s) : wpAny (model prog w) A (tableMayTell key stored) Q E s := by
  unfold tableMayTell
  split
  · exact wpAny_pure q
  · refine wpAny_bind (quiet_key k key 8 s hk h8 A E _ ?_)
    simp only [Bool.not_true, Bool.false_eq_true, if_false]
    refine wpAny_bind (wpAny_forIn_list _ (fun rest r s' => s' = s ∧ r = (none, ()) ∧ ∀ v ∈ rest, ∃ k', NestedIs s.heap k' v ∧ k'.depth ≤ 8) _ ?_ ?_ _ _ ⟨rfl, rfl, hst⟩)
    · rintro v rest r s' ⟨rfl, rfl, all⟩
      obtain ⟨k', n, d⟩ := all v List.mem_cons_self
      refine wpAny_bind (quiet_key k' v 8 s' n d A E _ ?_)
      simp only [Bool.not_true, Bool.false_eq_true, if_false]
      exact wpAny_pure ⟨rfl, rfl, fun u m => all u (List.mem_cons_of_mem _ m)⟩
    · rintro r s' ⟨rfl, rfl, _⟩
      exact wpAny_pure q
theorem wp_ite {α : Type} {c : Prop} [Decidable c] {x y : Sem α} {Q : α → Shared → Prop} (h1 : c → wpAny (model prog w) A x Q E s) (h2 : ¬ c → wpAny (model prog w) A y Q E s) : wpAny (model prog w) A (if c then x else y) Q E s := by
  split
  · exact h1 (by assumption)
  · exact h2 (by assumption)
theorem wp_iteB {α β : Type} {c : Prop} [Decidable c] {x y : Sem α} {k : α → Sem β} {Q : β → Shared → Prop} (h1 : c → wpAny (model prog w) A (x >>= k) Q E s) (h2 : ¬ c → wpAny (model prog w) A (y >>= k) Q E s) : wpAny (model prog w) A ((if c then x else y) >>= k) Q E s := by
  split
  · exact h1 (by assumption)
  · exact h2 (by assumption)
theorem eq_nk {x y : NestedKey} {a b : Value} {Q : Bool → Shared → Prop} (hu : A.units + 8 < cLine) (ra : NestedIs s.heap x a) (rb : NestedIs s.heap y b) (dx : x.depth ≤ 8) (q : Q (decide (x = y)) s) :
    wpAny (model prog w) A (eqBool a b) Q E s :=
  eqAt_key x y A s a b ra rb (by omega) _ _ _ _ (by rw [← NestedKey.decide_eq]; exact q)
/-- where the key k stands -/
theorem find_nk {d : Addr} {key : Value} {o : Obj} {es : Array DictEntry} {ep : Nat} {xs : List Rw} {k : NestedKey} {Q : Option Nat → Shared → Prop} (hu : A.units + 8 < cLine)
    (hk : NestedIs s.heap k key) (h8 : k.depth ≤ 8) (ho : s.heap.get? d = some o) (hd : o.data = .dict es ep) (kd : Keyed w s.heap es xs)
    (hno : (∀ x ∈ xs, x.1 ≠ k) → Q none s) (hso : ∀ (j : Nat) (x : Rw), xs[j]? = some x → x.1 = k → Q (some j) s) : wpAny (model prog w) A (dictFind d key (k.hash w)) Q E s := by
  have hst : ∀ v ∈ (spots es (k.hash w)).filterMap (fun i => es[i]?.map (·.key)), ∃ k', NestedIs s.heap k' v ∧ k'.depth ≤ 8 := by
    intro v hv
    obtain ⟨i, _, hi⟩ := List.mem_filterMap.mp hv
    cases hx : xs[i]? with
    | none => rw [kd.get, hx] at hi; cases hi
    | some x =>
      rw [kd.get, hx] at hi
      cases hi
      have m := List.mem_of_getElem? hx
      exact ⟨x.1, kd.keys x m, kd.low x m⟩
  have none_of : ∀ pre : List Nat, pre = spots es (k.hash w) → (∀ i ∈ pre, ∀ x, xs[i]? = some x → x.1 ≠ k) → Q none s := by
    rintro _ rfl hp
    refine hno fun x m e => ?_
    obtain ⟨j, hj⟩ := List.mem_iff_getElem?.mp m
    exact hp j (spots_of kd hj e) x hj e
  have row_of : ∀ (i : Nat) (rest pre : List Nat), pre ++ i :: rest = spots es (k.hash w) → ∃ x, xs[i]? = some x ∧ es[i]? = some (entN w x) ∧ ((entN w x).hash == k.hash w) = true := by
    intro i rest pre e
    have m : i ∈ spots es (k.hash w) := by rw [← e]; simp
    obtain ⟨m1, m2⟩ := List.mem_filter.mp m
    dsimp only at m2
    cases hx : xs[i]? with
    | none => rw [kd.get, hx] at m2; simp at m2
    | some x =>
      refine ⟨x, rfl, by rw [kd.get, hx]; rfl, ?_⟩
      rw [kd.get, hx] at m2
      simpa [entN] using m2
  -- the walk where all keys are carried by value
  have plain : wpAny (model prog w) A (dictWalkPlain d key (k.hash w) es (spots es (k.hash w))) Q E s := by
    unfold dictWalkPlain
    refine wpAny_bind (wpAny_forIn_list _ (fun rest b s' => s' = s ∧ b = (none, ()) ∧ ∃ pre, pre ++ rest = spots es (k.hash w) ∧ ∀ i ∈ pre, ∀ x, xs[i]? = some x → x.1 ≠ k) _ ?_ ?_ _ _
      ⟨rfl, rfl, [], rfl, fun _ z => nomatch z⟩)
    · rintro i rest b s' ⟨rfl, rfl, pre, hpre, hp⟩
      obtain ⟨x, hx, hex, hh⟩ := row_of i rest pre hpre
      have m := List.mem_of_getElem? hx
      rw [hex]
      dsimp only
      rw [if_pos hh]
      refine wpAny_bind (wpAny_dictEpoch ho hd (wpAny_bind (eq_nk hu (kd.keys x m) hk (kd.low x m) (wpAny_bind (wpAny_dictEpoch ho hd ?_)))))
      rw [if_neg (show ¬ (ep != ep) = true by simp)]
      by_cases e : x.1 = k
      · rw [decide_eq_true e]
        exact wpAny_bind (wpAny_rule (wpAny_pure (wpAny_pure (hso i x hx e))))
      · rw [decide_eq_false e]
        refine wpAny_bind (wpAny_rule (wpAny_pure ⟨rfl, rfl, pre ++ [i], by simpa using hpre, fun j mj y hy => ?_⟩))
        rcases List.mem_append.mp mj with mj | mj
        · exact hp j mj y hy
        · cases List.mem_singleton.mp mj
          rw [hx] at hy
          cases hy
          exact e
    · rintro b s' ⟨rfl, rfl, pre, hpre, hp⟩
      exact wpAny_pure (none_of pre (by simpa using hpre) hp)
  have hany : ∀ a : Addr, key = .ref a → ¬ (es.any fun e => e.key == key && e.hash != k.hash w) = true := by
    intro a _
    rw [← Array.any_toList, List.any_eq_true]
    rintro ⟨e, m, c⟩
    obtain ⟨x, mx, rfl⟩ := kd.mem (Array.mem_toList_iff.mp m)
    simp only [entN, Bool.and_eq_true, beq_iff_eq, bne_iff_ne, ne_eq] at c
    have := kd.keys x mx
    rw [c.1] at this
    exact c.2 (by rw [NestedIs.inj _ _ _ this hk])
  have byStr : ∀ (y : Str) (t : Tok), key = .str y t → (es.all fun e => isExactStrKey e.key) = true → wpAny (model prog w) A (foundByValue d key es y) Q E s := by
    intro y t e hall
    subst e
    have ek : k = .text y := by cases hk; rfl
    have isk : ∀ (j : Nat) (x : Rw), xs[j]? = some x → (x.2.1.isStr y = true ↔ x.1 = k) := by
      intro j x hx
      have m := List.mem_of_getElem? hx
      have hs : isExactStrKey x.2.1 = true := by
        have me : entN w x ∈ es := Array.mem_of_getElem? (i := j) (by rw [kd.get, hx]; rfl)
        exact Array.all_eq_true_iff_forall_mem.mp hall _ me
      have n := kd.keys x m
      obtain ⟨nk, kv, vv⟩ := x
      dsimp only at hs n ⊢
      cases n with
      | text z u =>
        subst ek
        show (z == y) = true ↔ NestedKey.text z = NestedKey.text y
        rw [beq_iff_eq, NestedKey.text.injEq]
      | _ => cases hs
    unfold foundByValue
    cases hf : es.findIdx? (·.key.isStr y) with
    | none =>
      refine wpAny_pure (hno fun x m e => ?_)
      obtain ⟨j, hj⟩ := List.mem_iff_getElem?.mp m
      have me : entN w x ∈ es := Array.mem_of_getElem? (i := j) (by rw [kd.get, hj]; rfl)
      have := Array.findIdx?_eq_none_iff.mp hf _ me
      rw [show (entN w x).key.isStr y = true from (isk j x hj).mpr e] at this
      cases this
    | some i =>
      obtain ⟨lt, hi, _⟩ := Array.findIdx?_eq_some_iff_getElem.mp hf
      have hx : ∃ x, xs[i]? = some x := ⟨_, List.getElem?_eq_getElem (by rw [← kd.size]; exact lt)⟩
      obtain ⟨x, hx⟩ := hx
      have hex : es[i]? = some (entN w x) := by rw [kd.get, hx]; rfl
      have ei : es[i] = entN w x := by
        rw [Array.getElem?_eq_getElem lt] at hex
        exact Option.some.inj hex
      rw [ei] at hi
      have m := List.mem_of_getElem? hx
      have e := (isk i x hx).mp hi
      simp only [hex]
      refine wpAny_bind (wpAny_dictEpoch ho hd (wpAny_bind (eq_nk hu (kd.keys x m) hk (kd.low x m) (wpAny_bind (wpAny_dictEpoch ho hd ?_)))))
      rw [if_neg (show ¬ (ep != ep) = true by simp), decide_eq_true e]
      exact wpAny_bind (wpAny_rule (wpAny_pure (hso i x hx e)))
  unfold dictFind
  try with_reducible refine wpAny_holding ?_
  refine wpAny_bind (wpAny_dictEntries ho hd ?_)
  dsimp only
  have hk' := hk
  have hdone : ∀ (pre : List Nat), pre = spots es (k.hash w) → ∀ hit : Option Nat, ((hit = none ∧ ∀ i ∈ pre, ∀ x, xs[i]? = some x → x.1 ≠ k) ∨ ∃ j x, hit = some j ∧ xs[j]? = some x ∧ x.1 = k) → Q hit s := by
    rintro pre hp hit (⟨rfl, h0⟩ | ⟨j, x, rfl, hx, e⟩)
    · exact none_of pre hp h0
    · exact hso j x hx e
  have form : key = .none ∨ (∃ b, key = .bool b) ∨ (∃ i t, key = .int i t) ∨ (∃ a, key = .ref a) ∨ ∃ y t, key = .str y t := by cases hk <;> simp
  rcases form with rfl | ⟨b, rfl⟩ | ⟨i, t, rfl⟩ | ⟨a, rfl⟩ | ⟨y, t, rfl⟩
  case inr.inr.inr.inr =>
    dsimp only
    refine wp_ite (fun hall => ?_) (fun _ => ?_)
    · first | exact byStr y t rfl hall | exact wpAny_bind (byStr y t rfl hall)
    exact (by
      refine wp_ite (fun _ => ?_) (fun _ => ?_)
      · first | exact plain | exact wpAny_bind plain
      · try rw [if_neg (hany _ rfl)]
        first | refine wp_iteB (fun _ => ?_) (fun _ => ?_) | refine wp_ite (fun _ => ?_) (fun _ => ?_)
        all_goals first | refine wpAny_bind (wpAny_pure ?_) | refine wpAny_bind (quiet_all hk' h8 hst ?_)
        all_goals
          rw [if_neg (by simp)]
          refine wpAny_bind (wpAny_forIn_list _ (fun rest b s' => s' = s ∧ ∃ pre, ∃ hit : Option Nat, b = (none, hit) ∧ pre ++ rest = spots es (k.hash w) ∧
            ((hit = none ∧ ∀ i ∈ pre, ∀ x, xs[i]? = some x → x.1 ≠ k) ∨ ∃ j x, hit = some j ∧ j ∈ pre ∧ xs[j]? = some x ∧ x.1 = k)) _ ?_ ?_ _ _ ⟨rfl, [], none, rfl, rfl, .inl ⟨rfl, fun _ z => nomatch z⟩⟩)
          · rintro i rest b s' ⟨rfl, pre, hit, rfl, hpre, hH⟩
            obtain ⟨x, hx, hex, hh⟩ := row_of i rest pre hpre
            have m := List.mem_of_getElem? hx
            rw [hex]
            dsimp only
            rw [if_pos hh]
            refine wpAny_bind (wpAny_dictEpoch ho hd (wpAny_bind (eq_nk hu (kd.keys x m) hk' (kd.low x m) (wpAny_bind (wpAny_dictEpoch ho hd ?_)))))
            rw [if_neg (show ¬ (ep != ep) = true by simp)]
            by_cases e : x.1 = k
            · rw [decide_eq_true e]
              rcases hH with ⟨rfl, h0⟩ | ⟨j, y, rfl, mj, hy, ey⟩
              · rw [if_pos rfl]
                rw [if_neg (by simp)]
                refine wpAny_bind (wpAny_rule ?_)
                refine wp_ite (fun _ => ?_) (fun _ => ?_)
                · exact wpAny_pure (wpAny_pure (hso i x hx e))
                · exact wpAny_pure ⟨rfl, pre ++ [i], some i, rfl, by simpa using hpre, .inr ⟨i, x, rfl, by simp, hx, e⟩⟩
              · have same := kd.one hy hx (ey.trans e.symm)
                subst same
                have nd : (spots es (k.hash w)).Nodup := List.Pairwise.filter _ List.nodup_range
                rw [← hpre] at nd
                exact absurd rfl ((List.nodup_append.mp nd).2.2 j mj j List.mem_cons_self)
            · rw [decide_eq_false e]
              rw [if_neg (by simp)]
              refine wpAny_bind (wpAny_rule ?_)
              rw [if_neg (by simp)]
              refine wpAny_pure ⟨rfl, pre ++ [i], hit, rfl, by simpa using hpre, ?_⟩
              rcases hH with ⟨rfl, h0⟩ | ⟨j, y, rfl, mj, hy, ey⟩
              · refine .inl ⟨rfl, fun j mj y hy => ?_⟩
                rcases List.mem_append.mp mj with mj | mj
                · exact h0 j mj y hy
                · cases List.mem_singleton.mp mj
                  rw [hx] at hy
                  cases hy
                  exact e
              · exact .inr ⟨j, y, rfl, List.mem_append_left _ mj, hy, ey⟩
          · rintro b s' ⟨rfl, pre, hit, rfl, hpre, hH⟩
            refine wpAny_pure (hdone pre (by simpa using hpre) hit ?_)
            rcases hH with z | ⟨j, x, a, _, b, c⟩
            · exact .inl z
            · exact .inr ⟨j, x, a, b, c⟩)
  all_goals dsimp only
  all_goals exact (by
      refine wp_ite (fun _ => ?_) (fun _ => ?_)
      · first | exact plain | exact wpAny_bind plain
      · try rw [if_neg (hany _ rfl)]
        first | refine wp_iteB (fun _ => ?_) (fun _ => ?_) | refine wp_ite (fun _ => ?_) (fun _ => ?_)
        all_goals first | refine wpAny_bind (wpAny_pure ?_) | refine wpAny_bind (quiet_all hk' h8 hst ?_)
        all_goals
          rw [if_neg (by simp)]
          refine wpAny_bind (wpAny_forIn_list _ (fun rest b s' => s' = s ∧ ∃ pre, ∃ hit : Option Nat, b = (none, hit) ∧ pre ++ rest = spots es (k.hash w) ∧
            ((hit = none ∧ ∀ i ∈ pre, ∀ x, xs[i]? = some x → x.1 ≠ k) ∨ ∃ j x, hit = some j ∧ j ∈ pre ∧ xs[j]? = some x ∧ x.1 = k)) _ ?_ ?_ _ _ ⟨rfl, [], none, rfl, rfl, .inl ⟨rfl, fun _ z => nomatch z⟩⟩)
          · rintro i rest b s' ⟨rfl, pre, hit, rfl, hpre, hH⟩
            obtain ⟨x, hx, hex, hh⟩ := row_of i rest pre hpre
            have m := List.mem_of_getElem? hx
            rw [hex]
            dsimp only
            rw [if_pos hh]
            refine wpAny_bind (wpAny_dictEpoch ho hd (wpAny_bind (eq_nk hu (kd.keys x m) hk' (kd.low x m) (wpAny_bind (wpAny_dictEpoch ho hd ?_)))))
            rw [if_neg (show ¬ (ep != ep) = true by simp)]
            by_cases e : x.1 = k
            · rw [decide_eq_true e]
              rcases hH with ⟨rfl, h0⟩ | ⟨j, y, rfl, mj, hy, ey⟩
              · rw [if_pos rfl]
                rw [if_neg (by simp)]
                refine wpAny_bind (wpAny_rule ?_)
                refine wp_ite (fun _ => ?_) (fun _ => ?_)
                · exact wpAny_pure (wpAny_pure (hso i x hx e))
                · exact wpAny_pure ⟨rfl, pre ++ [i], some i, rfl, by simpa using hpre, .inr ⟨i, x, rfl, by simp, hx, e⟩⟩
              · have same := kd.one hy hx (ey.trans e.symm)
                subst same
                have nd : (spots es (k.hash w)).Nodup := List.Pairwise.filter _ List.nodup_range
                rw [← hpre] at nd
                exact absurd rfl ((List.nodup_append.mp nd).2.2 j mj j List.mem_cons_self)
            · rw [decide_eq_false e]
              rw [if_neg (by simp)]
              refine wpAny_bind (wpAny_rule ?_)
              rw [if_neg (by simp)]
              refine wpAny_pure ⟨rfl, pre ++ [i], hit, rfl, by simpa using hpre, ?_⟩
              rcases hH with ⟨rfl, h0⟩ | ⟨j, y, rfl, mj, hy, ey⟩
              · refine .inl ⟨rfl, fun j mj y hy => ?_⟩
                rcases List.mem_append.mp mj with mj | mj
                · exact h0 j mj y hy
                · cases List.mem_singleton.mp mj
                  rw [hx] at hy
                  cases hy
                  exact e
              · exact .inr ⟨j, y, rfl, List.mem_append_left _ mj, hy, ey⟩
          · rintro b s' ⟨rfl, pre, hit, rfl, hpre, hH⟩
            refine wpAny_pure (hdone pre (by simpa using hpre) hit ?_)
            rcases hH with z | ⟨j, x, a, _, b, c⟩
            · exact .inl z
            · exact .inr ⟨j, x, a, b, c⟩)
end

/-! ### a dict in the heap -/
def DictN (w : World) (h : Heap) (d : Addr) (xs : List Rw) : Prop := ∃ o es ep, h.get? d = some o ∧ o.ExactDict ∧ o.data = .dict es ep ∧ Keyed w h es xs
def atN (xs : List Rw) (k : NestedKey) : Option Value := (xs.find? fun x => decide (x.1 = k)).map (·.2.2)
def chgN (k : NestedKey) (v : Value) (x : Rw) : Rw := if x.1 = k then (x.1, x.2.1, v) else x
def putN (xs : List Rw) (k : NestedKey) (key v : Value) : List Rw := if (xs.any fun x => decide (x.1 = k)) = true then xs.map (chgN k v) else xs ++ [(k, key, v)]
theorem atN_none {xs : List Rw} {k : NestedKey} (h : ∀ x ∈ xs, x.1 ≠ k) : atN xs k = none := by
  unfold atN
  rw [List.find?_eq_none.mpr fun x m => by simpa using h x m]
  rfl
theorem atN_some : ∀ {xs : List Rw} {j : Nat} {x : Rw}, (xs.map (·.1)).Nodup → xs[j]? = some x → atN xs x.1 = some x.2.2
  | [], _, _, _, h => by simp at h
  | y :: ys, 0, x, _, h => by
    cases h
    simp [atN]
  | y :: ys, j + 1, x, nd, h => by
    have h : ys[j]? = some x := by simpa using h
    obtain ⟨n1, n2⟩ := List.nodup_cons.mp (show (y.1 :: ys.map (·.1)).Nodup from nd)
    have ne : ¬ y.1 = x.1 := fun e => n1 (e ▸ List.mem_map.mpr ⟨x, List.mem_of_getElem? h, rfl⟩)
    have := atN_some n2 h
    unfold atN at this ⊢
    rw [List.find?_cons, decide_eq_false ne]
    exact this
theorem chgN_key (k : NestedKey) (v : Value) (x : Rw) : (chgN k v x).1 = x.1 ∧ (chgN k v x).2.1 = x.2.1 := by
  unfold chgN
  split <;> exact ⟨rfl, rfl⟩
theorem chgN_keys (k : NestedKey) (v : Value) (xs : List Rw) : (xs.map (chgN k v)).map (·.1) = xs.map (·.1) := by
  rw [List.map_map]
  exact List.map_congr_left fun x _ => (chgN_key k v x).1
theorem chgN_at (w : World) (k : NestedKey) (v : Value) : ∀ {xs : List Rw} {j : Nat} {x : Rw}, (xs.map (·.1)).Nodup → xs[j]? = some x → x.1 = k →
    (xs.map (entN w)).modify j (fun e => { e with val := v }) = (xs.map (chgN k v)).map (entN w)
  | [], _, _, _, h, _ => by simp at h
  | y :: ys, 0, x, nd, h, e => by
    cases h
    obtain ⟨n1, _⟩ := List.nodup_cons.mp (show (y.1 :: ys.map (·.1)).Nodup from nd)
    have rest : ys.map (chgN k v) = ys := by
      refine (List.map_congr_left fun z m => ?_).trans (List.map_id _)
      unfold chgN
      rw [if_neg fun q => n1 (by rw [e, ← q]; exact List.mem_map.mpr ⟨z, m, rfl⟩)]
      rfl
    rw [List.map_cons, List.map_cons, rest, List.map_cons, chgN, if_pos e]
    rfl
  | y :: ys, j + 1, x, nd, h, e => by
    have h : ys[j]? = some x := by simpa using h
    obtain ⟨n1, n2⟩ := List.nodup_cons.mp (show (y.1 :: ys.map (·.1)).Nodup from nd)
    have ne : ¬ y.1 = k := fun q => n1 (by rw [q, ← e]; exact List.mem_map.mpr ⟨x, List.mem_of_getElem? h, rfl⟩)
    rw [List.map_cons, List.map_cons, List.map_cons, chgN, if_neg ne]
    show entN w y :: (ys.map (entN w)).modify j _ = _
    rw [chgN_at w k v n2 h e]
theorem key_stays {h h' : Heap} {d : Addr} {o : Obj} {es : Array DictEntry} {ep : Nat} {k : NestedKey} {v : Value} (ho : h.get? d = some o) (hd : o.data = .dict es ep) (hs : Heap.SameBut d h h') (n : NestedIs h k v) : NestedIs h' k v :=
  NestedIs.at (fun b ob vs m hb hc => by
    refine (hs.2 b ?_).trans hb
    rintro rfl
    rw [ho] at hb
    cases hb
    rw [hd] at hc
    cases hc) k v n
section
variable {prog : Program} {w : World} {A : Around} {E : Value → Shared → Prop} {s : Shared} {d : Addr} {key v : Value} {xs : List Rw} {k : NestedKey}
theorem DictN.typeIs (hm : DictN w s.heap d xs) : s.TypeIs (.ref d) "dict" := let ⟨o, _, _, ho, hc, _⟩ := hm; ⟨o, ho, hc.1⟩
theorem hash_nk {Q : Int → Shared → Prop} (hu : A.units + 8 < cLine) (hk : NestedIs s.heap k key) (h8 : k.depth ≤ 8) (q : Q (k.hash w) { s with toks := s.toks + k.draws }) : wpAny (model prog w) A (pyHash key) Q E s :=
  pyHash_key k key A s Q hk (by omega) q
theorem get_nk {Q : Option Value → Shared → Prop} (hu : A.units + 8 < cLine) (hk : NestedIs s.heap k key) (h8 : k.depth ≤ 8) (hm : DictN w s.heap d xs) (q : Q (atN xs k) { s with toks := s.toks + k.draws }) :
    wpAny (model prog w) A (dictGet d key) Q E s := by
  obtain ⟨o, es, ep, ho, _, hd, kd⟩ := hm
  unfold dictGet
  try with_reducible refine wpAny_holding ?_
  refine wpAny_bind (hash_nk hu hk h8 (wpAny_bind (find_nk (s := { s with toks := s.toks + k.draws }) hu hk h8 ho hd kd (fun hno => ?_) (fun j x hx e => ?_))))
  · rw [atN_none hno] at q
    exact wpAny_pure q
  · subst e
    rw [atN_some kd.nd hx] at q
    refine wpAny_bind (wpAny_dictEntries (s := { s with toks := s.toks + x.1.draws }) ho hd ?_)
    rw [kd.get, hx]
    exact wpAny_pure q
theorem set_nk {Q : Unit → Shared → Prop} (hu : A.units + 8 < cLine) (hk : NestedIs s.heap k key) (h8 : k.depth ≤ 8) (hm : DictN w s.heap d xs) (few : xs.length ≤ sizeLine)
    (q : ∀ h', DictN w h' d (putN xs k key v) → Heap.SameBut d s.heap h' → Q () { s with heap := h', toks := s.toks + k.draws }) : wpAny (model prog w) A (dictSet d key v) Q E s := by
  obtain ⟨o, es, ep, ho, hc, hd, kd⟩ := hm
  unfold dictSet
  try with_reducible refine wpAny_holding ?_
  refine wpAny_bind (hash_nk hu hk h8 ?_)
  unfold dictSetHashed
  try with_reducible refine wpAny_holding ?_
  refine wpAny_bind (find_nk (s := { s with toks := s.toks + k.draws }) hu hk h8 ho hd kd (fun hno => ?_) (fun j x hx e => ?_))
  · have no : ¬ (xs.any fun x => decide (x.1 = k)) = true := by
      rw [List.any_eq_true]
      rintro ⟨x, m, e⟩
      exact hno x m (of_decide_eq_true e)
    refine wpAny_bind (wpAny_rule (wpAny_updateDictKeys (hz := by have e := kd.size; omega) (s := { s with toks := s.toks + k.draws }) ho hd ?_))
    refine q _ ⟨_, _, ep + 1, Heap.get?_update_self _ ho (Obj.isFreed_of_dict (Obj.data_mapDictKeys hd _)), hc.mapDictKeys _, Obj.data_mapDictKeys hd _, ?_⟩ (Heap.SameBut.update ..)
    unfold putN
    rw [if_neg no]
    refine ⟨by simp [kd.ents, entN], fun x m => ?_, fun x m => ?_, ?_⟩
    · rcases List.mem_append.mp m with m | m
      · exact key_stays ho hd (Heap.SameBut.update ..) (kd.keys x m)
      · cases List.mem_singleton.mp m
        exact key_stays ho hd (Heap.SameBut.update ..) hk
    · rcases List.mem_append.mp m with m | m
      · exact kd.low x m
      · cases List.mem_singleton.mp m
        exact h8
    · rw [List.map_append, List.nodup_append]
      refine ⟨kd.nd, by simp, fun a ma b mb => ?_⟩
      simp only [List.map_cons, List.map_nil, List.mem_singleton] at mb
      subst mb
      obtain ⟨x, mx, rfl⟩ := List.mem_map.mp ma
      exact hno x mx
  · have yes : (xs.any fun x => decide (x.1 = k)) = true := List.any_eq_true.mpr ⟨x, List.mem_of_getElem? hx, decide_eq_true e⟩
    refine wpAny_bind (wpAny_rule (wpAny_bind (wpAny_updateDict (s := { s with toks := s.toks + k.draws }) ho hd (wpAny_point ?_))))
    refine q _ ⟨_, _, ep, Heap.get?_update_self _ ho (Obj.isFreed_of_dict (Obj.data_mapDict hd _)), hc.mapDict _, Obj.data_mapDict hd _, ?_⟩ (Heap.SameBut.update ..)
    unfold putN
    rw [if_pos yes]
    refine ⟨?_, fun y m => ?_, fun y m => ?_, by rw [chgN_keys]; exact kd.nd⟩
    · have := chgN_at w k v kd.nd hx e
      rw [← kd.ents] at this
      obtain ⟨l⟩ := es
      simpa using this
    · obtain ⟨z, mz, rfl⟩ := List.mem_map.mp m
      rw [(chgN_key k v z).1, (chgN_key k v z).2]
      exact key_stays ho hd (Heap.SameBut.update ..) (kd.keys z mz)
    · obtain ⟨z, mz, rfl⟩ := List.mem_map.mp m
      rw [(chgN_key k v z).1]
      exact kd.low z mz
theorem in_nk {Q : Value → Shared → Prop} (hu : A.in1.units + 8 < cLine) (hk : NestedIs s.heap k key) (h8 : k.depth ≤ 8) (hs : (d == sysModules) = false) (hm : DictN w s.heap d xs)
    (q : Q (.bool (atN xs k).isSome) { s with toks := s.toks + k.draws }) : wpAny (model prog w) A (compareOp .In key (.ref d)) Q E s := by
  show wpAny _ _ (do return .bool (← contains (.ref d) key)) Q E s
  refine wpAny_bind ?_
  unfold contains
  try with_reducible refine wpAny_holding ?_
  refine wpAny_bind (wpAny_specialOf hm.typeIs slot_dict_contains.lookup ?_)
  rw [if_neg (show ¬ (some (Value.builtin "dict.__contains__") == some Value.none) = true by rw [beq_builtin_none]; exact Bool.false_ne_true)]
  refine wpAny_bind (wpAny_callSpecialUnlessNone?_slot (name := Str.ofString "__contains__") hm.typeIs slot_dict_contains (wpAny_call_entry slot_dict_contains hm.typeIs entry_dict_contains ?_ (args_dict_contains _ _)))
  show wpAny _ _ (dictGet d key >>= _) _ _ s
  refine wpAny_bind (get_nk hu hk h8 hm ?_)
  cases hf : atN xs k with
  | some p =>
    rw [hf] at q
    exact wpAny_pure ⟨_, rfl, wpAny_truthy_bool (wpAny_pure q)⟩
  | none =>
    rw [hf] at q
    show wpAny _ _ (Builtin.Dict.pendingKey? d key >>= _) _ _ _
    exact wpAny_bind (wpAny_pendingKey_other hs (wpAny_pure ⟨_, rfl, wpAny_truthy_bool (wpAny_pure q)⟩))
theorem nin_nk {Q : Value → Shared → Prop} (hu : A.in1.units + 8 < cLine) (hk : NestedIs s.heap k key) (h8 : k.depth ≤ 8) (hs : (d == sysModules) = false) (hm : DictN w s.heap d xs)
    (q : Q (.bool (!(atN xs k).isSome)) { s with toks := s.toks + k.draws }) : wpAny (model prog w) A (compareOp .NotIn key (.ref d)) Q E s := by
  show wpAny _ _ (do return .bool (!(← contains (.ref d) key))) Q E s
  refine wpAny_bind ?_
  unfold contains
  try with_reducible refine wpAny_holding ?_
  refine wpAny_bind (wpAny_specialOf hm.typeIs slot_dict_contains.lookup ?_)
  rw [if_neg (show ¬ (some (Value.builtin "dict.__contains__") == some Value.none) = true by rw [beq_builtin_none]; exact Bool.false_ne_true)]
  refine wpAny_bind (wpAny_callSpecialUnlessNone?_slot (name := Str.ofString "__contains__") hm.typeIs slot_dict_contains (wpAny_call_entry slot_dict_contains hm.typeIs entry_dict_contains ?_ (args_dict_contains _ _)))
  show wpAny _ _ (dictGet d key >>= _) _ _ s
  refine wpAny_bind (get_nk hu hk h8 hm ?_)
  cases hf : atN xs k with
  | some p =>
    rw [hf] at q
    exact wpAny_pure ⟨_, rfl, wpAny_truthy_bool (wpAny_pure q)⟩
  | none =>
    rw [hf] at q
    show wpAny _ _ (Builtin.Dict.pendingKey? d key >>= _) _ _ _
    exact wpAny_bind (wpAny_pendingKey_other hs (wpAny_pure ⟨_, rfl, wpAny_truthy_bool (wpAny_pure q)⟩))
theorem item_nk {Q : Value → Shared → Prop} (hu : A.in1.units + 8 < cLine) (hk : NestedIs s.heap k key) (h8 : k.depth ≤ 8) (hm : DictN w s.heap d xs) {y : Value} (hy : atN xs k = some y)
    (q : Q y { s with toks := s.toks + k.draws }) : wpAny (model prog w) A (getItem (.ref d) key) Q E s := by
  unfold getItem
  try with_reducible refine wpAny_holding ?_
  refine wpAny_bind (wpAny_sequenceKey hm.typeIs (by decide) ?_)
  refine wpAny_bind (wpAny_callSpecial?_slot (name := Str.ofString "__getitem__") hm.typeIs slot_dict_getitem (wpAny_call_entry slot_dict_getitem hm.typeIs entry_dict_getitem ?_ (args_dict_getitem _ _)))
  show wpAny _ _ (dictGet d key >>= _) _ _ s
  refine wpAny_bind (get_nk hu hk h8 hm ?_)
  rw [hy]
  exact wpAny_pure ⟨y, rfl, wpAny_pure q⟩
theorem store_nk {Q : Unit → Shared → Prop} (hu : A.in1.units + 8 < cLine) (hk : NestedIs s.heap k key) (h8 : k.depth ≤ 8) (hm : DictN w s.heap d xs) (few : xs.length ≤ sizeLine)
    (q : ∀ h', DictN w h' d (putN xs k key v) → Heap.SameBut d s.heap h' → Q () { s with heap := h', toks := s.toks + k.draws }) : wpAny (model prog w) A (setItem (.ref d) key v) Q E s := by
  unfold setItem
  try with_reducible refine wpAny_holding ?_
  refine wpAny_bind (wpAny_sequenceKey hm.typeIs (by decide) ?_)
  refine wpAny_bind (wpAny_callSpecial?_slot (name := Str.ofString "__setitem__") hm.typeIs slot_dict_setitem (wpAny_call_entry slot_dict_setitem hm.typeIs entry_dict_setitem ?_ (args_dict_setitem _ _ _)))
  show wpAny _ _ (Builtin.Dict.notOrdered "__setitem__" ⟨[.ref d, key, v], []⟩ >>= _) _ _ s
  refine wpAny_bind (wpAny_notOrdered_dict hm.typeIs ?_)
  show wpAny _ _ (dictSet d key v >>= _) _ _ s
  exact wpAny_bind (set_nk hu hk h8 hm few fun h' a b => wpAny_pure ⟨.none, rfl, wpAny_pure (q h' a b)⟩)
theorem DictN.new (h : Heap) : DictN w (h.push { cls := .type "dict", data := .dict #[] }) h.objs.size [] :=
  ⟨_, #[], 0, Heap.get?_push_size _ rfl, ⟨rfl, rfl, rfl⟩, rfl, rfl, fun _ z => (nomatch z), fun _ z => (nomatch z), List.nodup_nil⟩
end
end Sb

/-! Sb, part M: mirrors. A def's body is walked once by rules whose readings are plain functions of data: what is left of a def is a function. -/
namespace Sb
open PySem PySem.Spec PyProof.Rows L2

/-! ### data -/
inductive D where
  | non | bl (b : Bool) | int (i : Int) | str (x : Str) | scr (ns : List Int)
  | list (xs : List D) | tup (xs : List D) | ins (c : Str) (fs : List (Str × D)) | cls (c : Str) | dict (w : World) (kvs : List (D × D))
instance : Inhabited D := ⟨.non⟩
mutual
/-- the data as a key, up to == -/
def nkOf : D → Option NestedKey
  | .non => some .none
  | .bl b => some (.num (if b = true then 1 else 0))
  | .int i => some (.num i)
  | .str x => some (.text x)
  | .tup xs => (nksOf xs).map .tup
  | .scr _ | .list _ | .ins _ _ | .cls _ | .dict _ _ => none
def nksOf : List D → Option (List NestedKey)
  | [] => some []
  | d :: ds => (nkOf d).bind fun k => (nksOf ds).map (k :: ·)
end
/-- an object known to the sign -/
def ObjO (a : Addr) (o : Obj) : HO := .ext fun h => h.get? a = some o
/-- it is a dict: for each entry its hash, its key, its value -/
structure DctOk (a : Addr) (o : Obj) (es : List (Int × V × V)) : Prop where
  few : es.length ≤ sizeLine
  sys : (a == sysModules) = false
  ex : o.ExactDict
  at_ : ∃ xs ep, o.data = .dict xs ep ∧ Paired (fun (e : Int × V × V) (x : DictEntry) => e.1 = x.hash ∧ RelV e.2.1 x.key ∧ RelV e.2.2 x.val) es xs.toList
mutual
/-- the value v is the data d, by the objects of F -/
inductive Rep (K : PySem.W.Frag) (F : Hp) : V → D → Prop
  | non : Rep K F .non .non
  | bl (b : Bool) : Rep K F (.bl b) (.bl b)
  | int (i : Int) : Rep K F (.int i) (.int i)
  | str (x : Str) : Rep K F (.str x) (.str x)
  | scr {a : Addr} {ns : List Int} : SqL K F a (ns.map V.int) → Rep K F (.ref a) (.scr ns)
  | list {a : Addr} {vs : List V} {ds : List D} : F a = some (.lst vs) → Reps K F vs ds → Rep K F (.ref a) (.list ds)
  | tup {a : Addr} {vs : List V} {ds : List D} : SqT K F a vs → Reps K F vs ds → Rep K F (.ref a) (.tup ds)
  | ins {a dx : Addr} {fs : List (Str × V)} {c : Str} {ds : List (Str × D)} : F a = some (.ins (He.ga K c) dx fs) → RepF K F fs ds → Rep K F (.ref a) (.ins c ds)
  | cls (c : Str) : Rep K F (.ref (He.ga K c)) (.cls c)
  | dict {a : Addr} {o : Obj} {es : List (Int × V × V)} {w : World} {kvs : List (D × D)} : F a = some (ObjO a o) → DctOk a o es → RepD K F w es kvs → (kvs.map fun p => nkOf p.1).Nodup → Rep K F (.ref a) (.dict w kvs)
inductive Reps (K : PySem.W.Frag) (F : Hp) : List V → List D → Prop
  | nil : Reps K F [] []
  | cons {v : V} {vs : List V} {d : D} {ds : List D} : Rep K F v d → Reps K F vs ds → Reps K F (v :: vs) (d :: ds)
inductive RepF (K : PySem.W.Frag) (F : Hp) : List (Str × V) → List (Str × D) → Prop
  | nil : RepF K F [] []
  | cons {n : Str} {v : V} {fs : List (Str × V)} {d : D} {ds : List (Str × D)} : Rep K F v d → RepF K F fs ds → RepF K F ((n, v) :: fs) ((n, d) :: ds)
inductive RepD (K : PySem.W.Frag) (F : Hp) : World → List (Int × V × V) → List (D × D) → Prop
  | nil {w : World} : RepD K F w [] []
  | cons {w : World} {i : Int} {v u : V} {es : List (Int × V × V)} {d e : D} {kvs : List (D × D)} {k : NestedKey} : nkOf d = some k → k.depth ≤ 8 → i = k.hash w → Rep K F v d → Rep K F u e → RepD K F w es kvs → RepD K F w ((i, v, u) :: es) ((d, e) :: kvs)
end

section
variable {K : PySem.W.Frag} {F F' : Hp}
mutual
theorem Rep.same (e : Same F F') : ∀ (d : D) (v : V), Rep K F v d → Rep K F' v d
  | _, _, .non => .non
  | _, _, .bl b => .bl b
  | _, _, .int i => .int i
  | _, _, .str x => .str x
  | _, _, .scr h => .scr (e.seq h)
  | .list ds, _, .list h hs => .list (e _ _ h) (Reps.same e ds _ hs)
  | .tup ds, _, .tup h hs => .tup (seqT_same e h) (Reps.same e ds _ hs)
  | .ins c fs, _, .ins h hs => .ins (e _ _ h) (RepF.same e fs _ hs)
  | _, _, .cls c => .cls c
  | .dict w kvs, _, .dict h k hs n => .dict (e _ _ h) k (RepD.same e kvs _ hs) n
theorem Reps.same (e : Same F F') : ∀ (ds : List D) (vs : List V), Reps K F vs ds → Reps K F' vs ds
  | [], _, .nil => .nil
  | d :: ds, _, .cons h hs => .cons (Rep.same e d _ h) (Reps.same e ds _ hs)
theorem RepF.same (e : Same F F') : ∀ (ds : List (Str × D)) (vs : List (Str × V)), RepF K F vs ds → RepF K F' vs ds
  | [], _, .nil => .nil
  | (_, d) :: ds, _, .cons h hs => .cons (Rep.same e d _ h) (RepF.same e ds _ hs)
theorem RepD.same (e : Same F F') {w : World} : ∀ (ds : List (D × D)) (vs : List (Int × V × V)), RepD K F w vs ds → RepD K F' w vs ds
  | [], _, .nil => .nil
  | (d, c) :: ds, _, .cons h1 h2 h3 h4 h5 hs => .cons h1 h2 h3 (Rep.same e d _ h4) (Rep.same e c _ h5) (RepD.same e ds _ hs)
end
theorem Rep.up {v : V} {d : D} (h : Rep K F v d) (e : Same F F') : Rep K F' v d := Rep.same e d v h
theorem Reps.up {vs : List V} {ds : List D} (h : Reps K F vs ds) (e : Same F F') : Reps K F' vs ds := Reps.same e ds vs h
theorem Reps.length : ∀ {vs : List V} {ds : List D}, Reps K F vs ds → vs.length = ds.length
  | _, _, .nil => rfl
  | _, _, .cons _ t => congrArg (· + 1) (Reps.length t)
theorem Reps.get : ∀ {vs : List V} {ds : List D} {i : Nat} {d : D}, Reps K F vs ds → ds[i]? = some d → ∃ v, vs[i]? = some v ∧ Rep K F v d
  | _, _, _, _, .nil, e => by simp at e
  | _, _, 0, _, .cons r _, e => by simp at e; subst e; exact ⟨_, rfl, r⟩
  | _, _, i + 1, d, .cons _ t, e => by
    obtain ⟨u, h1, h2⟩ := Reps.get (i := i) (d := d) t (by simpa using e)
    exact ⟨u, by simpa using h1, h2⟩
theorem Reps.append : ∀ {xs ys : List V} {us ws : List D}, Reps K F xs us → Reps K F ys ws → Reps K F (xs ++ ys) (us ++ ws)
  | _, _, _, _, .nil, s => s
  | _, _, _, _, .cons r t, s => .cons r (Reps.append t s)
theorem Reps.take : ∀ {xs : List V} {us : List D} (n : Nat), Reps K F xs us → Reps K F (xs.take n) (us.take n)
  | _, _, 0, _ => .nil
  | _, _, _ + 1, .nil => .nil
  | _, _, n + 1, .cons r t => .cons r (Reps.take n t)
theorem Reps.drop : ∀ {xs : List V} {us : List D} (n : Nat), Reps K F xs us → Reps K F (xs.drop n) (us.drop n)
  | _, _, 0, r => r
  | _, _, _ + 1, .nil => .nil
  | _, _, n + 1, .cons _ t => Reps.drop n t
theorem Reps.set {x : V} {u : D} (r : Rep K F x u) : ∀ {xs : List V} {us : List D} (i : Nat), Reps K F xs us → Reps K F (xs.set i x) (us.set i u)
  | _, _, _, .nil => .nil
  | _, _, 0, .cons _ t => .cons r t
  | _, _, i + 1, .cons q t => .cons q (Reps.set r i t)
theorem Reps.reverse : ∀ {xs : List V} {us : List D}, Reps K F xs us → Reps K F xs.reverse us.reverse
  | _, _, .nil => .nil
  | _, _, .cons r t => by
    rw [List.reverse_cons, List.reverse_cons]
    exact (Reps.reverse t).append (.cons r .nil)
theorem Reps.dropLast {xs : List V} {us : List D} (r : Reps K F xs us) : Reps K F xs.dropLast us.dropLast := by
  rw [List.dropLast_eq_take, List.dropLast_eq_take, r.length]
  exact r.take _
theorem Reps.cut {xs : List V} {us : List D} (r : Reps K F xs us) (lo hi : Option Int) :
    Reps K F (cutV xs lo hi) ((us.drop (HT.sIx us.length 0 lo)).take (HT.sIx us.length us.length hi - HT.sIx us.length 0 lo)) := by
  unfold cutV
  rw [r.length]
  exact (r.drop _).take _
theorem Reps.at_ {vs : List V} {ds : List D} {i : Int} {d : D} (r : Reps K F vs ds) (h : atI ds i = some d) : ∃ v, atI vs i = some v ∧ Rep K F v d := by
  unfold atI at h ⊢
  rw [r.length]
  cases e : ixN ds.length i with
  | none => rw [e] at h; cases h
  | some j =>
    rw [e] at h
    exact r.get h
theorem Reps.ints : ∀ {vs : List V} {ns : List Int}, Reps K F vs (ns.map D.int) → vs = ns.map V.int
  | _, [], .nil => rfl
  | _, n :: ns, .cons r t => by
    cases r
    rw [Reps.ints (ns := ns) t]
    rfl
theorem Reps.of_ints : ∀ (ns : List Int), Reps K F (ns.map V.int) (ns.map D.int)
  | [] => .nil
  | n :: ns => .cons (.int n) (Reps.of_ints ns)
theorem Reps.bls : ∀ {vs : List V} {ns : List Bool}, Reps K F vs (ns.map D.bl) → vs = ns.map V.bl
  | _, [], .nil => rfl
  | _, n :: ns, .cons r t => by
    cases r
    rw [Reps.bls (ns := ns) t]
    rfl
theorem Reps.strs : ∀ {vs : List V} {ns : List Str}, Reps K F vs (ns.map D.str) → vs = ns.map V.str
  | _, [], .nil => rfl
  | _, n :: ns, .cons r t => by
    cases r
    rw [Reps.strs (ns := ns) t]
    rfl
theorem RepF.get : ∀ {fs : List (Str × V)} {ds : List (Str × D)} {n : Str} {d : D}, RepF K F fs ds → ds.lookup n = some d → ∃ v, fs.lookup n = some v ∧ Rep K F v d
  | _, _, _, _, .nil, e => by simp at e
  | _, _, n, d, .cons (n := m) r t, e => by
    rw [List.lookup_cons] at e ⊢
    cases hb : n == m with
    | true =>
      rw [hb] at e
      cases e
      exact ⟨_, rfl, r⟩
    | false =>
      rw [hb] at e
      exact RepF.get t e
theorem RepF.none_ : ∀ {fs : List (Str × V)} {ds : List (Str × D)} {n : Str}, RepF K F fs ds → ds.lookup n = none → fs.lookup n = none
  | _, _, _, .nil, _ => rfl
  | _, _, n, .cons (n := m) r t, e => by
    rw [List.lookup_cons] at e ⊢
    cases hb : n == m with
    | true => rw [hb] at e; cases e
    | false =>
      rw [hb] at e
      exact RepF.none_ t e
end

/-! ### the state of a body -/
/-- an object that the body may change: a list, an instance -/
inductive O where
  | lst (xs : List D) | ins (c : Str) (fs : List (Str × D)) | dct (w : World) (kvs : List (D × D))
def O.toD : O → D
  | .lst xs => .list xs
  | .ins c fs => .ins c fs
  | .dct w kvs => .dict w kvs
def OwH (K : PySem.W.Frag) (F : Hp) (p : Addr) (h : HO) : O → Prop
  | .lst xs => ∃ vs, h = .lst vs ∧ Reps K F vs xs
  | .ins c fs => ∃ dx gs, h = .ins (He.ga K c) dx gs ∧ RepF K F gs fs
  | .dct w kvs => ∃ ob es, h = ObjO p ob ∧ DctOk p ob es ∧ RepD K F w es kvs ∧ (kvs.map fun p => nkOf p.1).Nodup
theorem OwH.up {K : PySem.W.Frag} {F F' : Hp} {p : Addr} {h : HO} {o : O} (a : OwH K F p h o) (e : Same F F') : OwH K F' p h o := by
  cases o with
  | lst xs =>
    obtain ⟨vs, rfl, r⟩ := a
    exact ⟨vs, rfl, r.up e⟩
  | ins c fs =>
    obtain ⟨dx, gs, rfl, r⟩ := a
    exact ⟨dx, gs, rfl, RepF.same e fs gs r⟩
  | dct w kvs =>
    obtain ⟨ob, es, rfl, k, r, n⟩ := a
    exact ⟨ob, es, rfl, k, RepD.same e kvs es r, n⟩
theorem OwH.rep {K : PySem.W.Frag} {F : Hp} {h : HO} {o : O} {p : Addr} (a : OwH K F p h o) (e : F p = some h) : Rep K F (.ref p) o.toD := by
  cases o with
  | lst xs =>
    obtain ⟨vs, rfl, r⟩ := a
    exact .list e r
  | ins c fs =>
    obtain ⟨dx, gs, rfl, r⟩ := a
    exact .ins e r
  | dct w kvs =>
    obtain ⟨ob, es, rfl, k, r, n⟩ := a
    exact .dict e k r n
/-- a slot: data, or an object that the body may change -/
inductive Sl where
  | fr (d : D) | ow (o : O)
def Sl.toD : Sl → D
  | .fr d => d
  | .ow o => o.toD
abbrev Ld := List (Option Sl)
/-- around a body: the written part, the caller's data and heap, the caller's lists that it was handed (slot, address) -/
structure MC where
  K : PySem.W.Frag
  F0 : Hp
  H0 : Hp
  ps : List (Nat × Addr)
def SlOk (M : MC) (F H : Hp) (i : Nat) (v : V) : Sl → Prop
  | .fr d => Rep M.K F v d
  | .ow o => ∃ p h, v = .ref p ∧ H p = some h ∧ F p = none ∧ OwH M.K F p h o ∧ (M.H0 p = none ∨ (i, p) ∈ M.ps)
structure StM (M : MC) (F : Hp) (σ : L2.St) (H : Hp) (l : Ld) : Prop where
  sub : Same F H
  len : σ.length = l.length
  slot : ∀ (i : Nat) (s : Sl), l[i]? = some (some s) → ∃ v, σ[i]? = some (some v) ∧ SlOk M F H i v s
  inj : ∀ (i j : Nat) (xs ys : O) (v : V), l[i]? = some (some (.ow xs)) → l[j]? = some (some (.ow ys)) → σ[i]? = some (some v) → σ[j]? = some (some v) → i = j
  keepF : Same M.F0 F
  newF : ∀ a o, M.H0 a = some o → M.F0 a = none → a ∉ M.ps.map (·.2) → F a = none
  keepH : ∀ a o, M.H0 a = some o → a ∉ M.ps.map (·.2) → H a = some o
  domH : ∀ a, H a = none → M.H0 a = none
  pars : ∀ q ∈ M.ps, σ[q.1]? = some (some (.ref q.2))
/-- p is a list of the body's own -/
def Own (σ : L2.St) (l : Ld) (p : Addr) : Prop := ∃ (i : Nat) (xs : O), l[i]? = some (some (.ow xs)) ∧ σ[i]? = some (some (.ref p))
/-- from one moment of an expression to a later one -/
structure Gr (σ : L2.St) (l l' : Ld) (F H F' H' : Hp) : Prop where
  ext : Same F F'
  own : ∀ p, Own σ l' p → Own σ l p
  frn : ∀ p o, H p = some o → F p = none → ¬ Own σ l p → F' p = none ∧ H' p = some o
  dom : ∀ a, H' a = none → H a = none
theorem Gr.refl (σ : L2.St) (l : Ld) (F H : Hp) : Gr σ l l F H F H := ⟨Same.refl _, fun _ h => h, fun _ _ a b _ => ⟨b, a⟩, fun _ h => h⟩
theorem Gr.trans {σ : L2.St} {l l1 l2 : Ld} {F H F1 H1 F2 H2 : Hp} (a : Gr σ l l1 F H F1 H1) (b : Gr σ l1 l2 F1 H1 F2 H2) : Gr σ l l2 F H F2 H2 where
  ext := a.ext.trans b.ext
  own := fun p h => a.own p (b.own p h)
  frn := fun p o h f n => by
    obtain ⟨f1, h1⟩ := a.frn p o h f n
    exact b.frn p o h1 f1 fun z => n (a.own p z)
  dom := fun p h => a.dom p (b.dom p h)

/-! ### results -/
inductive Res (α : Type) where
  | ok (a : α) (l : Ld)
  | err (c f : Str) (d : D) (l : Ld)
  | stuck
def Res.bind {α β : Type} : Res α → (α → Ld → Res β) → Res β
  | .ok a l, f => f a l
  | .err c f d l, _ => .err c f d l
  | .stuck, _ => .stuck
def Res.lift {α : Type} : Option α → Ld → Res α
  | some a, l => .ok a l
  | none, _ => .stuck
/-- what is wanted of a result -/
def wR {α : Type} (M : MC) (E : L2.St → XK) (σ : L2.St) (F H : Hp) (l : Ld) (P : α → Ld → Hp → Hp → Prop) : Res α → Prop
  | .ok a l' => ∀ F' H', Gr σ l l' F H F' H' → StM M F' σ H' l' → P a l' F' H'
  | .err c f d l' => ∀ v dd F' H', Gr σ l l' F H F' H' → StM M F' σ H' l' → H' dd = some (.xd [(f, v)]) → F' dd = none → H dd = none → Rep M.K F' v d → E σ (.ref (He.ga M.K c)) (some dd) H'
  | .stuck => False
section
variable {α β : Type} {M : MC} {E : L2.St → XK} {σ : L2.St} {F H F1 H1 : Hp} {l l1 : Ld} {P P' : α → Ld → Hp → Hp → Prop} {R : β → Ld → Hp → Hp → Prop} {r : Res α}
theorem wR.mono (h : wR M E σ F H l P r) (k : ∀ a l1 F1 H1, Gr σ l l1 F H F1 H1 → StM M F1 σ H1 l1 → P a l1 F1 H1 → P' a l1 F1 H1) : wR M E σ F H l P' r := by
  cases r with
  | ok a l' => exact fun F' H' g s => k _ _ _ _ g s (h F' H' g s)
  | err c f d l' => exact h
  | stuck => exact h
theorem wR.later (g : Gr σ l l1 F H F1 H1) (h : wR M E σ F H l P r) : wR M E σ F1 H1 l1 P r := by
  cases r with
  | ok a l' => exact fun F' H' g' s => h F' H' (g.trans g') s
  | err c f d l' => exact fun v dd F' H' g' s a b c => h v dd F' H' (g.trans g') s a b (g.dom _ c)
  | stuck => exact h
theorem wR.bind {f : α → Ld → Res β} (h : wR M E σ F H l R (r.bind f)) : wR M E σ F H l (fun a l1 F1 H1 => wR M E σ F1 H1 l1 R (f a l1)) r := by
  cases r with
  | ok a l' => exact fun F' H' g s => wR.later g h
  | err c f d l' => exact h
  | stuck => exact h
end

/-! ### readings -/
abbrev ME := Ld → Res D
abbrev MT := Ld → Res Bool
abbrev ML := Ld → Res (List D)
section
variable (M : MC) (E : L2.St → XK)
def mE (g : ME) : TE := fun σ H Q => ∃ F l, StM M F σ H l ∧ wR M E σ F H l (fun d _ F' H' => ∀ v, Rep M.K F' v d → Q v H') (g l)
def mT (g : MT) : TT := fun σ H Q => ∃ F l, StM M F σ H l ∧ wR M E σ F H l (fun b _ _ H' => Q b H') (g l)
/-- a new list, not yet data -/
def mL (g : ML) : TE := fun σ H Q => ∃ F l, StM M F σ H l ∧ wR M E σ F H l (fun xs l' F' H' => ∀ p vs, H' p = some (.lst vs) → F' p = none → M.H0 p = none → H p = none → ¬ Own σ l' p → Reps M.K F' vs xs → Q (.ref p) H') (g l)
end

/-! ### new objects -/
/-- data is added -/
structure Nw (F H F' H' : Hp) : Prop where
  f : Same F F'
  h : Same H H'
  s : Same F' H'
  n : ∀ a o, H a = some o → F a = none → F' a = none
theorem Nw.refl {F H : Hp} (s : Same F H) : Nw F H F H := ⟨Same.refl _, Same.refl _, s, fun _ _ _ h => h⟩
theorem Nw.trans {F H F1 H1 F2 H2 : Hp} (a : Nw F H F1 H1) (b : Nw F1 H1 F2 H2) : Nw F H F2 H2 :=
  ⟨a.f.trans b.f, a.h.trans b.h, b.s, fun p o h f => b.n p o (a.h p o h) (a.n p o h f)⟩
theorem new_same {H : Hp} {q : Addr} {o : HO} (h : H q = none) : Same H (L2.upd H q o) := fun b x e => by
  rw [upd_ne (ne_of_none e h)]
  exact e
theorem Nw.add {F H : Hp} {p : Addr} {o : HO} (s : Same F H) (n : H p = none) : Nw F H (upd F p o) (upd H p o) where
  f := new_same (s.free n)
  h := new_same n
  s := fun b x e => by
    by_cases hb : b = p
    · subst hb
      rw [upd_same] at e ⊢
      exact e
    · rw [upd_ne hb] at e ⊢
      exact s _ _ e
  n := fun a x h f => by
    have ne : a ≠ p := ne_of_none h n
    rw [upd_ne ne]
    exact f
/-- a new object that is no data -/
theorem Nw.beside {F H : Hp} {p : Addr} {o : HO} (s : Same F H) (n : H p = none) : Nw F H F (upd H p o) :=
  ⟨Same.refl _, new_same n, s.trans (new_same n), fun _ _ _ h => h⟩
section
variable {M : MC} {σ : L2.St} {F H F' H' : Hp} {l : Ld}
theorem SlOk.up {i : Nat} {v : V} {s : Sl} (h : SlOk M F H i v s) (nw : Nw F H F' H') : SlOk M F' H' i v s := by
  cases s with
  | fr d => exact Rep.up (show Rep M.K F v d from h) nw.f
  | ow xs =>
    obtain ⟨p, vs, e, a, b, c, d⟩ := h
    exact ⟨p, vs, e, nw.h _ _ a, nw.n _ _ a b, c.up nw.f, d⟩
theorem StM.new (st : StM M F σ H l) (nw : Nw F H F' H') : StM M F' σ H' l where
  sub := nw.s
  len := st.len
  slot := fun i s e => by
    obtain ⟨v, e1, ok⟩ := st.slot i s e
    exact ⟨v, e1, ok.up nw⟩
  inj := st.inj
  keepF := st.keepF.trans nw.f
  newF := fun a o h f n => nw.n a o (st.keepH a o h n) (st.newF a o h f n)
  keepH := fun a o h n => nw.h _ _ (st.keepH a o h n)
  domH := fun a h => st.domH a (nw.h.free h)
  pars := st.pars
theorem StM.gr (st : StM M F σ H l) (nw : Nw F H F' H') : Gr σ l l F H F' H' where
  ext := nw.f
  own := fun _ h => h
  frn := fun p o h f _ => ⟨nw.n p o h f, nw.h p o h⟩
  dom := fun a h => nw.h.free h
theorem StM.ownH (st : StM M F σ H l) {p : Addr} (h : Own σ l p) : (∃ vs, H p = some vs) ∧ F p = none := by
  obtain ⟨i, xs, a, b⟩ := h
  obtain ⟨v, e, ok⟩ := st.slot i _ a
  rw [b] at e
  cases e
  obtain ⟨q, vs, e1, h1, h2, _⟩ := ok
  cases e1
  exact ⟨⟨vs, h1⟩, h2⟩
/-- an answer of a value's operation -/
theorem StM.give {P : D → Ld → Hp → Hp → Prop} {E : L2.St → XK} {d : D} (st : StM M F σ H l) (w : wR M E σ F H l P (.ok d l)) (nw : Nw F H F' H') : P d l F' H' :=
  w F' H' (st.gr nw) (st.new nw)
end

/-! ### values' operations by data -/
abbrev R2 := V → V → Hp → VK → Prop
def rD2 (K : PySem.W.Frag) (f : D → D → Option D) : R2 := fun x y H Q => ∃ F d e r, Same F H ∧ Rep K F x d ∧ Rep K F y e ∧ f d e = some r ∧ ∀ v F' H', Nw F H F' H' → Rep K F' v r → Q v H'
def rD2L (K : PySem.W.Frag) (f : D → D → Option (List D)) : R2 := fun x y H Q => ∃ F d e r, Same F H ∧ Rep K F x d ∧ Rep K F y e ∧ f d e = some r ∧ ∀ p vs, H p = none → Reps K F vs r → Q (.ref p) (upd H p (.lst vs))
def rD1 (K : PySem.W.Frag) (f : D → Option D) : V → Hp → VK → Prop := fun x H Q => ∃ F d r, Same F H ∧ Rep K F x d ∧ f d = some r ∧ ∀ v F' H', Nw F H F' H' → Rep K F' v r → Q v H'
def rDn (K : PySem.W.Frag) (f : List D → Option D) : List V → Hp → VK → Prop := fun xs H Q => ∃ F ds r, Same F H ∧ Reps K F xs ds ∧ f ds = some r ∧ ∀ v F' H', Nw F H F' H' → Rep K F' v r → Q v H'
def rDnL (K : PySem.W.Frag) (f : List D → Option (List D)) : List V → Hp → VK → Prop := fun xs H Q => ∃ F ds r, Same F H ∧ Reps K F xs ds ∧ f ds = some r ∧ ∀ p vs, H p = none → Reps K F vs r → Q (.ref p) (upd H p (.lst vs))

def bin2 (f : D → D → Option D) (a b : ME) : ME := fun l => (a l).bind fun d l1 => (b l1).bind fun e l2 => Res.lift (f d e) l2
def bin2L (f : D → D → Option (List D)) (a b : ME) : ML := fun l => (a l).bind fun d l1 => (b l1).bind fun e l2 => Res.lift (f d e) l2
section
variable {M : MC} {E : L2.St → XK} {ga gb : ME}
theorem mE_bin {f : D → D → Option D} {σ : L2.St} {H : Hp} {Q : VK} (h : mE M E (bin2 f ga gb) σ H Q) : tOp (rD2 M.K f) (mE M E ga) (mE M E gb) σ H Q := by
  obtain ⟨F, l, st, w⟩ := h
  refine ⟨F, l, st, (wR.bind w).mono fun d l1 F1 H1 g1 st1 w1 v rv => ?_⟩
  refine ⟨F1, l1, st1, (wR.bind w1).mono fun e l2 F2 H2 g2 st2 w2 u ru => ?_⟩
  cases hf : f d e with
  | none => rw [hf] at w2; exact w2.elim
  | some r =>
    rw [hf] at w2
    exact ⟨F2, d, e, r, st2.sub, rv.up g2.ext, ru, hf, fun v F' H' nw rr => st2.give w2 nw v rr⟩
theorem mL_bin {f : D → D → Option (List D)} {σ : L2.St} {H : Hp} {Q : VK} (h : mL M E (bin2L f ga gb) σ H Q) : tOp (rD2L M.K f) (mE M E ga) (mE M E gb) σ H Q := by
  obtain ⟨F, l, st, w⟩ := h
  refine ⟨F, l, st, (wR.bind w).mono fun d l1 F1 H1 g1 st1 w1 v rv => ?_⟩
  refine ⟨F1, l1, st1, (wR.bind w1).mono fun e l2 F2 H2 g2 st2 w2 u ru => ?_⟩
  cases hf : f d e with
  | none => rw [hf] at w2; exact w2.elim
  | some r =>
    rw [hf] at w2
    refine ⟨F2, d, e, r, st2.sub, rv.up g2.ext, ru, hf, fun p vs np rr => ?_⟩
    have nw := Nw.beside (o := .lst vs) st2.sub np
    refine w2 F2 _ (st2.gr nw) (st2.new nw) p vs upd_same (st2.sub.free np) (st2.domH p np) (g1.dom _ (g2.dom _ np)) (fun o => ?_) rr
    obtain ⟨⟨ws, z⟩, _⟩ := st2.ownH o
    rw [np] at z
    cases z
end
section
variable {X : Cx} {M : MC} {E : L2.St → XK} {a b : Expr} {ga gb : ME} {pos : Pos}
theorem me_op {op : Operator} {f : D → D → Option D} (ho : OpR X (binaryOp op) (rD2 M.K f)) (ha : PE X a (mE M E ga)) (hb : PE X b (mE M E gb)) : PE X (.BinOp a op b pos) (mE M E (bin2 f ga gb)) :=
  pe_imp (pe_op ho ha hb) fun _ _ _ h => mE_bin h
theorem ml_op {op : Operator} {f : D → D → Option (List D)} (ho : OpR X (binaryOp op) (rD2L M.K f)) (ha : PE X a (mE M E ga)) (hb : PE X b (mE M E gb)) : PE X (.BinOp a op b pos) (mL M E (bin2L f ga gb)) :=
  pe_imp (pe_op ho ha hb) fun _ _ _ h => mL_bin h
theorem me_cmp {op : CmpOp} {f : D → D → Option D} (ho : OpR X (compareOp op) (rD2 M.K f)) (ha : PE X a (mE M E ga)) (hb : PE X b (mE M E gb)) (hm : behindInMarks op b = false) : PE X (.Compare a [op] [b] pos) (mE M E (bin2 f ga gb)) :=
  pe_imp (pe_cmpR ho ha hb hm) fun _ _ _ h => mE_bin h
end
end Sb

namespace Sb
open PySem PySem.Spec PyProof.Rows L2

/-! ### slots -/
section
variable {M : MC} {σ : L2.St} {F H F' H' : Hp} {l : Ld}
theorem get_set {α : Type} {l : List α} {i j : Nat} {x y : α} (h : (l.set i x)[j]? = some y) : (i = j ∧ y = x) ∨ (i ≠ j ∧ l[j]? = some y) := by
  rw [List.getElem?_set] at h
  split at h
  · rename_i e
    split at h
    · exact .inl ⟨e, (Option.some.inj h).symm⟩
    · cases h
  · rename_i e
    exact .inr ⟨e, h⟩
theorem get_lt {α : Type} {l : List α} {i : Nat} {x : α} (h : l[i]? = some x) : i < l.length := by
  rw [List.getElem?_eq_some_iff] at h
  exact h.1
/-- the object of a slot becomes data -/
theorem StM.freeze {i : Nat} {xs : O} (st : StM M F σ H l) (e : l[i]? = some (some (.ow xs))) :
    ∃ p vs, σ[i]? = some (some (.ref p)) ∧ H p = some vs ∧ OwH M.K F p vs xs ∧ StM M (upd F p vs) σ H (l.set i (some (.fr xs.toD))) ∧ Gr σ l (l.set i (some (.fr xs.toD))) F H (upd F p vs) H ∧ Rep M.K (upd F p vs) (.ref p) xs.toD := by
  obtain ⟨v, ev, p, vs, rfl, hp, fp, rs, own⟩ := st.slot i _ e
  have ext : Same F (upd F p vs) := new_same fp
  have rep : Rep M.K (upd F p vs) (.ref p) xs.toD := (rs.up ext).rep upd_same
  have oth : ∀ (j : Nat) (ys : O), i ≠ j → l[j]? = some (some (.ow ys)) → ∀ q, σ[j]? = some (some (.ref q)) → q ≠ p := by
    intro j ys ne ej q eq z
    subst z
    exact ne (st.inj i j xs ys _ e ej ev eq)
  refine ⟨p, vs, ev, hp, rs, ?_, ?_, rep⟩
  · refine ⟨?_, ?_, ?_, ?_, st.keepF.trans ext, ?_, st.keepH, st.domH, st.pars⟩
    · intro b x z
      by_cases hb : b = p
      · subst hb
        rw [upd_same] at z
        cases z
        exact hp
      · rw [upd_ne hb] at z
        exact st.sub _ _ z
    · rw [List.length_set]
      exact st.len
    · intro j s ej
      rcases get_set ej with ⟨rfl, q⟩ | ⟨ne, q⟩
      · cases q
        exact ⟨_, ev, rep⟩
      · obtain ⟨v, e1, ok⟩ := st.slot j s q
        refine ⟨v, e1, ?_⟩
        cases s with
        | fr d => exact Rep.up (show Rep M.K F v d from ok) ext
        | ow ys =>
          obtain ⟨q', ws, rfl, h1, h2, h3, h4⟩ := ok
          exact ⟨q', ws, rfl, h1, by rw [upd_ne (oth j ys ne q q' e1)]; exact h2, h3.up ext, h4⟩
    · intro j k ys zs v a b
      rcases get_set a with ⟨_, q⟩ | ⟨_, q⟩
      · cases q
      · rcases get_set b with ⟨_, q'⟩ | ⟨_, q'⟩
        · cases q'
        · exact st.inj j k ys zs v q q'
    · intro a o h f n
      have ne : a ≠ p := by
        rintro rfl
        rcases own with z | z
        · rw [z] at h; cases h
        · exact n (List.mem_map.mpr ⟨_, z, rfl⟩)
      rw [upd_ne ne]
      exact st.newF a o h f n
  · refine ⟨ext, ?_, ?_, fun _ h => h⟩
    · rintro q ⟨j, ys, a, b⟩
      rcases get_set a with ⟨_, z⟩ | ⟨_, z⟩
      · cases z
      · exact ⟨j, ys, z, b⟩
    · intro q o h f n
      have ne : q ≠ p := by
        rintro rfl
        exact n ⟨i, xs, e, ev⟩
      rw [upd_ne ne]
      exact ⟨f, h⟩
/-- a slot is stored: data -/
theorem StM.setFr {i : Nat} {v : V} {d : D} (st : StM M F σ H l) (hi : i < l.length) (np : ∀ q ∈ M.ps, q.1 ≠ i) (r : Rep M.K F v d) : StM M F (σ.set i (some v)) H (l.set i (some (.fr d))) := by
  refine ⟨st.sub, by rw [List.length_set, List.length_set]; exact st.len, ?_, ?_, st.keepF, st.newF, st.keepH, st.domH, ?_⟩
  · intro j s e
    rcases get_set e with ⟨rfl, q⟩ | ⟨ne, q⟩
    · cases q
      exact ⟨v, by rw [List.getElem?_set_self (by rw [st.len]; exact hi)], r⟩
    · rw [List.getElem?_set_ne ne]
      exact st.slot j s q
  · intro j k ys zs u a b c d
    rcases get_set a with ⟨_, q⟩ | ⟨n1, q⟩
    · cases q
    · rcases get_set b with ⟨_, q'⟩ | ⟨n2, q'⟩
      · cases q'
      · rw [List.getElem?_set_ne n1] at c
        rw [List.getElem?_set_ne n2] at d
        exact st.inj j k ys zs u q q' c d
  · intro q hq
    rw [List.getElem?_set_ne (fun z => np q hq z.symm)]
    exact st.pars q hq
/-- a slot is stored: a list of the body's own -/
theorem StM.setOw {i : Nat} {p : Addr} {vs : HO} {xs : O} (st : StM M F σ H l) (hi : i < l.length) (np : ∀ q ∈ M.ps, q.1 ≠ i) (hp : H p = some vs) (fp : F p = none) (h0 : M.H0 p = none) (no : ¬ Own σ l p) (r : OwH M.K F p vs xs) :
    StM M F (σ.set i (some (.ref p))) H (l.set i (some (.ow xs))) := by
  refine ⟨st.sub, by rw [List.length_set, List.length_set]; exact st.len, ?_, ?_, st.keepF, st.newF, st.keepH, st.domH, ?_⟩
  · intro j s e
    rcases get_set e with ⟨rfl, q⟩ | ⟨ne, q⟩
    · cases q
      exact ⟨.ref p, by rw [List.getElem?_set_self (by rw [st.len]; exact hi)], p, vs, rfl, hp, fp, r, .inl h0⟩
    · rw [List.getElem?_set_ne ne]
      exact st.slot j s q
  · intro j k ys zs u a b c d
    rcases get_set a with ⟨e1, q⟩ | ⟨n1, q⟩
    · rcases get_set b with ⟨e2, q'⟩ | ⟨n2, q'⟩
      · exact e1.symm.trans e2
      · subst e1
        rw [List.getElem?_set_self (by rw [st.len]; exact hi)] at c
        cases c
        rw [List.getElem?_set_ne n2] at d
        exact (no ⟨k, zs, q', d⟩).elim
    · rcases get_set b with ⟨e2, q'⟩ | ⟨n2, q'⟩
      · subst e2
        rw [List.getElem?_set_self (by rw [st.len]; exact hi)] at d
        cases d
        rw [List.getElem?_set_ne n1] at c
        exact (no ⟨j, ys, q, c⟩).elim
      · rw [List.getElem?_set_ne n1] at c
        rw [List.getElem?_set_ne n2] at d
        exact st.inj j k ys zs u q q' c d
  · intro q hq
    rw [List.getElem?_set_ne (fun z => np q hq z.symm)]
    exact st.pars q hq
/-- the list of a slot changes -/
theorem StM.put {i : Nat} {p : Addr} {vs : HO} {xs ys : O} (st : StM M F σ H l) (e : l[i]? = some (some (.ow xs))) (ep : σ[i]? = some (some (.ref p))) (r : OwH M.K F p vs ys) :
    StM M F σ (upd H p vs) (l.set i (some (.ow ys))) ∧ Gr σ l (l.set i (some (.ow ys))) F H F (upd H p vs) := by
  obtain ⟨v, ev, q, ws, rfl, hp, fp, rs, own⟩ := st.slot i _ e
  rw [ep] at ev
  cases ev
  have hi := get_lt e
  have out : ∀ a, (∃ o, M.H0 a = some o) → a ∉ M.ps.map (·.2) → a ≠ p := by
    rintro a ⟨o, h⟩ n rfl
    rcases own with z | z
    · rw [z] at h; cases h
    · exact n (List.mem_map.mpr ⟨_, z, rfl⟩)
  refine ⟨⟨?_, by rw [List.length_set]; exact st.len, ?_, ?_, st.keepF, st.newF, ?_, ?_, st.pars⟩, ⟨Same.refl _, ?_, ?_, ?_⟩⟩
  · intro b x z
    rw [upd_ne (ne_of_none z fp)]
    exact st.sub _ _ z
  · intro j s ej
    rcases get_set ej with ⟨rfl, z⟩ | ⟨ne, z⟩
    · cases z
      exact ⟨.ref p, ep, p, vs, rfl, upd_same, fp, r, own⟩
    · obtain ⟨v, e1, ok⟩ := st.slot j s z
      refine ⟨v, e1, ?_⟩
      cases s with
      | fr d => exact ok
      | ow zs =>
        obtain ⟨q', us, rfl, h1, h2⟩ := ok
        have : q' ≠ p := by
          rintro rfl
          exact ne (st.inj i j xs zs _ e z ep e1)
        exact ⟨q', us, rfl, by rw [upd_ne this]; exact h1, h2⟩
  · intro j k as bs v a b c d
    have f : ∀ (j : Nat) (as : O), (l.set i (some (.ow ys)))[j]? = some (some (.ow as)) → ∃ cs, l[j]? = some (some (.ow cs)) := by
      intro j as a
      rcases get_set a with ⟨rfl, _⟩ | ⟨_, q⟩
      · exact ⟨xs, e⟩
      · exact ⟨as, q⟩
    obtain ⟨as', a'⟩ := f j as a
    obtain ⟨bs', b'⟩ := f k bs b
    exact st.inj j k as' bs' v a' b' c d
  · intro a o h n
    rw [upd_ne (out a ⟨o, h⟩ n)]
    exact st.keepH a o h n
  · intro a h
    by_cases z : a = p
    · subst z
      rw [upd_same] at h
      cases h
    · rw [upd_ne z] at h
      exact st.domH a h
  · rintro q ⟨j, as, a, b⟩
    rcases get_set a with ⟨rfl, z⟩ | ⟨_, z⟩
    · exact ⟨_, xs, e, b⟩
    · exact ⟨j, as, z, b⟩
  · intro q o h f n
    have : q ≠ p := by
      rintro rfl
      exact n ⟨i, xs, e, ep⟩
    rw [upd_ne this]
    exact ⟨f, h⟩
  · intro a h
    by_cases z : a = p
    · subst z
      rw [upd_same] at h
      cases h
    · rwa [upd_ne z] at h
end

/-! ### expressions -/
def rd (i : Nat) : ME := fun l => match l[i]? with
  | some (some (.fr d)) => .ok d l
  | some (some (.ow xs)) => .ok xs.toD (l.set i (some (.fr xs.toD)))
  | _ => .stuck
def cst (d : D) : ME := fun l => .ok d l
section
variable {X : Cx} {M : MC} {E : L2.St → XK} {a b e : Expr} {ga gb gc : ME} {pos : Pos}
theorem mE_rd {i : Nat} {σ : L2.St} {H : Hp} {Q : VK} (h : mE M E (rd i) σ H Q) : tVar i σ H Q := by
  obtain ⟨F, l, st, w⟩ := h
  unfold rd at w
  split at w
  · rename_i d e
    obtain ⟨v, ev, ok⟩ := st.slot i _ e
    exact ⟨v, ev, w F H (Gr.refl _ _ _ _) st v ok⟩
  · rename_i xs e
    obtain ⟨p, vs, ev, hp, rs, st', g, rep⟩ := st.freeze e
    exact ⟨.ref p, ev, w _ H g st' _ rep⟩
  · exact w.elim
theorem me_var {i : Nat} {x : Str} (hN : X.N[i]? = some x) (hv : Vis X.env.scope x) (hd : (x == ("__debug__" : Str)) = false := by decide) (hcd : (x == ("__classdict__" : Str)) = false := by decide) : PE X (.Name x pos) (mE M E (rd i)) :=
  pe_imp (pe_var hN hv hd hcd) fun _ _ _ h => mE_rd h
theorem mE_cst {v : V} {d : D} (r : ∀ F, Rep M.K F v d) {σ : L2.St} {H : Hp} {Q : VK} (h : mE M E (cst d) σ H Q) : tC v σ H Q := by
  obtain ⟨F, l, st, w⟩ := h
  exact w F H (Gr.refl _ _ _ _) st v (r F)
theorem me_cst {v : V} {d : D} (he : PE X e (tC v)) (r : ∀ F, Rep M.K F v d) : PE X e (mE M E (cst d)) := pe_imp he fun _ _ _ h => mE_cst r h
theorem me_int {i j} : PE X (.Constant (.int i) j pos) (mE M E (cst (.int i))) := me_cst pe_int fun _ => .int i
theorem me_bl {i j} : PE X (.Constant (.bool i) j pos) (mE M E (cst (.bl i))) := me_cst pe_bl fun _ => .bl i
theorem me_non {j} : PE X (.Constant .none j pos) (mE M E (cst .non)) := me_cst pe_non fun _ => .non
theorem me_str {i j} : PE X (.Constant (.str i) j pos) (mE M E (cst (.str i))) := me_cst pe_str fun _ => .str i

def un1 (f : D → Option D) (a : ME) : ME := fun l => (a l).bind fun d l1 => Res.lift (f d) l1
theorem me_un {op : UnaryOp} {f : D → Option D} (ho : UnR X (unaryOp op) (rD1 M.K f)) (ha : PE X a (mE M E ga)) : PE X (.UnaryOp op a pos) (mE M E (un1 f ga)) :=
  pe_imp (pe_un ho ha) fun σ H Q h => by
    obtain ⟨F, l, st, w⟩ := h
    refine ⟨F, l, st, (wR.bind w).mono fun d l1 F1 H1 g1 st1 w1 v rv => ?_⟩
    cases hf : f d with
    | none => rw [hf] at w1; exact w1.elim
    | some r =>
      rw [hf] at w1
      exact ⟨F1, d, r, st1.sub, rv, hf, fun v F' H' nw rr => st1.give w1 nw v rr⟩

/-! ### a new list becomes data -/
def frz (g : ML) : ME := fun l => (g l).bind fun xs l1 => .ok (.list xs) l1
/-- a new object becomes data -/
theorem StM.adopt {p : Addr} {vs : HO} {σ : L2.St} {F H : Hp} {l : Ld} (st : StM M F σ H l) (hp : H p = some vs) (fp : F p = none) (h0 : M.H0 p = none) (no : ¬ Own σ l p) : StM M (upd F p vs) σ H l := by
  have ext : Same F (upd F p vs) := new_same fp
  refine ⟨?_, st.len, ?_, st.inj, st.keepF.trans ext, ?_, st.keepH, st.domH, st.pars⟩
  · intro b x z
    by_cases hb : b = p
    · subst hb
      rw [upd_same] at z
      cases z
      exact hp
    · rw [upd_ne hb] at z
      exact st.sub _ _ z
  · intro j s ej
    obtain ⟨v, e1, ok⟩ := st.slot j s ej
    refine ⟨v, e1, ?_⟩
    cases s with
    | fr d => exact Rep.up (show Rep M.K F v d from ok) ext
    | ow ys =>
      obtain ⟨q, ws, rfl, h1, h2, h3, h4⟩ := ok
      have ne : q ≠ p := by
        rintro rfl
        exact no ⟨j, ys, ej, e1⟩
      exact ⟨q, ws, rfl, h1, by rw [upd_ne ne]; exact h2, h3.up ext, h4⟩
  · intro a o h f n
    have ne : a ≠ p := by
      rintro rfl
      rw [h0] at h
      cases h
    rw [upd_ne ne]
    exact st.newF a o h f n
theorem mE_frz {g : ML} {σ : L2.St} {H : Hp} {Q : VK} (h : mE M E (frz g) σ H Q) : mL M E g σ H Q := by
  obtain ⟨F, l, st, w⟩ := h
  refine ⟨F, l, st, ?_⟩
  unfold frz at w
  cases hg : g l with
  | stuck => rw [hg] at w; exact w
  | err c f d l' => rw [hg] at w; exact w
  | ok xs l1 =>
    rw [hg] at w
    intro F1 H1 g1 st1 p vs hp fp h0 hH no rs
    have ext : Same F1 (upd F1 p (.lst vs)) := new_same fp
    refine w (upd F1 p (.lst vs)) H1 ⟨g1.ext.trans ext, g1.own, fun q o h f n => ?_, g1.dom⟩ (st1.adopt hp fp h0 no) _ (.list upd_same (rs.up ext))
    obtain ⟨a, b⟩ := g1.frn q o h f n
    rw [upd_ne (ne_of_none h hH)]
    exact ⟨a, b⟩
theorem me_frz {g : ML} (h : PE X e (mL M E g)) : PE X e (mE M E (frz g)) := pe_imp h fun _ _ _ z => mE_frz z

/-! ### tests -/
def asB (g : ME) : MT := fun l => (g l).bind fun d l1 => match d with | .bl b => .ok b l1 | _ => .stuck
theorem mT_asB {g : ME} {σ : L2.St} {H : Hp} {Q : Bool → Hp → Prop} (h : mT M E (asB g) σ H Q) : tTest (mE M E g) σ H Q := by
  obtain ⟨F, l, st, w⟩ := h
  refine ⟨F, l, st, (wR.bind w).mono fun d l1 F1 H1 g1 st1 w1 v rv => ?_⟩
  cases d with
  | bl b =>
    cases rv
    exact ⟨b, rfl, w1 F1 H1 (Gr.refl _ _ _ _) st1⟩
  | _ => exact w1.elim
theorem mt_cmp {op : CmpOp} {f : D → D → Option D} (ho : OpR X (compareOp op) (rD2 M.K f)) (ha : PE X a (mE M E ga)) (hb : PE X b (mE M E gb)) (hm : behindInMarks op b = false) : PT X (.Compare a [op] [b] pos) (mT M E (asB (bin2 f ga gb))) := by
  refine pt_imp (pt_cmpR ho ha hb hm) fun σ H Q h => ?_
  obtain ⟨F, l, st, w⟩ := mT_asB h
  exact mE_bin ⟨F, l, st, w⟩
/-- an expression that gives a truth value -/
theorem mt_val {g : ME} (h : PE X e (mE M E g)) (he : ∀ whole, isTrue e X.env whole = (do let v ← whole; standAt e.pos; holding [v] (truthy v)) := by intro _; rfl) : PT X e (mT M E (asB g)) :=
  pt_imp (pt_val h he) fun σ H Q z => mT_asB z
def truD : D → Option Bool
  | .non => some false
  | .bl b => some b
  | .int i => some (i != 0)
  | .str y => if y.length ≤ sizeLine then some ((y.length : Int) != 0) else none
  | .scr ns => some !ns.isEmpty
  | .list xs => some !xs.isEmpty
  | .tup xs => some !xs.isEmpty
  | _ => none
def tru (g : ME) : MT := fun l => (g l).bind fun d l1 => Res.lift (truD d) l1
theorem Reps.isEmpty {K : PySem.W.Frag} {F : Hp} {vs : List V} {ds : List D} (r : Reps K F vs ds) : vs.isEmpty = ds.isEmpty := by cases r <;> rfl
theorem truD_ok {K : PySem.W.Frag} {F H : Hp} {v : V} {d : D} {k : Bool} (s : Same F H) (r : Rep K F v d) (h : truD d = some k) : TruV K v H k := by
  cases r with
  | non => cases h; rfl
  | bl b => cases h; rfl
  | int i => cases h; rfl
  | str x =>
    have h : (if x.length ≤ sizeLine then some ((x.length : Int) != 0) else none) = some k := h
    split at h
    · cases h
      exact ⟨by assumption, rfl⟩
    · cases h
  | scr q => cases h; exact .inl ⟨_, s.seq q, by rw [List.isEmpty_map]⟩
  | list q rs => cases h; exact .inl ⟨_, SqL.of (s _ _ q), by rw [rs.isEmpty]⟩
  | tup q rs => cases h; exact .inr (.inl ⟨_, seqT_same s q, by rw [rs.isEmpty]⟩)
  | ins q rs => cases h
  | cls c => cases h
  | dict q k rs n => cases h
theorem mt_truth {g : ME} (eK : X.K = M.K) (h : PE X e (mE M E g)) (he : ∀ whole, isTrue e X.env whole = (do let v ← whole; standAt e.pos; holding [v] (truthy v)) := by intro _; rfl) : PT X e (mT M E (tru g)) := by
  refine pt_imp (pt_truth h he) fun σ H Q z => ?_
  obtain ⟨F, l, st, w⟩ := z
  refine ⟨F, l, st, (wR.bind w).mono fun d l1 F1 H1 g1 st1 w1 v rv => ?_⟩
  cases hk : truD d with
  | none => rw [hk] at w1; exact w1.elim
  | some k =>
    rw [hk] at w1
    exact ⟨k, by rw [eK]; exact truD_ok st1.sub rv hk, w1 F1 H1 (Gr.refl _ _ _ _) st1⟩
def andT (a b : MT) : MT := fun l => (a l).bind fun c l1 => if c = true then b l1 else .ok false l1
def orT (a b : MT) : MT := fun l => (a l).bind fun c l1 => if c = true then .ok true l1 else b l1
def notT (a : MT) : MT := fun l => (a l).bind fun c l1 => .ok (!c) l1
section
variable {ta tb : MT} {rest : List Expr}
theorem pw_imp {t t' : TT} (h : PW X e t) (imp : ∀ σ H Q, t' σ H Q → t σ H Q) : PW X e t' := ⟨fun wh pins s σ H Q I z => h.run wh pins s σ H Q I (imp _ _ _ z)⟩
theorem mw_and1 (ha : PT X a (mT M E ta)) : PW X (.BoolOp .And [a] pos) (mT M E ta) := pw_and1 ha
theorem mw_or1 (ha : PT X a (mT M E ta)) : PW X (.BoolOp .Or [a] pos) (mT M E ta) := pw_or1 ha
theorem mw_and (ha : PT X a (mT M E ta)) (hb : PW X (.BoolOp .And (b :: rest) pos) (mT M E tb)) : PW X (.BoolOp .And (a :: b :: rest) pos) (mT M E (andT ta tb)) := by
  refine pw_imp (pw_and ha hb) fun σ H Q z => ?_
  obtain ⟨F, l, st, w⟩ := z
  refine ⟨F, l, st, (wR.bind w).mono fun c l1 F1 H1 g1 st1 w1 => ?_⟩
  cases c with
  | true => exact ⟨F1, l1, st1, w1⟩
  | false => exact w1 F1 H1 (Gr.refl _ _ _ _) st1
theorem mw_or (ha : PT X a (mT M E ta)) (hb : PW X (.BoolOp .Or (b :: rest) pos) (mT M E tb)) : PW X (.BoolOp .Or (a :: b :: rest) pos) (mT M E (orT ta tb)) := by
  refine pw_imp (pw_or ha hb) fun σ H Q z => ?_
  obtain ⟨F, l, st, w⟩ := z
  refine ⟨F, l, st, (wR.bind w).mono fun c l1 F1 H1 g1 st1 w1 => ?_⟩
  cases c with
  | false => exact ⟨F1, l1, st1, w1⟩
  | true => exact w1 F1 H1 (Gr.refl _ _ _ _) st1
theorem mt_not (ha : PT X a (mT M E ta)) : PT X (.UnaryOp .Not a pos) (mT M E (notT ta)) := by
  refine pt_imp (pt_not ha) fun σ H Q z => ?_
  obtain ⟨F, l, st, w⟩ := z
  exact ⟨F, l, st, (wR.bind w).mono fun c l1 F1 H1 g1 st1 w1 => w1 F1 H1 (Gr.refl _ _ _ _) st1⟩
/-! and, or, not as values (of truth values) -/
def andE (a b : ME) : ME := fun l => (asB a l).bind fun c l1 => if c = true then b l1 else .ok (.bl false) l1
def orE (a b : ME) : ME := fun l => (asB a l).bind fun c l1 => if c = true then .ok (.bl true) l1 else b l1
def notE (a : ME) : ME := fun l => (asB a l).bind fun c l1 => .ok (.bl !c) l1
theorem asB_bind {g : ME} {σ : L2.St} {F H : Hp} {l : Ld} {β : Type} {R : β → Ld → Hp → Hp → Prop} {k : Bool → Ld → Res β} (w : wR M E σ F H l R ((asB g l).bind k)) :
    wR M E σ F H l (fun d l1 F1 H1 => ∀ v, Rep M.K F1 v d → ∃ c, v = .bl c ∧ wR M E σ F1 H1 l1 R (k c l1)) (g l) := by
  unfold asB at w
  cases hg : g l with
  | stuck => rw [hg] at w; exact w
  | err c f d l' => rw [hg] at w; exact w
  | ok d l1 =>
    rw [hg] at w
    intro F' H' g' st' v rv
    cases d with
    | bl b => cases rv; exact ⟨b, rfl, wR.later g' w⟩
    | _ => exact w.elim
theorem me_one {op} (h : PE X a (mE M E ga)) : PE X (.BoolOp op [a] pos) (mE M E ga) := pe_one h
theorem me_and (ha : PE X a (mE M E ga)) (hb : PE X (.BoolOp .And (b :: rest) pos) (mE M E gb)) : PE X (.BoolOp .And (a :: b :: rest) pos) (mE M E (andE ga gb)) := by
  refine pe_imp (pe_and ha hb) fun σ H Q z => ?_
  obtain ⟨F, l, st, w⟩ := z
  refine ⟨F, l, st, (asB_bind w).mono fun d l1 F1 H1 g1 st1 w1 v rv => ?_⟩
  obtain ⟨c, rfl, w2⟩ := w1 v rv
  refine ⟨c, rfl, ?_⟩
  cases c with
  | true => exact ⟨F1, l1, st1, w2⟩
  | false => exact w2 F1 H1 (Gr.refl _ _ _ _) st1 _ (.bl false)
theorem me_or (ha : PE X a (mE M E ga)) (hb : PE X (.BoolOp .Or (b :: rest) pos) (mE M E gb)) : PE X (.BoolOp .Or (a :: b :: rest) pos) (mE M E (orE ga gb)) := by
  refine pe_imp (pe_or ha hb) fun σ H Q z => ?_
  obtain ⟨F, l, st, w⟩ := z
  refine ⟨F, l, st, (asB_bind w).mono fun d l1 F1 H1 g1 st1 w1 v rv => ?_⟩
  obtain ⟨c, rfl, w2⟩ := w1 v rv
  refine ⟨c, rfl, ?_⟩
  cases c with
  | false => exact ⟨F1, l1, st1, w2⟩
  | true => exact w2 F1 H1 (Gr.refl _ _ _ _) st1 _ (.bl true)
theorem me_not (ha : PE X a (mE M E ga)) : PE X (.UnaryOp .Not a pos) (mE M E (notE ga)) := by
  refine pe_imp (pe_not ha) fun σ H Q z => ?_
  obtain ⟨F, l, st, w⟩ := z
  refine ⟨F, l, st, (asB_bind w).mono fun d l1 F1 H1 g1 st1 w1 v rv => ?_⟩
  obtain ⟨c, rfl, w2⟩ := w1 v rv
  exact ⟨c, rfl, w2 F1 H1 (Gr.refl _ _ _ _) st1 _ (.bl _)⟩
def ifE (t : MT) (a b : ME) : ME := fun l => (t l).bind fun c l1 => if c = true then a l1 else b l1
theorem me_if {c : Expr} (hc : PT X c (mT M E ta)) (ha : PE X a (mE M E ga)) (hb : PE X b (mE M E gb)) : PE X (.IfExp c a b pos) (mE M E (ifE ta ga gb)) := by
  refine pe_imp (pe_ifExp hc ha hb) fun σ H Q z => ?_
  obtain ⟨F, l, st, w⟩ := z
  refine ⟨F, l, st, (wR.bind w).mono fun c l1 F1 H1 g1 st1 w1 => ?_⟩
  cases c with
  | true => exact ⟨F1, l1, st1, w1⟩
  | false => exact ⟨F1, l1, st1, w1⟩
end
/-! a < b < c -/
def chn (f g : D → D → Option D) (a b c : ME) : ME := fun l => (a l).bind fun d l1 => (b l1).bind fun e l2 => match f d e with
  | some (.bl true) => (c l2).bind fun h l3 => Res.lift (g e h) l3
  | some (.bl false) => .ok (.bl false) l2
  | _ => .stuck
theorem mE_chn {f g : D → D → Option D} {σ : L2.St} {H : Hp} {Q : VK} (h : mE M E (chn f g ga gb gc) σ H Q) : tChain (rD2 M.K f) (rD2 M.K g) (mE M E ga) (mE M E gb) (mE M E gc) σ H Q := by
  obtain ⟨F, l, st, w⟩ := h
  refine ⟨F, l, st, (wR.bind w).mono fun d l1 F1 H1 g1 st1 w1 v rv => ?_⟩
  refine ⟨F1, l1, st1, (wR.bind w1).mono fun e l2 F2 H2 g2 st2 w2 u ru => ?_⟩
  cases hf : f d e with
  | none => rw [hf] at w2; exact w2.elim
  | some r =>
    rw [hf] at w2
    refine ⟨F2, d, e, r, st2.sub, rv.up g2.ext, ru, hf, fun z F' H' nw rr => ?_⟩
    cases r with
    | bl k =>
      cases rr
      refine ⟨k, rfl, ?_⟩
      have st3 := st2.new nw
      cases k with
      | true =>
        have w3 := wR.later (st2.gr nw) w2
        refine ⟨F', l2, st3, (wR.bind w3).mono fun h l4 F4 H4 g4 st4 w4 x rx => ?_⟩
        cases hg : g e h with
        | none => rw [hg] at w4; exact w4.elim
        | some r =>
          rw [hg] at w4
          exact ⟨F4, e, h, r, st4.sub, (ru.up nw.f).up g4.ext, rx, hg, fun v F' H' nw rr => st4.give w4 nw v rr⟩
      | false => exact w2 F' H' (st2.gr nw) st3 _ (.bl false)
    | _ => exact w2.elim
end
end Sb

namespace Sb
open PySem PySem.Spec PyProof.Rows L2

/-! ### lists of values -/
def mV (M : MC) (E : L2.St → XK) (g : ML) : TA := fun σ H Q => ∃ F l, StM M F σ H l ∧ wR M E σ F H l (fun ds _ F' H' => ∀ vs, Reps M.K F' vs ds → Q vs H') (g l)
def vNil : ML := fun l => .ok [] l
def vCons (a : ME) (b : ML) : ML := fun l => (a l).bind fun d l1 => (b l1).bind fun ds l2 => .ok (d :: ds) l2
section
variable {X : Cx} {M : MC} {E : L2.St → XK} {a b e : Expr} {es : List Expr} {ga gb gc : ME} {gl gm : ML} {pos p : Pos}
theorem pa_imp {t t' : TA} (h : PA X es t) (imp : ∀ σ H Q, t' σ H Q → t σ H Q) : PA X es t' := ⟨fun pos pins s σ H Q I z => h.run pos pins s σ H Q I (imp _ _ _ z)⟩
theorem mv_nil : PA X [] (mV M E vNil) := pa_imp pa_nil fun σ H Q z => by
  obtain ⟨F, l, st, w⟩ := z
  exact w F H (Gr.refl _ _ _ _) st [] .nil
theorem mv_cons (ha : PE X e (mE M E ga)) (hr : PA X es (mV M E gl)) (hs : starEach (e :: es) X.env = (false, eval e X.env) :: starEach es X.env := by rfl) : PA X (e :: es) (mV M E (vCons ga gl)) :=
  pa_imp (pa_cons ha hr hs) fun σ H Q z => by
    obtain ⟨F, l, st, w⟩ := z
    refine ⟨F, l, st, (wR.bind w).mono fun d l1 F1 H1 g1 st1 w1 v rv => ?_⟩
    refine ⟨F1, l1, st1, (wR.bind w1).mono fun ds l2 F2 H2 g2 st2 w2 vs rs => ?_⟩
    exact w2 F2 H2 (Gr.refl _ _ _ _) st2 _ (.cons (rv.up g2.ext) rs)
/-! displays -/
def tupE (g : ML) : ME := fun l => (g l).bind fun ds l1 => if ds.length ≤ sizeLine then .ok (.tup ds) l1 else .stuck
def lstL (g : ML) : ML := fun l => (g l).bind fun ds l1 => if ds.length ≤ sizeLine then .ok ds l1 else .stuck
theorem me_tup {x1} (h : PA X es (mV M E gl)) : PE X (.Tuple es x1 pos) (mE M E (tupE gl)) := pe_imp (pe_tup h) fun σ H Q z => by
  obtain ⟨F, l, st, w⟩ := z
  refine ⟨F, l, st, (wR.bind w).mono fun ds l1 F1 H1 g1 st1 w1 vs rs => ?_⟩
  split at w1
  · rename_i hz
    refine ⟨by rw [rs.length]; exact hz, fun p np => ?_⟩
    have nw := Nw.add (o := .tup vs) st1.sub np
    exact st1.give w1 nw _ (.tup (SqT.of upd_same) (rs.up nw.f))
  · exact w1.elim
theorem ml_lst (h : PA X es (mV M E gl)) : PE X (.List es pos) (mL M E (lstL gl)) := pe_imp (pe_lst h) fun σ H Q z => by
  obtain ⟨F, l, st, w⟩ := z
  refine ⟨F, l, st, (wR.bind w).mono fun ds l1 F1 H1 g1 st1 w1 vs rs => ?_⟩
  split at w1
  · rename_i hz
    refine ⟨by rw [rs.length]; exact hz, fun p np => ?_⟩
    have nw := Nw.beside (o := .lst vs) st1.sub np
    refine w1 F1 _ (st1.gr nw) (st1.new nw) p vs upd_same (st1.sub.free np) (st1.domH p np) (g1.dom _ np) (fun o => ?_) rs
    obtain ⟨⟨ws, z⟩, _⟩ := st1.ownH o
    rw [np] at z
    cases z
  · exact w1.elim
/-! built-ins called -/
def calB (f : List D → Option D) (g : ML) : ME := fun l => (g l).bind fun ds l1 => Res.lift (f ds) l1
def calL (f : List D → Option (List D)) (g : ML) : ML := fun l => (g l).bind fun ds l1 => Res.lift (f ds) l1
theorem mE_calB {f : List D → Option D} {σ : L2.St} {H : Hp} {Q : VK} (h : mE M E (calB f gl) σ H Q) : tCB (rDn M.K f) (mV M E gl) σ H Q := by
  obtain ⟨F, l, st, w⟩ := h
  refine ⟨F, l, st, (wR.bind w).mono fun ds l1 F1 H1 g1 st1 w1 vs rs => ?_⟩
  cases hf : f ds with
  | none => rw [hf] at w1; exact w1.elim
  | some r =>
    rw [hf] at w1
    exact ⟨F1, ds, r, st1.sub, rs, hf, fun v F' H' nw rr => st1.give w1 nw v rr⟩
theorem mL_calL {f : List D → Option (List D)} {σ : L2.St} {H : Hp} {Q : VK} (h : mL M E (calL f gl) σ H Q) : tCB (rDnL M.K f) (mV M E gl) σ H Q := by
  obtain ⟨F, l, st, w⟩ := h
  refine ⟨F, l, st, (wR.bind w).mono fun ds l1 F1 H1 g1 st1 w1 vs rs => ?_⟩
  cases hf : f ds with
  | none => rw [hf] at w1; exact w1.elim
  | some r =>
    rw [hf] at w1
    refine ⟨F1, ds, r, st1.sub, rs, hf, fun p vs np rr => ?_⟩
    have nw := Nw.beside (o := .lst vs) st1.sub np
    refine w1 F1 _ (st1.gr nw) (st1.new nw) p vs upd_same (st1.sub.free np) (st1.domH p np) (g1.dom _ np) (fun o => ?_) rr
    obtain ⟨⟨ws, z⟩, _⟩ := st1.ownH o
    rw [np] at z
    cases z
theorem me_callB {id : String} {x : Str} {f : List D → Option D} (hc : CallR X (.builtin id) (rDn M.K f)) (hg : Gl X x) (hm : X.mg x = none) (hv : bootBuiltins x = some (.builtin id)) (ha : PA X (e :: es) (mV M E gl)) (hn : x ≠ "__name__" := by decide) (hdb : (x == ("__debug__" : Str)) = false := by decide)
    (he : starEach (e :: es) X.env = (false, eval e X.env) :: starEach es X.env := by rfl) (hpl : (backTo pos (starEach es X.env)).any (·.1) = false := by rfl) : PE X (.Call (.Name x p) (e :: es) [] pos) (mE M E (calB f gl)) :=
  pe_imp (pe_callB hc hg hm hv ha hn hdb he hpl) fun _ _ _ z => mE_calB z
theorem me_callTy {T : String} {x : Str} {f : List D → Option D} (hc : CallR X (.type T) (rDn M.K f)) (hg : Gl X x) (hm : X.mg x = none) (hv : bootBuiltins x = some (.type T)) (ha : PA X (e :: es) (mV M E gl)) (hn : x ≠ "__name__" := by decide) (hdb : (x == ("__debug__" : Str)) = false := by decide)
    (he : starEach (e :: es) X.env = (false, eval e X.env) :: starEach es X.env := by rfl) (hpl : (backTo pos (starEach es X.env)).any (·.1) = false := by rfl) : PE X (.Call (.Name x p) (e :: es) [] pos) (mE M E (calB f gl)) :=
  pe_imp (pe_callTy hc hg hm hv ha hn hdb he hpl) fun _ _ _ z => mE_calB z
theorem ml_callTy {T : String} {x : Str} {f : List D → Option (List D)} (hc : CallR X (.type T) (rDnL M.K f)) (hg : Gl X x) (hm : X.mg x = none) (hv : bootBuiltins x = some (.type T)) (ha : PA X (e :: es) (mV M E gl)) (hn : x ≠ "__name__" := by decide) (hdb : (x == ("__debug__" : Str)) = false := by decide)
    (he : starEach (e :: es) X.env = (false, eval e X.env) :: starEach es X.env := by rfl) (hpl : (backTo pos (starEach es X.env)).any (·.1) = false := by rfl) : PE X (.Call (.Name x p) (e :: es) [] pos) (mL M E (calL f gl)) :=
  pe_imp (pe_callTy hc hg hm hv ha hn hdb he hpl) fun _ _ _ z => mL_calL z
/-! subscripts -/
def ixD : D → D → Option D
  | .list xs, .int i => atI xs i
  | .tup xs, .int i => atI xs i
  | .scr ns, .int i => (atI ns i).map .int
  | .str z, .int i => if z.length ≤ sizeLine then (atI z.cps.toList i).map fun c => .str ⟨#[c]⟩ else none
  | _, _ => none
theorem atI_map {α β : Type} (f : α → β) (xs : List α) (i : Int) : atI (xs.map f) i = (atI xs i).map f := by
  unfold atI
  rw [List.length_map]
  cases ixN xs.length i with
  | none => rfl
  | some j => exact List.getElem?_map
theorem ixD_ok {K : PySem.W.Frag} {F H : Hp} {x y : V} {d e r : D} {Q : VK} (s : Same F H) (rx : Rep K F x d) (ry : Rep K F y e) (h : ixD d e = some r) (q : ∀ v, Rep K F v r → Q v H) : rIx K x y H Q := by
  cases ry with
  | int i =>
    cases rx with
    | list hl rs =>
      obtain ⟨v, e1, rv⟩ := rs.at_ h
      exact .inl ⟨_, _, i, v, rfl, rfl, SqL.of (s _ _ hl), e1, q v rv⟩
    | tup hl rs =>
      obtain ⟨v, e1, rv⟩ := rs.at_ h
      exact .inr (.inl ⟨_, _, i, v, rfl, rfl, seqT_same s hl, e1, q v rv⟩)
    | scr hl =>
      obtain ⟨n, e1, rfl⟩ := Option.map_eq_some_iff.mp h
      exact .inl ⟨_, _, i, .int n, rfl, rfl, s.seq hl, by rw [atI_map, e1]; rfl, q _ (.int n)⟩
    | str z =>
      have h : (if z.length ≤ sizeLine then (atI z.cps.toList i).map fun c => D.str ⟨#[c]⟩ else none) = some r := h
      split at h
      · rename_i hz
        obtain ⟨c, e1, rfl⟩ := Option.map_eq_some_iff.mp h
        exact .inr (.inr ⟨z, i, c, rfl, rfl, hz, e1, q _ (.str _)⟩)
      · cases h
    | _ => cases h
  | _ => cases rx <;> cases h
theorem me_ix (eK : X.K = M.K) (ha : PE X a (mE M E ga)) (hb : PE X b (mE M E gb)) (hs : PlainIx b := by exact fun _ _ => rfl) : PE X (.Subscript a b pos) (mE M E (bin2 ixD ga gb)) :=
  pe_imp (pe_ix ix_seq ha hb hs) fun σ H Q z => by
    obtain ⟨F, l, st, w⟩ := z
    refine ⟨F, l, st, (wR.bind w).mono fun d l1 F1 H1 g1 st1 w1 v rv => ?_⟩
    refine ⟨F1, l1, st1, (wR.bind w1).mono fun e l2 F2 H2 g2 st2 w2 u ru => ?_⟩
    cases hf : ixD d e with
    | none => rw [hf] at w2; exact w2.elim
    | some r =>
      rw [hf] at w2
      rw [eK]
      exact ixD_ok st2.sub (rv.up g2.ext) ru hf fun v rv => w2 F2 H2 (Gr.refl _ _ _ _) st2 v rv
/-- x[b], the list of the slot stays the body's own -/
def has? (i : Nat) (l : Ld) : Bool := match l[i]? with | some (some _) => true | _ => false
theorem has_some {i : Nat} {l : Ld} (h : has? i l = true) : ∃ s, l[i]? = some (some s) := by
  unfold has? at h
  split at h
  · exact ⟨_, by assumption⟩
  · cases h
def ixSl (i : Nat) (b : ME) : ME := fun l => if has? i l = true then (b l).bind fun e l2 => match l2[i]? with
  | some (some s) => Res.lift (ixD s.toD e) l2
  | _ => .stuck else .stuck
/-- a slot's object seen as data, for a moment -/
theorem StM.peek {σ : L2.St} {F H : Hp} {l : Ld} {i : Nat} {s : Sl} {v : V} (st : StM M F σ H l) (e : l[i]? = some (some s)) (ev : σ[i]? = some (some v)) : ∃ F', Same F F' ∧ Same F' H ∧ Rep M.K F' v s.toD := by
  obtain ⟨u, eu, ok⟩ := st.slot i _ e
  rw [ev] at eu
  cases eu
  cases s with
  | fr d => exact ⟨F, Same.refl _, st.sub, ok⟩
  | ow xs =>
    obtain ⟨p, vs, rfl, hp, fp, rs, _⟩ := ok
    have ext : Same F (upd F p vs) := new_same fp
    refine ⟨upd F p vs, ext, ?_, (rs.up ext).rep upd_same⟩
    intro b x z
    by_cases hb : b = p
    · subst hb
      rw [upd_same] at z
      cases z
      exact hp
    · rw [upd_ne hb] at z
      exact st.sub _ _ z
theorem ixS_ok {σ : L2.St} {F H : Hp} {l : Ld} {i : Nat} {s : Sl} {v y : V} {e r : D} {Q : VK} (st : StM M F σ H l) (hl : l[i]? = some (some s)) (ev : σ[i]? = some (some v)) (ry : Rep M.K F y e) (h : ixD s.toD e = some r) (q : ∀ v, Rep M.K F v r → Q v H) : rIx M.K v y H Q := by
  obtain ⟨u, eu, ok⟩ := st.slot i _ hl
  rw [ev] at eu
  cases eu
  cases s with
  | fr d => exact ixD_ok st.sub ok ry h q
  | ow xs =>
    obtain ⟨p, vs, rfl, hp, fp, rs, _⟩ := ok
    cases xs with
    | lst xs =>
      obtain ⟨vs, rfl, rs⟩ := rs
      cases ry with
      | int j =>
        obtain ⟨v, e1, rv⟩ := rs.at_ h
        exact .inl ⟨_, _, j, v, rfl, rfl, SqL.of hp, e1, q v rv⟩
      | _ => cases h
    | ins c fs => cases ry <;> cases h
    | dct w kvs => cases ry <;> cases h
theorem me_ixS {i : Nat} {x : Str} {p' : Pos} (eK : X.K = M.K) (hN : X.N[i]? = some x) (hv : Vis X.env.scope x) (hb : PE X b (mE M E gb)) (hs : PlainIx b := by exact fun _ _ => rfl) (hd : (x == ("__debug__" : Str)) = false := by decide) (hcd : (x == ("__classdict__" : Str)) = false := by decide)
    : PE X (.Subscript (.Name x p') b pos) (mE M E (ixSl i gb)) :=
  pe_imp (pe_ix ix_seq (pe_var hN hv hd hcd) hb hs) fun σ H Q z => by
    obtain ⟨F, l, st, w⟩ := z
    unfold ixSl at w
    split at w
    · rename_i hh
      obtain ⟨s, hl⟩ := has_some hh
      obtain ⟨v, ev, _⟩ := st.slot i s hl
      refine ⟨v, ev, F, l, st, (wR.bind w).mono fun e l2 F2 H2 g2 st2 w2 u ru => ?_⟩
      split at w2
      · rename_i s2 hl2
        cases hf : ixD s2.toD e with
        | none => rw [hf] at w2; exact w2.elim
        | some r =>
          rw [hf] at w2
          rw [eK]
          exact ixS_ok st2 hl2 ev ru hf fun v rv => w2 F2 H2 (Gr.refl _ _ _ _) st2 v rv
      · exact w2.elim
    · exact w.elim
/-! len of a slot -/
def lenD : D → Option Nat
  | .list xs => some xs.length
  | .tup xs => some xs.length
  | .scr ns => some ns.length
  | .str z => if z.length ≤ sizeLine then some z.length else none
  | _ => none
def lenSl (i : Nat) : ME := fun l => match l[i]? with
  | some (some s) => Res.lift ((lenD s.toD).map fun n => .int n) l
  | _ => .stuck
theorem lenD_ok {K : PySem.W.Frag} {F H : Hp} {v : V} {d : D} {n : Nat} (s : Same F H) (r : Rep K F v d) (h : lenD d = some n) : LenV K v H n := by
  cases r with
  | list hl rs => cases h; exact .inl ⟨_, SqL.of (s _ _ hl), rs.length.symm⟩
  | tup hl rs => cases h; exact .inr ⟨_, seqT_same s hl, rs.length.symm⟩
  | scr hl => cases h; exact .inl ⟨_, s.seq hl, (List.length_map _).symm⟩
  | str z =>
    have h : (if z.length ≤ sizeLine then some z.length else none) = some n := h
    split at h
    · cases h
      exact ⟨by assumption, rfl⟩
    · cases h
  | _ => cases h
theorem me_lenS {i : Nat} {x : Str} {p' : Pos} (eK : X.K = M.K) (hN : X.N[i]? = some x) (hv : Vis X.env.scope x) (hg : Gl X "len") (hm : X.mg "len" = none) (hd : (x == ("__debug__" : Str)) = false := by decide) (hcd : (x == ("__classdict__" : Str)) = false := by decide)
    (he : starEach [(.Name x p' : Expr)] X.env = (false, eval (.Name x p') X.env) :: starEach [] X.env := by rfl) (hpl : (backTo pos (starEach [] X.env)).any (·.1) = false := by rfl) :
    PE X (.Call (.Name "len" p) [.Name x p'] [] pos) (mE M E (lenSl i)) :=
  pe_imp (pe_callB call_len hg hm PySem.boot_len (pa_cons (pe_var hN hv hd hcd) pa_nil he) (by decide) (by decide) he hpl) fun σ H Q z => by
    obtain ⟨F, l, st, w⟩ := z
    unfold lenSl at w
    split at w
    · rename_i s hl
      obtain ⟨v, ev, _⟩ := st.slot i s hl
      obtain ⟨F', e1, e2, rp⟩ := st.peek hl ev
      cases hn : lenD s.toD with
      | none => rw [hn] at w; exact w.elim
      | some n =>
        rw [hn] at w
        refine ⟨v, ev, v, n, rfl, ?_, w F H (Gr.refl _ _ _ _) st _ (.int n)⟩
        rw [eK]
        exact lenD_ok e2 rp hn
    · exact w.elim
/-! truth of a slot -/
def truSl (i : Nat) : MT := fun l => match l[i]? with
  | some (some s) => Res.lift (truD s.toD) l
  | _ => .stuck
theorem mt_truS {i : Nat} {x : Str} {p' : Pos} (eK : X.K = M.K) (hN : X.N[i]? = some x) (hv : Vis X.env.scope x) (hd : (x == ("__debug__" : Str)) = false := by decide) (hcd : (x == ("__classdict__" : Str)) = false := by decide)
    (he : ∀ whole, isTrue (.Name x p') X.env whole = (do let v ← whole; standAt (Expr.Name x p').pos; holding [v] (truthy v)) := by intro _; rfl) : PT X (.Name x p') (mT M E (truSl i)) := by
  refine pt_imp (pt_truth (pe_var hN hv hd hcd) he) fun σ H Q z => ?_
  obtain ⟨F, l, st, w⟩ := z
  unfold truSl at w
  split at w
  · rename_i s hl
    obtain ⟨v, ev, _⟩ := st.slot i s hl
    obtain ⟨F', e1, e2, rp⟩ := st.peek hl ev
    cases hn : truD s.toD with
    | none => rw [hn] at w; exact w.elim
    | some k =>
      rw [hn] at w
      exact ⟨v, ev, k, by rw [eK]; exact truD_ok e2 rp hn, w F H (Gr.refl _ _ _ _) st⟩
  · exact w.elim
end

/-! ### arguments of defs -/
inductive Arg where
  | sl (i : Nat) | val (d : D)
abbrev MA := Ld → Res (List Arg)
def ArgR (K : PySem.W.Frag) (F : Hp) (σ : L2.St) (v : V) : Arg → Prop
  | .sl i => σ[i]? = some (some v)
  | .val d => Rep K F v d
abbrev ArgsR (K : PySem.W.Frag) (F : Hp) (σ : L2.St) : List V → List Arg → Prop := Paired (ArgR K F σ)
theorem ArgsR.up {K : PySem.W.Frag} {F F' : Hp} {σ : L2.St} (e : Same F F') : ∀ {vs : List V} {as : List Arg}, ArgsR K F σ vs as → ArgsR K F' σ vs as
  | _, _, .nil => .nil
  | _, _, .cons (b := a) r t => .cons (by
      cases a with
      | sl i => exact r
      | val d => exact Rep.up (show Rep K F _ d from r) e) (ArgsR.up e t)
def mA (M : MC) (E : L2.St → XK) (g : MA) : TA := fun σ H Q => ∃ F l, StM M F σ H l ∧ wR M E σ F H l (fun as _ F' H' => ∀ vs, ArgsR M.K F' σ vs as → Q vs H') (g l)
def aNil : MA := fun l => .ok [] l
def aVal (g : ME) (h : MA) : MA := fun l => (g l).bind fun d l1 => (h l1).bind fun as l2 => .ok (.val d :: as) l2
def aSl (i : Nat) (h : MA) : MA := fun l => if has? i l = true then (h l).bind fun as l2 => .ok (.sl i :: as) l2 else .stuck
section
variable {X : Cx} {M : MC} {E : L2.St → XK} {a b e : Expr} {es : List Expr} {ga gb gc : ME} {gl gm : ML} {gA : MA} {pos p : Pos}
theorem ma_nil : PA X [] (mA M E aNil) := pa_imp pa_nil fun σ H Q z => by
  obtain ⟨F, l, st, w⟩ := z
  exact w F H (Gr.refl _ _ _ _) st [] .nil
theorem ma_val (ha : PE X e (mE M E ga)) (hr : PA X es (mA M E gA)) (hs : starEach (e :: es) X.env = (false, eval e X.env) :: starEach es X.env := by rfl) : PA X (e :: es) (mA M E (aVal ga gA)) :=
  pa_imp (pa_cons ha hr hs) fun σ H Q z => by
    obtain ⟨F, l, st, w⟩ := z
    refine ⟨F, l, st, (wR.bind w).mono fun d l1 F1 H1 g1 st1 w1 v rv => ?_⟩
    refine ⟨F1, l1, st1, (wR.bind w1).mono fun ds l2 F2 H2 g2 st2 w2 vs rs => ?_⟩
    exact w2 F2 H2 (Gr.refl _ _ _ _) st2 _ (.cons (rv.up g2.ext) rs)
theorem ma_sl {i : Nat} {x : Str} {p' : Pos} (hN : X.N[i]? = some x) (hv : Vis X.env.scope x) (hr : PA X es (mA M E gA)) (hd : (x == ("__debug__" : Str)) = false := by decide) (hcd : (x == ("__classdict__" : Str)) = false := by decide)
    (hs : starEach (.Name x p' :: es) X.env = (false, eval (.Name x p') X.env) :: starEach es X.env := by rfl) : PA X (.Name x p' :: es) (mA M E (aSl i gA)) :=
  pa_imp (pa_cons (pe_var hN hv hd hcd) hr hs) fun σ H Q z => by
    obtain ⟨F, l, st, w⟩ := z
    unfold aSl at w
    split at w
    · rename_i hh
      obtain ⟨s, hl⟩ := has_some hh
      obtain ⟨v, ev, _⟩ := st.slot i s hl
      refine ⟨v, ev, F, l, st, (wR.bind w).mono fun ds l2 F2 H2 g2 st2 w2 vs rs => ?_⟩
      exact w2 F2 H2 (Gr.refl _ _ _ _) st2 _ (.cons ev rs)
    · exact w.elim
end
end Sb

namespace Sb
open PySem PySem.Spec PyProof.Rows L2

/-! ### contracts by mirrors -/
inductive FRes where
  | ok (r : Sl) (as : List Sl)
  | err (c f : Str) (d : D) (as : List Sl)
  | stuck
abbrev MF := List Sl → FRes
def ArgOk (K : PySem.W.Frag) (F H : Hp) (v : V) : Sl → Prop
  | .fr d => Rep K F v d
  | .ow xs => ∃ p vs, v = .ref p ∧ H p = some vs ∧ F p = none ∧ OwH K F p vs xs
structure ArgsOk (K : PySem.W.Frag) (F H : Hp) (vs : List V) (ss : List Sl) : Prop where
  len : vs.length = ss.length
  at_ : ∀ (i : Nat) (s : Sl), ss[i]? = some s → ∃ v, vs[i]? = some v ∧ ArgOk K F H v s
  inj : ∀ (i j : Nat) (xs ys : O) (v : V), ss[i]? = some (.ow xs) → ss[j]? = some (.ow ys) → vs[i]? = some v → vs[j]? = some v → i = j
def OwnA (vs : List V) (ss : List Sl) (p : Addr) : Prop := ∃ (i : Nat) (xs : O), ss[i]? = some (.ow xs) ∧ vs[i]? = some (.ref p)
structure After (K : PySem.W.Frag) (F H F' H' : Hp) (vs : List V) (ss ss' : List Sl) : Prop where
  ext : Same F F'
  sub : Same F' H'
  frn : ∀ p o, H p = some o → F p = none → ¬ OwnA vs ss p → F' p = none ∧ H' p = some o
  dom : ∀ a, H' a = none → H a = none
  at_ : ∀ (i : Nat) (s' : Sl) (xs : O), ss'[i]? = some s' → ss[i]? = some (.ow xs) → ∃ v, vs[i]? = some v ∧ ArgOk K F' H' v s'
  fr : ∀ (i : Nat) (d : D), ss[i]? = some (.fr d) → ss'[i]? = some (.fr d)
def RetA (K : PySem.W.Frag) (H F' H' : Hp) (v : V) : Sl → Prop
  | .fr d => Rep K F' v d
  | .ow xs => ∃ p vs, v = .ref p ∧ H' p = some vs ∧ F' p = none ∧ H p = none ∧ OwH K F' p vs xs
def wF (K : PySem.W.Frag) (F H : Hp) (vs : List V) (ss : List Sl) (Q : VK) (E : XK) : FRes → Prop
  | .ok r ss' => ∀ v F' H', After K F H F' H' vs ss ss' → RetA K H F' H' v r → Q v H'
  | .err c f d ss' => ∀ v dd F' H', After K F H F' H' vs ss ss' → H' dd = some (.xd [(f, v)]) → F' dd = none → H dd = none → Rep K F' v d → E (.ref (He.ga K c)) (some dd) H'
  | .stuck => False
/-- the contract of a def whose mirror is m -/
def spM (K : PySem.W.Frag) (n : Nat) (m : MF) : Sp := fun vs H Q E => ∃ F ss, ss.length = n ∧ Same F H ∧ ArgsOk K F H vs ss ∧ wF K F H vs ss Q E (m ss)

/-! ### a call -/
def resolve (l : Ld) : List Arg → Option (List Sl)
  | [] => some []
  | .sl i :: as => match l[i]? with
    | some (some s) => (resolve l as).map (s :: ·)
    | _ => none
  | .val d :: as => (resolve l as).map (.fr d :: ·)
def putA : List Arg → List Sl → Ld → Ld
  | .sl i :: as, s :: ss, l => putA as ss (l.set i (some s))
  | .val _ :: as, _ :: ss, l => putA as ss l
  | _, _, l => l
def slotsOf : List Arg → List Nat
  | [] => []
  | .sl i :: as => i :: slotsOf as
  | .val _ :: as => slotsOf as
theorem putA_len : ∀ (as : List Arg) (ss : List Sl) (l : Ld), (putA as ss l).length = l.length
  | .sl i :: as, s :: ss, l => by
    show (putA as ss (l.set i (some s))).length = _
    rw [putA_len as ss, List.length_set]
  | .val _ :: as, _ :: ss, l => putA_len as ss l
  | [], _, _ => by rw [putA]
                   all_goals intros; contradiction
  | .sl _ :: _, [], _ => by rw [putA]
                            all_goals intros; contradiction
  | .val _ :: _, [], _ => by rw [putA]
                             all_goals intros; contradiction
theorem putA_get {j : Nat} {s : Sl} : ∀ (as : List Arg) (ss : List Sl) (l : Ld), as.length = ss.length → (putA as ss l)[j]? = some (some s) →
    (∃ k : Nat, as[k]? = some (.sl j) ∧ ss[k]? = some s) ∨ ((∀ k : Nat, as[k]? ≠ some (.sl j)) ∧ l[j]? = some (some s))
  | .sl i :: as, s0 :: ss, l, n, h => by
    have h : (putA as ss (l.set i (some s0)))[j]? = some (some s) := h
    rcases putA_get as ss _ (by simpa using n) h with ⟨k, a, b⟩ | ⟨no, b⟩
    · exact .inl ⟨k + 1, by simpa using a, by simpa using b⟩
    · rcases get_set b with ⟨rfl, q⟩ | ⟨ne, q⟩
      · cases q
        exact .inl ⟨0, rfl, rfl⟩
      · refine .inr ⟨fun k => ?_, q⟩
        cases k with
        | zero => simpa using ne
        | succ k => simpa using no k
  | .val d :: as, s0 :: ss, l, n, h => by
    have h : (putA as ss l)[j]? = some (some s) := h
    rcases putA_get as ss _ (by simpa using n) h with ⟨k, a, b⟩ | ⟨no, b⟩
    · exact .inl ⟨k + 1, by simpa using a, by simpa using b⟩
    · refine .inr ⟨fun k => ?_, b⟩
      cases k with
      | zero => simp
      | succ k => simpa using no k
  | [], [], l, _, h => .inr ⟨by simp, by rw [putA] at h; exact h; all_goals intros; contradiction⟩
theorem resolve_len {l : Ld} : ∀ {as : List Arg} {ss : List Sl}, resolve l as = some ss → ss.length = as.length
  | [], _, h => by cases h; rfl
  | .sl i :: as, ss, h => by
    unfold resolve at h
    split at h
    · obtain ⟨r, e, rfl⟩ := Option.map_eq_some_iff.mp h
      exact congrArg (· + 1) (resolve_len e)
    · cases h
  | .val d :: as, ss, h => by
    obtain ⟨r, e, rfl⟩ := Option.map_eq_some_iff.mp (show (resolve l as).map (.fr d :: ·) = some ss from h)
    exact congrArg (· + 1) (resolve_len e)
theorem resolve_get {l : Ld} : ∀ {as : List Arg} {ss : List Sl} {k : Nat} {s : Sl}, resolve l as = some ss → ss[k]? = some s → (∃ i : Nat, as[k]? = some (.sl i) ∧ l[i]? = some (some s)) ∨ ∃ d, as[k]? = some (.val d) ∧ s = .fr d
  | [], _, _, _, h, e => by cases h; simp at e
  | .sl i :: as, ss, k, s, h, e => by
    unfold resolve at h
    split at h
    · rename_i s1 hl
      obtain ⟨r, e1, rfl⟩ := Option.map_eq_some_iff.mp h
      cases k with
      | zero => cases e; exact .inl ⟨i, rfl, hl⟩
      | succ k => simpa using resolve_get (k := k) (s := s) e1 (by simpa using e)
    · cases h
  | .val d :: as, ss, k, s, h, e => by
    obtain ⟨r, e1, rfl⟩ := Option.map_eq_some_iff.mp (show (resolve l as).map (.fr d :: ·) = some ss from h)
    cases k with
    | zero => cases e; exact .inr ⟨d, rfl, rfl⟩
    | succ k => simpa using resolve_get (k := k) (s := s) e1 (by simpa using e)
theorem slots_uniq : ∀ {as : List Arg} {i j k : Nat}, (slotsOf as).Nodup → as[i]? = some (.sl k) → as[j]? = some (.sl k) → i = j := by
  intro as
  have mem : ∀ (as : List Arg) (i k : Nat), as[i]? = some (.sl k) → k ∈ slotsOf as := by
    intro as
    induction as with
    | nil => intro i k h; simp at h
    | cons a as ih =>
      intro i k h
      cases i with
      | zero =>
        cases h
        exact List.mem_cons_self
      | succ i =>
        have := ih i k (by simpa using h)
        cases a with
        | sl m => exact List.mem_cons_of_mem _ this
        | val d => exact this
  induction as with
  | nil => intro i j k _ h; simp at h
  | cons a as ih =>
    intro i j k nd hi hj
    cases a with
    | sl m =>
      obtain ⟨n1, n2⟩ := List.nodup_cons.mp (show (m :: slotsOf as).Nodup from nd)
      cases i with
      | zero =>
        cases j with
        | zero => rfl
        | succ j =>
          cases hi
          exact (n1 (mem as j k (by simpa using hj))).elim
      | succ i =>
        cases j with
        | zero =>
          cases hj
          exact (n1 (mem as i k (by simpa using hi))).elim
        | succ j => exact congrArg (· + 1) (ih n2 (by simpa using hi) (by simpa using hj))
    | val d =>
      cases i with
      | zero => simp at hi
      | succ i =>
        cases j with
        | zero => simp at hj
        | succ j => exact congrArg (· + 1) (ih (show (slotsOf as).Nodup from nd) (by simpa using hi) (by simpa using hj))
theorem paired_get {α β : Type} {R : α → β → Prop} : ∀ {xs : List α} {ys : List β} {i : Nat} {y : β}, Paired R xs ys → ys[i]? = some y → ∃ x, xs[i]? = some x ∧ R x y
  | _, _, _, _, .nil, e => by simp at e
  | _, _, 0, _, .cons r _, e => by simp at e; subst e; exact ⟨_, rfl, r⟩
  | _, _, i + 1, y, .cons _ t, e => by
    obtain ⟨u, h1, h2⟩ := paired_get (i := i) (y := y) t (by simpa using e)
    exact ⟨u, by simpa using h1, h2⟩
theorem paired_len {α β : Type} {R : α → β → Prop} : ∀ {xs : List α} {ys : List β}, Paired R xs ys → xs.length = ys.length
  | _, _, .nil => rfl
  | _, _, .cons _ t => congrArg (· + 1) (paired_len t)

section
variable {M : MC} {σ : L2.St} {F H F' H' : Hp} {l : Ld} {as : List Arg} {ss ss' : List Sl} {vs : List V}
theorem args_ok (st : StM M F σ H l) (ar : ArgsR M.K F σ vs as) (re : resolve l as = some ss) (nd : (slotsOf as).Nodup) : ArgsOk M.K F H vs ss := by
  refine ⟨by rw [resolve_len re, paired_len ar], fun i s e => ?_, fun i j xs ys v a b c d => ?_⟩
  · rcases resolve_get re e with ⟨k, ea, el⟩ | ⟨d, ea, rfl⟩
    · obtain ⟨v, ev, r⟩ := paired_get ar ea
      obtain ⟨u, eu, ok⟩ := st.slot k s el
      have r : σ[k]? = some (some v) := r
      rw [r] at eu
      cases eu
      refine ⟨v, ev, ?_⟩
      cases s with
      | fr d => exact ok
      | ow xs =>
        obtain ⟨p, ws, h1, h2, h3, h4, _⟩ := ok
        exact ⟨p, ws, h1, h2, h3, h4⟩
    · obtain ⟨v, ev, r⟩ := paired_get ar ea
      exact ⟨v, ev, r⟩
  · rcases resolve_get re a with ⟨k, ea, el⟩ | ⟨d, _, z⟩
    · rcases resolve_get re b with ⟨m, eb, em⟩ | ⟨d, _, z⟩
      · obtain ⟨v1, e1, r1⟩ := paired_get ar ea
        obtain ⟨v2, e2, r2⟩ := paired_get ar eb
        rw [c] at e1
        rw [d] at e2
        cases e1
        cases e2
        have := st.inj k m xs ys v el em r1 r2
        subst this
        exact slots_uniq nd ea eb
      · cases z
    · cases z
theorem own_args (ar : ArgsR M.K F σ vs as) (re : resolve l as = some ss) {p : Addr} (h : OwnA vs ss p) : ∃ (k i : Nat) (xs : O), as[k]? = some (.sl i) ∧ ss[k]? = some (.ow xs) ∧ l[i]? = some (some (.ow xs)) ∧ σ[i]? = some (some (.ref p)) := by
  obtain ⟨k, xs, a, b⟩ := h
  rcases resolve_get re a with ⟨i, ea, el⟩ | ⟨d, _, z⟩
  · obtain ⟨v, ev, r⟩ := paired_get ar ea
    rw [b] at ev
    cases ev
    exact ⟨k, i, xs, ea, a, el, r⟩
  · cases z
theorem after_ok (st : StM M F σ H l) (ar : ArgsR M.K F σ vs as) (re : resolve l as = some ss) (nd : (slotsOf as).Nodup) (hl : ss'.length = ss.length) (af : After M.K F H F' H' vs ss ss') :
    StM M F' σ H' (putA as ss' l) ∧ Gr σ l (putA as ss' l) F H F' H' := by
  have lens : as.length = ss'.length := by rw [hl, resolve_len re]
  -- what was the body's own before
  have old : ∀ (j : Nat) (xs : O), (putA as ss' l)[j]? = some (some (.ow xs)) → ∃ ys, l[j]? = some (some (.ow ys)) := by
    intro j xs e
    rcases putA_get as ss' l lens e with ⟨k, a, b⟩ | ⟨no, b⟩
    · have hk : k < ss.length := by rw [← hl]; exact get_lt b
      rcases resolve_get re (List.getElem?_eq_getElem hk) with ⟨i, ea, el⟩ | ⟨d, ea, z⟩
      · rw [a] at ea
        cases ea
        cases hs : ss[k] with
        | ow ys => exact ⟨ys, by rw [el, hs]⟩
        | fr d =>
          have := af.fr k d (by rw [List.getElem?_eq_getElem hk, hs])
          rw [b] at this
          cases this
      · rw [a] at ea
        cases ea
    · exact ⟨xs, b⟩
  have nownA : ∀ p, ¬ Own σ l p → ¬ OwnA vs ss p := fun p n h => by
    obtain ⟨k, i, xs, _, _, el, e⟩ := own_args ar re h
    exact n ⟨i, xs, el, e⟩
  have out : ∀ a o, M.H0 a = some o → a ∉ M.ps.map (·.2) → ¬ OwnA vs ss a := by
    intro a o h n z
    obtain ⟨k, i, xs, _, _, el, e⟩ := own_args ar re z
    obtain ⟨v, ev, p, ws, rfl, _, _, _, ow⟩ := st.slot i _ el
    rw [e] at ev
    cases ev
    rcases ow with z | z
    · rw [z] at h; cases h
    · exact n (List.mem_map.mpr ⟨_, z, rfl⟩)
  refine ⟨⟨af.sub, by rw [putA_len]; exact st.len, ?_, ?_, st.keepF.trans af.ext, ?_, ?_, fun a h => st.domH a (af.dom a h), st.pars⟩, ⟨af.ext, ?_, fun p o h f n => af.frn p o h f (nownA p n), af.dom⟩⟩
  · intro j s e
    rcases putA_get as ss' l lens e with ⟨k, a, b⟩ | ⟨no, b⟩
    · have hk : k < ss.length := by rw [← hl]; exact get_lt b
      rcases resolve_get re (List.getElem?_eq_getElem hk) with ⟨i, ea, el⟩ | ⟨d, ea, z⟩
      · rw [a] at ea
        cases ea
        obtain ⟨v, ev, ok⟩ := st.slot _ _ el
        cases hs : ss[k] with
        | fr d =>
          have := af.fr k d (by rw [List.getElem?_eq_getElem hk, hs])
          rw [b] at this
          cases this
          rw [hs] at ok
          exact ⟨v, ev, Rep.up (show Rep M.K F v d from ok) af.ext⟩
        | ow ys =>
          obtain ⟨u, eu, oku⟩ := af.at_ k s ys b (by rw [List.getElem?_eq_getElem hk, hs])
          obtain ⟨u', eu', r'⟩ := paired_get ar a
          rw [eu] at eu'
          cases eu'
          have r' : σ[j]? = some (some u) := r'
          rw [ev] at r'
          cases r'
          refine ⟨v, ev, ?_⟩
          cases s with
          | fr d => exact oku
          | ow zs =>
            obtain ⟨p, ws, rfl, h1, h2, h3⟩ := oku
            rw [hs] at ok
            obtain ⟨p', ws', z, _, _, _, ow⟩ := ok
            cases z
            exact ⟨p, ws, rfl, h1, h2, h3, ow⟩
      · rw [a] at ea
        cases ea
    · obtain ⟨v, ev, ok⟩ := st.slot j s b
      refine ⟨v, ev, ?_⟩
      cases s with
      | fr d => exact Rep.up (show Rep M.K F v d from ok) af.ext
      | ow xs =>
        obtain ⟨p, ws, rfl, h1, h2, h3, h4⟩ := ok
        have no' : ¬ OwnA vs ss p := fun z => by
          obtain ⟨k, i, ys, ea, _, el, e⟩ := own_args ar re z
          have := st.inj j i xs ys _ b el ev e
          subst this
          exact no k ea
        obtain ⟨f1, h1'⟩ := af.frn p _ h1 h2 no'
        exact ⟨p, ws, rfl, h1', f1, h3.up af.ext, h4⟩
  · intro i j xs ys v a b c d
    obtain ⟨xs', a'⟩ := old i xs a
    obtain ⟨ys', b'⟩ := old j ys b
    exact st.inj i j xs' ys' v a' b' c d
  · intro a o h f n
    exact (af.frn a o (st.keepH a o h n) (st.newF a o h f n) (out a o h n)).1
  · intro a o h n
    have ha := st.keepH a o h n
    cases hf : F a with
    | none => exact (af.frn a o ha hf (out a o h n)).2
    | some o' =>
      have := st.sub _ _ hf
      rw [ha] at this
      cases this
      exact af.sub _ _ (af.ext _ _ hf)
  · rintro p ⟨i, xs, a, b⟩
    obtain ⟨ys, a'⟩ := old i xs a
    exact ⟨i, ys, a', b⟩
end

/-- what a call of the mirror m gives -/
def appE (m : MF) (dd : List D) (as : List Arg) (l : Ld) : Res D := match resolve l as with
  | none => .stuck
  | some ss => if (slotsOf as).Nodup then (match m (ss ++ dd.map .fr) with
    | .ok r ss' => if ss'.length = ss.length + dd.length then .ok r.toD (putA as (ss'.take ss.length) l) else .stuck
    | .err c f d ss' => if ss'.length = ss.length + dd.length then .err c f d (putA as (ss'.take ss.length) l) else .stuck
    | .stuck => .stuck) else .stuck
def appL (m : MF) (dd : List D) (as : List Arg) (l : Ld) : Res (List D) := match resolve l as with
  | none => .stuck
  | some ss => if (slotsOf as).Nodup then (match m (ss ++ dd.map .fr) with
    | .ok (.ow (.lst xs)) ss' => if ss'.length = ss.length + dd.length then .ok xs (putA as (ss'.take ss.length) l) else .stuck
    | .err c f d ss' => if ss'.length = ss.length + dd.length then .err c f d (putA as (ss'.take ss.length) l) else .stuck
    | _ => .stuck) else .stuck
def callE (m : MF) (dd : List D) (g : MA) : ME := fun l => (g l).bind fun as l1 => appE m dd as l1
def callL (m : MF) (dd : List D) (g : MA) : ML := fun l => (g l).bind fun as l1 => appL m dd as l1
section
variable {M : MC} {E : L2.St → XK} {σ : L2.St} {F H F' H' : Hp} {l : Ld} {as : List Arg} {ss ss' : List Sl} {vs dvs : List V} {dd : List D}
theorem take_get {α : Type} {l : List α} {n i : Nat} {x : α} (h : (l.take n)[i]? = some x) : l[i]? = some x ∧ i < n := by
  rw [List.getElem?_take] at h
  split at h
  · exact ⟨h, by assumption⟩
  · cases h
theorem args_dd (ok : ArgsOk M.K F H vs ss) (rd : Reps M.K F dvs dd) : ArgsOk M.K F H (vs ++ dvs) (ss ++ dd.map .fr) := by
  have sh : ∀ (i : Nat) (xs : O), (ss ++ dd.map Sl.fr)[i]? = some (.ow xs) → ss[i]? = some (.ow xs) := by
    intro i xs e
    rw [List.getElem?_append] at e
    split at e
    · exact e
    · rw [List.getElem?_map] at e
      obtain ⟨d, _, z⟩ := Option.map_eq_some_iff.mp e
      cases z
  refine ⟨by rw [List.length_append, List.length_append, List.length_map, ok.len, rd.length], fun i s e => ?_, fun i j xs ys v a b c d => ?_⟩
  · rw [List.getElem?_append] at e ⊢
    rw [ok.len]
    split at e
    · rename_i hi
      rw [if_pos hi]
      exact ok.at_ i s e
    · rename_i hi
      rw [if_neg hi]
      rw [List.getElem?_map] at e
      obtain ⟨d, e1, rfl⟩ := Option.map_eq_some_iff.mp e
      exact rd.get e1
  · have a' := sh i xs a
    have b' := sh j ys b
    have hi : i < vs.length := by rw [ok.len]; exact get_lt a'
    have hj : j < vs.length := by rw [ok.len]; exact get_lt b'
    rw [List.getElem?_append_left hi] at c
    rw [List.getElem?_append_left hj] at d
    exact ok.inj i j xs ys v a' b' c d
theorem after_dd (ok : ArgsOk M.K F H vs ss) (rd : Reps M.K F dvs dd) (af : After M.K F H F' H' (vs ++ dvs) (ss ++ dd.map .fr) ss') : After M.K F H F' H' vs ss (ss'.take ss.length) := by
  refine ⟨af.ext, af.sub, fun p o h f n => af.frn p o h f fun z => n ?_, af.dom, fun i s' xs a b => ?_, fun i d a => ?_⟩
  · obtain ⟨i, xs, a, b⟩ := z
    rw [List.getElem?_append] at a b
    split at a
    · rename_i hi
      rw [ok.len, if_pos hi] at b
      exact ⟨i, xs, a, b⟩
    · rw [List.getElem?_map] at a
      obtain ⟨d, _, z⟩ := Option.map_eq_some_iff.mp a
      cases z
  · obtain ⟨a1, hi⟩ := take_get a
    obtain ⟨v, e, r⟩ := af.at_ i s' xs a1 (by rw [List.getElem?_append_left hi]; exact b)
    rw [List.getElem?_append_left (by rw [ok.len]; exact hi)] at e
    exact ⟨v, e, r⟩
  · have hi := get_lt a
    have := af.fr i d (by rw [List.getElem?_append_left hi]; exact a)
    rw [List.getElem?_take, if_pos hi]
    exact this
theorem call_core {m : MF} {n : Nat} {Q : VK} (st : StM M F σ H l) (ar : ArgsR M.K F σ vs as) (dr : Reps M.K F dvs dd) (hn : as.length + dd.length = n)
    (w : wR M E σ F H l (fun d _ F' H' => ∀ v, Rep M.K F' v d → Q v H') (appE m dd as l)) : spM M.K n m (vs ++ dvs) H Q (E σ) := by
  unfold appE at w
  split at w
  · exact w.elim
  · rename_i ss re
    split at w
    · rename_i nd
      have ok := args_ok st ar re nd
      refine ⟨F, ss ++ dd.map .fr, by rw [List.length_append, List.length_map, resolve_len re]; exact hn, st.sub, args_dd ok dr, ?_⟩
      split at w
      · rename_i r ss' hm
        rw [hm]
        split at w
        · rename_i hl
          intro v F' H' af rv
          have hl' : (ss'.take ss.length).length = ss.length := by rw [List.length_take]; omega
          obtain ⟨st', gr⟩ := after_ok st ar re nd hl' (after_dd ok dr af)
          cases r with
          | fr d => exact w F' H' gr st' v rv
          | ow xs =>
            obtain ⟨p, ws, rfl, hp, fp, h0, rs⟩ := rv
            have ext : Same F' (upd F' p ws) := new_same fp
            have no : ¬ Own σ (putA as (ss'.take ss.length) l) p := fun o => by
              obtain ⟨⟨ws, z⟩, _⟩ := st.ownH (gr.own _ o)
              rw [h0] at z
              cases z
            refine w (upd F' p ws) H' ⟨gr.ext.trans ext, gr.own, fun q o h f n => ?_, gr.dom⟩ (st'.adopt hp fp (st.domH p h0) no) _ ((rs.up ext).rep upd_same)
            obtain ⟨a, b⟩ := gr.frn q o h f n
            rw [upd_ne (ne_of_none h h0)]
            exact ⟨a, b⟩
        · exact w.elim
      · rename_i c f d ss' hm
        rw [hm]
        split at w
        · rename_i hl
          intro v x F' H' af hx fx h0 rv
          have hl' : (ss'.take ss.length).length = ss.length := by rw [List.length_take]; omega
          obtain ⟨st', gr⟩ := after_ok st ar re nd hl' (after_dd ok dr af)
          exact w v x F' H' gr st' hx fx h0 rv
        · exact w.elim
      · exact w.elim
    · exact w.elim
theorem call_coreL {m : MF} {n : Nat} {Q : VK} (st : StM M F σ H l) (ar : ArgsR M.K F σ vs as) (dr : Reps M.K F dvs dd) (hn : as.length + dd.length = n)
    (w : wR M E σ F H l (fun xs l' F' H' => ∀ p vs, H' p = some (.lst vs) → F' p = none → M.H0 p = none → H p = none → ¬ Own σ l' p → Reps M.K F' vs xs → Q (.ref p) H') (appL m dd as l)) : spM M.K n m (vs ++ dvs) H Q (E σ) := by
  unfold appL at w
  split at w
  · exact w.elim
  · rename_i ss re
    split at w
    · rename_i nd
      have ok := args_ok st ar re nd
      refine ⟨F, ss ++ dd.map .fr, by rw [List.length_append, List.length_map, resolve_len re]; exact hn, st.sub, args_dd ok dr, ?_⟩
      split at w
      · rename_i xs ss' hm
        rw [hm]
        split at w
        · rename_i hl
          intro v F' H' af rv
          have hl' : (ss'.take ss.length).length = ss.length := by rw [List.length_take]; omega
          obtain ⟨st', gr⟩ := after_ok st ar re nd hl' (after_dd ok dr af)
          obtain ⟨p, _, rfl, hp, fp, h0, ws, rfl, rs⟩ := rv
          refine w F' H' gr st' p ws hp fp (st.domH p h0) h0 (fun o => ?_) rs
          obtain ⟨⟨ws, z⟩, _⟩ := st.ownH (gr.own _ o)
          rw [h0] at z
          cases z
        · exact w.elim
      · rename_i c f d ss' hm
        rw [hm]
        split at w
        · rename_i hl
          intro v x F' H' af hx fx h0 rv
          have hl' : (ss'.take ss.length).length = ss.length := by rw [List.length_take]; omega
          obtain ⟨st', gr⟩ := after_ok st ar re nd hl' (after_dd ok dr af)
          exact w v x F' H' gr st' hx fx h0 rv
        · exact w.elim
      · exact w.elim
    · exact w.elim
end
section
variable {X : Cx} {M : MC} {E : L2.St → XK} {k n : Nat} {ps : List Str} {m : MF} {dvs : List V} {dd : List D} {x : Str} {p pos : Pos} {e : Expr} {es : List Expr} {g : MA}
/-- where no error is wished for, none comes -/
theorem passF {X : Cx} (σ : L2.St) : PassesAt (L2.CX X.prog X.w) X σ (fun _ _ _ => False) := fun _ _ _ _ _ _ c => (no_cx c).elim
/-- f(e, ..) -/
theorem me_call (C : Has X.prog X.w X.K X.mg X.base (L2.CX X.prog X.w) k x ps dvs (spM X.K n m)) (eK : X.K = M.K) (dr : ∀ F, Reps M.K F dvs dd) (hn : (e :: es).length + dd.length = n) (px : ∀ σ, PassesAt (L2.CX X.prog X.w) X σ (E σ)) (sl : Still X.A) (room : Room k X.A) (gl : Gl X x) (as : PA X (e :: es) (mA M E g))
    (al : ∀ l bs l1, g l = .ok bs l1 → bs.length = (e :: es).length)
    (nd : (x == ("__debug__" : Str)) = false := by decide) (st : starEach (e :: es) X.env = (false, eval e X.env) :: starEach es X.env := by rfl) (pl : (backTo pos (starEach es X.env)).any (·.1) = false := by rfl) :
    PE X (.Call (.Name x p) (e :: es) [] pos) (mE M E (callE m dd g)) :=
  pe_imp (pe_fnS C px sl room gl as nd st pl) fun σ H Q z => by
    obtain ⟨F, l, st, w⟩ := z
    refine ⟨F, l, st, ?_⟩
    cases hg : g l with
    | stuck => unfold callE at w; rw [hg] at w; exact w.elim
    | err c f d l' => unfold callE at w; rw [hg] at w; exact w
    | ok bs l1 =>
      unfold callE at w
      rw [hg] at w
      intro F1 H1 g1 st1 vs ar
      rw [eK]
      exact call_core st1 ar (dr F1) (by rw [al _ _ _ hg]; exact hn) (wR.later g1 w)
theorem ml_call (C : Has X.prog X.w X.K X.mg X.base (L2.CX X.prog X.w) k x ps dvs (spM X.K n m)) (eK : X.K = M.K) (dr : ∀ F, Reps M.K F dvs dd) (hn : (e :: es).length + dd.length = n) (px : ∀ σ, PassesAt (L2.CX X.prog X.w) X σ (E σ)) (sl : Still X.A) (room : Room k X.A) (gl : Gl X x) (as : PA X (e :: es) (mA M E g))
    (al : ∀ l bs l1, g l = .ok bs l1 → bs.length = (e :: es).length)
    (nd : (x == ("__debug__" : Str)) = false := by decide) (st : starEach (e :: es) X.env = (false, eval e X.env) :: starEach es X.env := by rfl) (pl : (backTo pos (starEach es X.env)).any (·.1) = false := by rfl) :
    PE X (.Call (.Name x p) (e :: es) [] pos) (mL M E (callL m dd g)) :=
  pe_imp (pe_fnS C px sl room gl as nd st pl) fun σ H Q z => by
    obtain ⟨F, l, st, w⟩ := z
    refine ⟨F, l, st, ?_⟩
    cases hg : g l with
    | stuck => unfold callL at w; rw [hg] at w; exact w.elim
    | err c f d l' => unfold callL at w; rw [hg] at w; exact w
    | ok bs l1 =>
      unfold callL at w
      rw [hg] at w
      intro F1 H1 g1 st1 vs ar
      rw [eK]
      refine call_coreL st1 ar (dr F1) (by rw [al _ _ _ hg]; exact hn) ((wR.later g1 w).mono fun xs l' F' H' g' st' w' p vs hp fp h0 hH no rs => w' p vs hp fp h0 (g1.dom _ hH) no rs)
end
end Sb

namespace Sb
open PySem PySem.Spec PyProof.Rows L2

def ALen (g : MA) (n : Nat) : Prop := ∀ l bs l1, g l = .ok bs l1 → bs.length = n
theorem bind_ok {α β : Type} {r : Res α} {f : α → Ld → Res β} {b : β} {l : Ld} (h : r.bind f = .ok b l) : ∃ a l1, r = .ok a l1 ∧ f a l1 = .ok b l := by
  cases r with
  | ok a l1 => exact ⟨a, l1, rfl, h⟩
  | err c f d l1 => cases h
  | stuck => cases h
theorem al0 : ALen aNil 0 := fun l bs l1 h => by cases h; rfl
theorem alV {g : ME} {h : MA} {n : Nat} (a : ALen h n) : ALen (aVal g h) (n + 1) := fun l bs l1 e => by
  obtain ⟨d, l2, _, e2⟩ := bind_ok e
  obtain ⟨as, l3, e3, e4⟩ := bind_ok e2
  cases e4
  exact congrArg (· + 1) (a _ _ _ e3)
theorem alS {i : Nat} {h : MA} {n : Nat} (a : ALen h n) : ALen (aSl i h) (n + 1) := fun l bs l1 e => by
  unfold aSl at e
  split at e
  · obtain ⟨as, l3, e3, e4⟩ := bind_ok e
    cases e4
    exact congrArg (· + 1) (a _ _ _ e3)
  · cases e

/-! ### statements -/
inductive SRes where
  | nx (l : Ld) | rt (s : Sl) (l : Ld) | bk (l : Ld) | ct (l : Ld) | err (c f : Str) (d : D) (l : Ld) | stuck
abbrev MS := Ld → SRes
def RetOk (M : MC) (F H : Hp) (v : V) : Sl → Prop
  | .fr d => Rep M.K F v d
  | .ow xs => ∃ p vs, v = .ref p ∧ H p = some vs ∧ F p = none ∧ M.H0 p = none ∧ OwH M.K F p vs xs
def wS (M : MC) (E : L2.St → XK) (F : Hp) (Dn : Ends) : SRes → Prop
  | .nx l' => ∀ σ' F' H', Same F F' → StM M F' σ' H' l' → Dn.nx σ' H'
  | .rt s l' => ∀ v σ' F' H', Same F F' → StM M F' σ' H' l' → RetOk M F' H' v s → Dn.rt v H'
  | .bk l' => ∀ σ' F' H', Same F F' → StM M F' σ' H' l' → Dn.bk σ' H'
  | .ct l' => ∀ σ' F' H', Same F F' → StM M F' σ' H' l' → Dn.ct σ' H'
  | .err c f d l' => ∀ v dd σ' F' H', Same F F' → StM M F' σ' H' l' → H' dd = some (.xd [(f, v)]) → F' dd = none → M.H0 dd = none → Rep M.K F' v d → E σ' (.ref (He.ga M.K c)) (some dd) H'
  | .stuck => False
def mS (M : MC) (E : L2.St → XK) (g : MS) : TS := fun Dn σ H => ∃ F l, StM M F σ H l ∧ wS M E F Dn (g l)
def Res.thn {α : Type} : Res α → (α → Ld → SRes) → SRes
  | .ok a l, f => f a l
  | .err c f d l, _ => .err c f d l
  | .stuck, _ => .stuck
def SRes.seq : SRes → MS → SRes
  | .nx l, f => f l
  | r, _ => r
section
variable {M : MC} {E : L2.St → XK} {Dn : Ends} {σ : L2.St} {F H : Hp} {l : Ld}
theorem wS.later {F' : Hp} {r : SRes} (e : Same F F') (w : wS M E F Dn r) : wS M E F' Dn r := by
  cases r with
  | nx l1 => exact fun σ' F1 H' e1 => w σ' F1 H' (e.trans e1)
  | rt s l1 => exact fun v σ' F1 H' e1 => w v σ' F1 H' (e.trans e1)
  | bk l1 => exact fun σ' F1 H' e1 => w σ' F1 H' (e.trans e1)
  | ct l1 => exact fun σ' F1 H' e1 => w σ' F1 H' (e.trans e1)
  | err c f d l1 => exact fun v dd σ' F1 H' e1 => w v dd σ' F1 H' (e.trans e1)
  | stuck => exact w
theorem wS.thn {α : Type} {r : Res α} {f : α → Ld → SRes} (st : StM M F σ H l) (w : wS M E F Dn (r.thn f)) : wR M E σ F H l (fun a l1 F1 _ => wS M E F1 Dn (f a l1)) r := by
  cases r with
  | ok a l1 => exact fun F' H' g s => w.later g.ext
  | err c f d l1 => exact fun v dd F' H' g s a b n r => w v dd σ F' H' g.ext s a b (st.domH _ n) r
  | stuck => exact w
theorem wS.seq {r : SRes} {f : MS} (w : wS M E F Dn (r.seq f)) : wS M E F { Dn with nx := mS M E f Dn } r := by
  cases r with
  | nx l1 => exact fun σ' F' H' e s => ⟨F', l1, s, wS.later e w⟩
  | rt s l1 => exact w
  | bk l1 => exact w
  | ct l1 => exact w
  | err c f d l1 => exact w
  | stuck => exact w
end
def sNil : MS := fun l => .nx l
def sSeq (g h : MS) : MS := fun l => (g l).seq h
def sEx (g : ME) : MS := fun l => (g l).thn fun _ l1 => .nx l1
def sSet (i : Nat) (g : ME) : MS := fun l => (g l).thn fun d l1 => .nx (l1.set i (some (.fr d)))
def sSetL (i : Nat) (g : ML) : MS := fun l => (g l).thn fun xs l1 => .nx (l1.set i (some (.ow (.lst xs))))
def sRet (g : ME) : MS := fun l => (g l).thn fun d l1 => .rt (.fr d) l1
def sRetL (g : ML) : MS := fun l => (g l).thn fun xs l1 => .rt (.ow (.lst xs)) l1
def sRetS (i : Nat) : MS := fun l => match l[i]? with
  | some (some s) => .rt s l
  | _ => .stuck
def sRetN : MS := fun l => .rt (.fr .non) l
def sIf (t : MT) (a b : MS) : MS := fun l => (t l).thn fun c l1 => if c = true then a l1 else b l1
def sRaise (c f : Str) (g : ME) : MS := fun l => (g l).thn fun d l1 => .err c f d l1
def sBk : MS := fun l => .bk l
def sCt : MS := fun l => .ct l
/-- the slots that the body may store -/
abbrev NoPar (M : MC) (i : Nat) : Prop := ∀ q ∈ M.ps, q.1 ≠ i
section
variable {X : Cx} {M : MC} {E : L2.St → XK} {a b e : Expr} {st : Stmt} {sts rest : List Stmt} {ga gb : ME} {gl : ML} {gt : MT} {g h : MS} {pos pos' : Pos} {i : Nat} {x : Str}
theorem pss_imp {t t' : TS} (h : PSs X sts t) (imp : ∀ D σ H, t' D σ H → t D σ H) : PSs X sts t' := ⟨fun pins s σ H D I z => h.run pins s σ H D I (imp _ _ _ z)⟩
theorem ms_nil : PSs X [] (mS M E sNil) := pss_imp pss_nil fun Dn σ H z => by
  obtain ⟨F, l, st, w⟩ := z
  exact w σ F H (Same.refl _) st
theorem ms_cons (h1 : PS X st (mS M E g)) (h2 : PSs X rest (mS M E h)) : PSs X (st :: rest) (mS M E (sSeq g h)) := pss_imp (pss_cons h1 h2) fun Dn σ H z => by
  obtain ⟨F, l, st, w⟩ := z
  exact ⟨F, l, st, w.seq⟩
theorem ms_one (h1 : PS X st (mS M E g)) : PSs X [st] (mS M E g) := pss_one h1
theorem ms_expr (he : PE X e (mE M E ga)) (hs : swapsWith e none pos.line X.env = pure false := by rfl) : PS X (.Expr e pos) (mS M E (sEx ga)) := ps_imp (ps_expr he hs) fun Dn σ H z => by
  obtain ⟨F, l, st, w⟩ := z
  exact ⟨F, l, st, (wS.thn st w).mono fun d l1 F1 H1 g1 st1 w1 v _ => w1 σ F1 H1 (Same.refl _) st1⟩
theorem ms_doc {y j} : PS X (.Expr (.Constant (.str y) j pos) pos') (mS M E sNil) := ps_imp ps_doc fun Dn σ H z => by
  obtain ⟨F, l, st, w⟩ := z
  exact w σ F H (Same.refl _) st
theorem ms_pass : PS X (.Pass pos) (mS M E sNil) := ps_imp ps_pass fun Dn σ H z => by
  obtain ⟨F, l, st, w⟩ := z
  exact w σ F H (Same.refl _) st
theorem ms_break : PS X (.Break pos) (mS M E sBk) := ps_imp ps_break fun Dn σ H z => by
  obtain ⟨F, l, st, w⟩ := z
  exact w σ F H (Same.refl _) st
theorem ms_continue : PS X (.Continue pos) (mS M E sCt) := ps_imp ps_continue fun Dn σ H z => by
  obtain ⟨F, l, st, w⟩ := z
  exact w σ F H (Same.refl _) st
theorem StM.setFr' {σ : L2.St} {F H : Hp} {l : Ld} {v : V} {d : D} (st : StM M F σ H l) (np : NoPar M i) (r : Rep M.K F v d) : StM M F (σ.set i (some v)) H (l.set i (some (.fr d))) := by
  by_cases hi : i < l.length
  · exact st.setFr hi np r
  · have e := st.len
    rw [List.set_eq_of_length_le (by omega), List.set_eq_of_length_le (by omega)]
    exact st
theorem StM.setOw' {σ : L2.St} {F H : Hp} {l : Ld} {p : Addr} {vs : HO} {xs : O} (st : StM M F σ H l) (np : NoPar M i) (hp : H p = some vs) (fp : F p = none) (h0 : M.H0 p = none) (no : ¬ Own σ l p) (r : OwH M.K F p vs xs) :
    StM M F (σ.set i (some (.ref p))) H (l.set i (some (.ow xs))) := by
  by_cases hi : i < l.length
  · exact st.setOw hi np hp fp h0 no r
  · have e := st.len
    rw [List.set_eq_of_length_le (by omega), List.set_eq_of_length_le (by omega)]
    exact st
theorem ms_set (np : NoPar M i) (hN : X.N.Nodup) (hi : X.N[i]? = some x) (hx : Loc X.env.scope x) (he : PE X e (mE M E ga)) (hs : swapsWith e (some (.Name x pos')) pos.line X.env = pure false := by rfl) (hf : X.fn x = true ∨ X.env.scope.names.lookup x = some .local := by first | exact .inl rfl | exact .inr rfl | assumption) :
    PS X (.Assign [.Name x pos'] e pos) (mS M E (sSet i ga)) := ps_imp (ps_set hN hi hx he hs hf) fun Dn σ H z => by
  obtain ⟨F, l, st, w⟩ := z
  exact ⟨F, l, st, (wS.thn st w).mono fun d l1 F1 H1 g1 st1 w1 v rv => w1 _ F1 H1 (Same.refl _) (st1.setFr' np rv)⟩
theorem ms_setL (np : NoPar M i) (hN : X.N.Nodup) (hi : X.N[i]? = some x) (hx : Loc X.env.scope x) (he : PE X e (mL M E gl)) (hs : swapsWith e (some (.Name x pos')) pos.line X.env = pure false := by rfl) (hf : X.fn x = true ∨ X.env.scope.names.lookup x = some .local := by first | exact .inl rfl | exact .inr rfl | assumption) :
    PS X (.Assign [.Name x pos'] e pos) (mS M E (sSetL i gl)) := ps_imp (ps_set hN hi hx he hs hf) fun Dn σ H z => by
  obtain ⟨F, l, st, w⟩ := z
  exact ⟨F, l, st, (wS.thn st w).mono fun d l1 F1 H1 g1 st1 w1 p vs hp fp h0 _ no rs => w1 _ F1 H1 (Same.refl _) (st1.setOw' np hp fp h0 no ⟨_, rfl, rs⟩)⟩
theorem ms_ret (he : PE X e (mE M E ga)) : PS X (.Return (some e) pos) (mS M E (sRet ga)) := ps_imp (ps_ret he) fun Dn σ H z => by
  obtain ⟨F, l, st, w⟩ := z
  exact ⟨F, l, st, (wS.thn st w).mono fun d l1 F1 H1 g1 st1 w1 v rv => w1 v σ F1 H1 (Same.refl _) st1 rv⟩
theorem ms_retL (he : PE X e (mL M E gl)) : PS X (.Return (some e) pos) (mS M E (sRetL gl)) := ps_imp (ps_ret he) fun Dn σ H z => by
  obtain ⟨F, l, st, w⟩ := z
  exact ⟨F, l, st, (wS.thn st w).mono fun d l1 F1 H1 g1 st1 w1 p vs hp fp h0 _ no rs => w1 _ σ F1 H1 (Same.refl _) st1 ⟨p, _, rfl, hp, fp, h0, vs, rfl, rs⟩⟩
theorem ms_retS (np : NoPar M i) (hN : X.N[i]? = some x) (hv : Vis X.env.scope x) (hd : (x == ("__debug__" : Str)) = false := by decide) (hcd : (x == ("__classdict__" : Str)) = false := by decide) : PS X (.Return (some (.Name x pos')) pos) (mS M E (sRetS i)) := ps_imp (ps_ret (pe_var hN hv hd hcd)) fun Dn σ H z => by
  obtain ⟨F, l, st, w⟩ := z
  unfold sRetS at w
  split at w
  · rename_i s hl
    obtain ⟨v, ev, ok⟩ := st.slot i s hl
    refine ⟨v, ev, w v σ F H (Same.refl _) st ?_⟩
    cases s with
    | fr d => exact ok
    | ow xs =>
      obtain ⟨p, vs, rfl, h1, h2, h3, h4 | h4⟩ := ok
      · exact ⟨p, vs, rfl, h1, h2, h4, h3⟩
      · exact (np _ h4 rfl).elim
  · exact w.elim
theorem ms_retN : PS X (.Return none pos) (mS M E sRetN) := ps_imp ps_retN fun Dn σ H z => by
  obtain ⟨F, l, st, w⟩ := z
  exact w _ σ F H (Same.refl _) st .non
theorem ms_if {c : Expr} {as bs : List Stmt} (hc : PT X c (mT M E gt)) (ha : PSs X as (mS M E g)) (hb : PSs X bs (mS M E h)) : PS X (.If c as bs pos) (mS M E (sIf gt g h)) := ps_imp (ps_if hc ha hb) fun Dn σ H z => by
  obtain ⟨F, l, st, w⟩ := z
  refine ⟨F, l, st, (wS.thn st w).mono fun c l1 F1 H1 g1 st1 w1 => ?_⟩
  cases c with
  | true => exact ⟨F1, l1, st1, w1⟩
  | false => exact ⟨F1, l1, st1, w1⟩
/-- raise C(e), C an error of the package -/
theorem ms_raise {k : Nat} {W : WX} {f : Str} {p pos2 : Pos} (M' : Err X.prog X.w X.K X.mg X.base x f) (eK : X.K = M.K) (calm : X.calm = true) (tk : Takes X W) (room : Room (k + 2) X.A) (gl : Gl X x) (he : PE X e (mE M (WE W) ga))
    (nd : (x == ("__debug__" : Str)) = false := by decide) (st : starEach [e] X.env = (false, eval e X.env) :: starEach [] X.env := by rfl) (pl : (backTo pos (starEach [] X.env)).any (·.1) = false := by rfl) :
    PS X (.Raise (some (.Call (.Name x p) [e] [] pos)) none pos2) (mS M (WE W) (sRaise x f ga)) := ps_imp (ps_err M' calm tk room gl he nd st pl) fun Dn σ H z => by
  obtain ⟨F, l, st, w⟩ := z
  refine ⟨F, l, st, (wS.thn st w).mono fun d l1 F1 H1 g1 st1 w1 v rv dd nd => ?_⟩
  have nw := Nw.beside (o := .xd [(f, v)]) st1.sub nd
  rw [eK]
  exact w1 v dd σ F1 _ (Same.refl _) (st1.new nw) upd_same (st1.sub.free nd) (st1.domH _ nd) rv

/-! ### loops -/
/-- what the body of a loop gives, to what the loop goes on -/
def loopR (r : SRes) (k : MS) : SRes := match r with
  | .nx l' => k l'
  | .ct l' => k l'
  | .bk l' => .nx l'
  | r => r
def forM (i : Nat) (b : MS) : List D → MS
  | [], l => .nx l
  | x :: xs, l => loopR (b (l.set i (some (.fr x)))) (forM i b xs)
theorem forM_cons {i : Nat} {b : MS} {x : D} {xs : List D} {l : Ld} : forM i b (x :: xs) l = loopR (b (l.set i (some (.fr x)))) (forM i b xs) := rfl
theorem wS.loop {F : Hp} {r : SRes} {k : MS} {Dn : Ends} {N : L2.St → Hp → Prop} (w : wS M E F Dn (loopR r k)) (hN : ∀ σ F' H l, Same F F' → StM M F' σ H l → wS M E F' Dn (k l) → N σ H) : wS M E F { Dn with nx := N, ct := N, bk := Dn.nx } r := by
  cases r with
  | nx l' => exact fun σ F' H e st => hN σ F' H l' e st (wS.later e w)
  | ct l' => exact fun σ F' H e st => hN σ F' H l' e st (wS.later e w)
  | bk l' => exact w
  | rt s l' => exact w
  | err c f d l' => exact w
  | stuck => exact w
/-- what a for walks, by data -/
def itD : D → Option (List D)
  | .list xs => some xs
  | .tup xs => some xs
  | .scr ns => some (ns.map .int)
  | _ => none
def sFor (i : Nat) (g : Ld → Res (List D)) (b : MS) : MS := fun l => (g l).thn fun xs l1 => forM i b xs l1
/-- for over range(..) -/
def rng1 (g : ML) : ML := fun l => (g l).bind fun ds l1 => match ds with
  | [.int j] => if -(2 ^ 62) ≤ j ∧ j < 2 ^ 62 then .ok ((List.range j.toNat).map fun (k : Nat) => .int k) l1 else .stuck
  | _ => .stuck
def rng2 (g : ML) : ML := fun l => (g l).bind fun ds l1 => match ds with
  | [.int i, .int j] => if -(2 ^ 62) ≤ i ∧ i < 2 ^ 62 ∧ -(2 ^ 62) ≤ j ∧ j < 2 ^ 62 then .ok ((List.range (j - i).toNat).map fun (k : Nat) => .int (i + k)) l1 else .stuck
  | _ => .stuck
theorem drop_cons {α : Type} {xs : List α} {i : Nat} {x : α} (h : xs[i]? = some x) : xs.drop i = x :: xs.drop (i + 1) := by
  obtain ⟨hi, rfl⟩ := List.getElem?_eq_some_iff.mp h
  exact List.drop_eq_getElem_cons hi
end
end Sb

namespace Sb
open PySem PySem.Spec PyProof.Rows L2

/-! ### while -/
def whileN (c : MT) (b : MS) : Nat → MS
  | 0, _ => .stuck
  | n + 1, l => (c l).thn fun k l1 => if k = true then loopR (b l1) (whileN c b n) else .nx l1
open Classical in
noncomputable def whileM (c : MT) (b : MS) : MS := fun l => if h : ∃ n, whileN c b n l ≠ .stuck then whileN c b h.choose l else .stuck
theorem whileN_up {c : MT} {b : MS} : ∀ (n : Nat) (l : Ld), whileN c b n l ≠ .stuck → whileN c b (n + 1) l = whileN c b n l
  | 0, l, h => (h rfl).elim
  | n + 1, l, h => by
    rw [whileN] at h
    rw [whileN, whileN]
    cases hc : c l with
    | stuck => rfl
    | err a f d l1 => rfl
    | ok k l1 =>
      rw [hc] at h
      cases k with
      | false => rfl
      | true =>
        show loopR (b l1) (whileN c b (n + 1)) = loopR (b l1) (whileN c b n)
        have h : loopR (b l1) (whileN c b n) ≠ .stuck := h
        cases hb : b l1 with
        | nx l2 => rw [hb] at h; exact whileN_up n l2 h
        | ct l2 => rw [hb] at h; exact whileN_up n l2 h
        | _ => rfl
theorem whileN_add {c : MT} {b : MS} {n : Nat} {l : Ld} (h : whileN c b n l ≠ .stuck) : ∀ k, whileN c b (n + k) l = whileN c b n l
  | 0 => rfl
  | k + 1 => by
    have := whileN_add h k
    rw [← Nat.add_assoc, whileN_up _ _ (by rw [this]; exact h), this]
theorem whileM_of {c : MT} {b : MS} {n : Nat} {l : Ld} {r : SRes} (h : whileN c b n l = r) (ne : r ≠ .stuck) : whileM c b l = r := by
  have ex : ∃ n, whileN c b n l ≠ .stuck := ⟨n, by rw [h]; exact ne⟩
  unfold whileM
  rw [dif_pos ex]
  have h1 := whileN_add ex.choose_spec n
  have h2 := whileN_add (by rw [h]; exact ne : whileN c b n l ≠ .stuck) ex.choose
  rw [Nat.add_comm] at h1
  rw [← h1, h2, h]
theorem whileM_some {c : MT} {b : MS} {l : Ld} (h : whileM c b l ≠ .stuck) : ∃ n, whileN c b n l = whileM c b l := by
  by_cases ex : ∃ n, whileN c b n l ≠ .stuck
  · exact ⟨ex.choose, by unfold whileM; rw [dif_pos ex]⟩
  · unfold whileM at h
    rw [dif_neg ex] at h
    exact (h rfl).elim
theorem whileM_eq (c : MT) (b : MS) (l : Ld) : whileM c b l = (c l).thn fun k l1 => if k = true then loopR (b l1) (whileM c b) else .nx l1 := by
  -- from a tail
  have tail : ∀ (l1 : Ld) (n : Nat), loopR (b l1) (whileN c b n) ≠ .stuck → loopR (b l1) (whileN c b n) = loopR (b l1) (whileM c b) := by
    intro l1 n h
    cases hb : b l1 with
    | nx l2 => rw [hb] at h; exact (whileM_of rfl h).symm
    | ct l2 => rw [hb] at h; exact (whileM_of rfl h).symm
    | _ => rfl
  by_cases ex : whileM c b l = .stuck
  · rw [ex]
    cases hc : c l with
    | stuck => rfl
    | err a f d l1 =>
      have : whileN c b 1 l = .err a f d l1 := by rw [whileN, hc]; rfl
      rw [whileM_of this (by intro z; cases z)] at ex
      cases ex
    | ok k l1 =>
      cases k with
      | false =>
        have : whileN c b 1 l = .nx l1 := by rw [whileN, hc]; rfl
        rw [whileM_of this (by intro z; cases z)] at ex
        cases ex
      | true =>
        show SRes.stuck = loopR (b l1) (whileM c b)
        have back : ∀ n, loopR (b l1) (whileN c b n) = .stuck := by
          intro n
          apply Classical.byContradiction
          intro h
          have : whileN c b (n + 1) l = loopR (b l1) (whileN c b n) := by rw [whileN, hc]; rfl
          rw [whileM_of this h] at ex
          exact h ex
        cases hb : b l1 with
        | nx l2 =>
          apply Classical.byContradiction
          intro h
          obtain ⟨n, hn⟩ := whileM_some (c := c) (b := b) (l := l2) (fun z => h (by show SRes.stuck = whileM c b l2; rw [z]))
          have := back n
          rw [hb] at this
          have this : whileN c b n l2 = .stuck := this
          rw [hn] at this
          exact h (by show SRes.stuck = whileM c b l2; rw [this])
        | ct l2 =>
          apply Classical.byContradiction
          intro h
          obtain ⟨n, hn⟩ := whileM_some (c := c) (b := b) (l := l2) (fun z => h (by show SRes.stuck = whileM c b l2; rw [z]))
          have := back n
          rw [hb] at this
          have this : whileN c b n l2 = .stuck := this
          rw [hn] at this
          exact h (by show SRes.stuck = whileM c b l2; rw [this])
        | bk l2 => have := back 0; rw [hb] at this; cases this
        | rt s l2 => have := back 0; rw [hb] at this; cases this
        | err a f d l2 => have := back 0; rw [hb] at this; cases this
        | stuck => rfl
  · obtain ⟨n, hn⟩ := whileM_some ex
    cases n with
    | zero => rw [whileN] at hn; exact (ex hn.symm).elim
    | succ n =>
      rw [← hn] at ex ⊢
      rw [whileN] at ex ⊢
      cases hc : c l with
      | stuck => rfl
      | err a f d l1 => rfl
      | ok k l1 =>
        rw [hc] at ex
        cases k with
        | false => rfl
        | true => exact tail l1 n ex

section
variable {X : Cx} {M : MC} {E : L2.St → XK} {a b e : Expr} {st : Stmt} {sts rest : List Stmt} {ga gb : ME} {gl : ML} {gt : MT} {g h : MS} {pos pos' : Pos} {i : Nat} {x : Str}
theorem ms_while {c : Expr} {body : List Stmt} (hp : PassesOwn (model X.prog X.w) X.A X.env X.xe) (hc : PT X c (mT M E gt)) (hb : PSs X body (mS M E g)) : PS X (.While c body [] pos) (mS M E (whileM gt g)) := by
  refine ps_imp (ps_while hp hc hb) fun Dn σ H z => ?_
  obtain ⟨F, l, st, w⟩ := z
  have ne : whileM gt g l ≠ .stuck := fun z => by rw [z] at w; exact w
  obtain ⟨n, hn⟩ := whileM_some ne
  rw [← hn] at w
  refine ⟨fun m σ H => ∃ F l, StM M F σ H l ∧ wS M E F Dn (whileN gt g m l), ⟨n, F, l, st, w⟩, ?_⟩
  rintro m σ H ⟨F, l, st, w⟩
  cases m with
  | zero => exact w.elim
  | succ m =>
    refine ⟨F, l, st, (wS.thn st w).mono fun k l1 F1 H1 g1 st1 w1 => ?_⟩
    cases k with
    | true => exact ⟨_, fun σ' H' z => ⟨m, Nat.lt_succ_self m, z⟩, F1, l1, st1, wS.loop w1 fun σ F' H l _ st w => ⟨F', l, st, w⟩⟩
    | false => exact w1 σ F1 H1 (Same.refl _) st1

/-! ### targets -/
abbrev MG := D → Ld → Option Ld
structure SameOff (ts : List Nat) (σ σ' : L2.St) : Prop where
  len : σ'.length = σ.length
  off : ∀ j, j ∉ ts → σ'[j]? = σ[j]?
def mG (M : MC) (ts : List Nat) (t : MG) : TG := fun v σ H Q => ∃ F l d, StM M F σ H l ∧ Rep M.K F v d ∧ ∃ l', t d l = some l' ∧ ∀ σ', StM M F σ' H l' → SameOff ts σ σ' → Q σ' H
def mGs (M : MC) (ts : List Nat) (t : List D → Ld → Option Ld) : TGs := fun vs σ H Q => ∃ F l ds, StM M F σ H l ∧ Reps M.K F vs ds ∧ ∃ l', t ds l = some l' ∧ ∀ σ', StM M F σ' H l' → SameOff ts σ σ' → Q σ' H
def tName (i : Nat) : MG := fun d l => some (l.set i (some (.fr d)))
def tNil : List D → Ld → Option Ld
  | [], l => some l
  | _, _ => none
def tCons (t : MG) (r : List D → Ld → Option Ld) : List D → Ld → Option Ld
  | d :: ds, l => (t d l).bind fun l1 => r ds l1
  | _, _ => none
def tTupl (n : Nat) (r : List D → Ld → Option Ld) : MG
  | .tup ds, l => if ds.length = n then r ds l else none
  | _, _ => none
theorem pg_imp {tg : Expr} {t t' : TG} (h : PG X tg t) (imp : ∀ v σ H Q, t' v σ H Q → t v σ H Q) : PG X tg t' := ⟨fun pins s σ H x u Q I r z => h.run pins s σ H x u Q I r (imp _ _ _ _ z)⟩
theorem mg_name (np : NoPar M i) (hN : X.N.Nodup) (hi : X.N[i]? = some x) (hx : Loc X.env.scope x) (hf : X.fn x = true ∨ X.env.scope.names.lookup x = some .local := by first | exact .inl rfl | exact .inr rfl | assumption) : PG X (.Name x pos) (mG M [i] (tName i)) :=
  pg_imp (pg_name hN hi hx hf) fun v σ H Q z => by
    obtain ⟨F, l, d, st, r, l', e, q⟩ := z
    cases e
    refine q _ (st.setFr' np r) ⟨List.length_set, fun j hj => List.getElem?_set_ne fun z => hj (by rw [z]; exact List.mem_cons_self)⟩
theorem SameOff.refl (ts : List Nat) (σ : L2.St) : SameOff ts σ σ := ⟨rfl, fun _ _ => rfl⟩
theorem SameOff.more {ts us : List Nat} {σ σ' : L2.St} (h : SameOff ts σ σ') (s : ∀ j ∈ ts, j ∈ us) : SameOff us σ σ' := ⟨h.len, fun j hj => h.off j fun z => hj (s j z)⟩
theorem SameOff.trans {ts : List Nat} {σ σ1 σ2 : L2.St} (h : SameOff ts σ σ1) (h' : SameOff ts σ1 σ2) : SameOff ts σ σ2 := ⟨h'.len.trans h.len, fun j hj => (h'.off j hj).trans (h.off j hj)⟩
theorem pgs_imp {es : List Expr} {t t' : TGs} (h : PGs X es t) (imp : ∀ v σ H Q, t' v σ H Q → t v σ H Q) : PGs X es t' := ⟨fun pins s σ H x u Q I r z => h.run pins s σ H x u Q I r (imp _ _ _ _ z)⟩
theorem mgs_nil : PGs X [] (mGs M [] tNil) := pgs_imp pgs_nil fun vs σ H Q z => by
  obtain ⟨F, l, ds, st, r, l', e, q⟩ := z
  cases r with
  | nil => cases e; exact ⟨rfl, q σ st (SameOff.refl _ _)⟩
  | cons _ _ => cases e
theorem mgs_cons {es : List Expr} {ts us : List Nat} {t : MG} {r : List D → Ld → Option Ld} (h1 : PG X e (mG M ts t)) (h2 : PGs X es (mGs M us r))
    (hs : (assignEach (e :: es) X.env).map (·.2) = assign e X.env :: (assignEach es X.env).map (·.2) := by rfl) : PGs X (e :: es) (mGs M (ts ++ us) (tCons t r)) := pgs_imp (pgs_cons h1 h2 hs) fun vs σ H Q z => by
  obtain ⟨F, l, ds, st, rs, l', e, q⟩ := z
  cases rs with
  | nil => cases e
  | cons r1 r2 =>
    obtain ⟨l1, e1, e2⟩ := Option.bind_eq_some_iff.mp e
    refine ⟨_, _, rfl, F, l, _, st, r1, l1, e1, fun σ1 st1 s1 => ⟨F, l1, _, st1, r2, l', e2, fun σ2 st2 s2 => ?_⟩⟩
    exact q σ2 st2 ((s1.more fun j hj => List.mem_append_left _ hj).trans (s2.more fun j hj => List.mem_append_right _ hj))
theorem mg_tup {es : List Expr} {k n : Nat} {ts : List Nat} {r : List D → Ld → Option Ld} (eK : X.K = M.K) (hc : X.calm = true) (h : PGs X es (mGs M ts r))
    (hn : (assignEach es X.env).length = n := by rfl) (hst : (assignEach es X.env).findIdx? (·.1) = none := by rfl) : PG X (.Tuple es k pos) (mG M ts (tTupl n r)) := pg_imp (pg_tup hc h hn hst) fun v σ H Q z => by
  obtain ⟨F, l, d, st, rv, l', e, q⟩ := z
  cases rv with
  | tup ht rs =>
    have e : (if _ then _ else _) = some l' := e
    split at e
    · rename_i hl
      refine ⟨_, _, rfl, by rw [eK]; exact seqT_same st.sub ht, by rw [rs.length]; exact hl, F, l, _, st, rs, l', e, q⟩
    · cases e
  | _ => cases e
def sAsg (g : ME) (t : MG) : MS := fun l => (g l).thn fun d l1 => match t d l1 with
  | some l2 => .nx l2
  | none => .stuck
theorem ms_asg {tg e : Expr} {ts : List Nat} {t : MG} (he : PE X e (mE M E ga)) (hg : PG X tg (mG M ts t)) (hs : swapsWithSole [tg] e pos.line X.env = pure false := by rfl) (hw : swappedStores [tg] e X.env = pure none := by rfl) (h1 : (assignEach [tg] X.env).map (·.2) = [assign tg X.env] := by rfl) : PS X (.Assign [tg] e pos) (mS M E (sAsg ga t)) :=
  ps_imp (ps_asg he hg hs hw h1) fun Dn σ H z => by
    obtain ⟨F, l, st, w⟩ := z
    refine ⟨F, l, st, (wS.thn st w).mono fun d l1 F1 H1 g1 st1 w1 v rv => ?_⟩
    cases ht : t d l1 with
    | none => rw [ht] at w1; exact w1.elim
    | some l2 =>
      rw [ht] at w1
      exact ⟨F1, l1, d, st1, rv, l2, ht, fun σ' st' _ => w1 σ' F1 H1 (Same.refl _) st'⟩

/-! ### what is walked -/
structure WalkD (M : MC) (J : It) (xs : List D) (F : Hp) : Prop where
  ex : ∃ (G : Hp → Prop) (Y : Nat → Hp → V → Hp → Prop), Walk J xs.length G Y ∧ (∀ F' H, Same F F' → Same F' H → G H) ∧
    ∀ i H x H' F', Same F F' → Same F' H → Y i H x H' → ∃ F'' d, Nw F' H F'' H' ∧ xs[i]? = some d ∧ Rep M.K F'' x d
def mI (M : MC) (E : L2.St → XK) (g : ML) : TI := fun σ H R => ∃ F l, StM M F σ H l ∧ wR M E σ F H l (fun xs _ F1 H1 => ∀ J, WalkD M J xs F1 → R J H1) (g l)
theorem pi_imp {tg : Expr} {t t' : TI} (h : PI X tg e t) (imp : ∀ σ H R, t' σ H R → t σ H R) : PI X tg e t' := ⟨fun pins s σ H R I z => h.run pins s σ H R I (imp _ _ _ z)⟩
theorem pi_or {tg : Expr} {t t' : TI} (h : PI X tg e t) (h' : PI X tg e t') : PI X tg e (fun σ H R => t σ H R ∨ t' σ H R) := ⟨fun pins s σ H R I z => z.elim (h.run pins s σ H R I) (h'.run pins s σ H R I)⟩
def chars (z : Str) : List D := z.cps.toList.map fun c => .str ⟨#[c]⟩
def walkD : D → Option (List D)
  | .list xs => some xs
  | .tup xs => some xs
  | .scr ns => some (ns.map .int)
  | .str z => some (chars z)
  | .dict _ kvs => some (kvs.map (·.1))
  | _ => none
def itE (g : ME) : ML := fun l => (g l).bind fun d l1 => Res.lift (walkD d) l1
theorem walkD_list {a : Addr} {vs : List V} {xs : List D} {F : Hp} (h : F a = some (.lst vs)) (rs : Reps M.K F vs xs) : WalkD M (Itl M.K a) xs F := by
  refine ⟨_, _, rs.length ▸ walk_list (K := M.K) (a := a) (xs := vs), fun F' H e s => SqL.of (s _ _ (e _ _ h)), fun i H x H' F' e s y => ?_⟩
  obtain ⟨rfl, y⟩ := y
  have hi : i < xs.length := by rw [← rs.length]; exact get_lt y
  obtain ⟨v, e1, r⟩ := rs.get (List.getElem?_eq_getElem hi)
  rw [y] at e1
  cases e1
  exact ⟨F', _, Nw.refl s, List.getElem?_eq_getElem hi, r.up e⟩
theorem walkD_scr {a : Addr} {ns : List Int} {F : Hp} (h : SqL M.K F a (ns.map V.int)) : WalkD M (Itl M.K a) (ns.map .int) F := by
  have hl : (ns.map V.int).length = (ns.map D.int).length := by rw [List.length_map, List.length_map]
  refine ⟨_, _, hl ▸ walk_list (K := M.K) (a := a) (xs := ns.map V.int), fun F' H e s => s.seq (e.seq h), fun i H x H' F' e s y => ?_⟩
  obtain ⟨rfl, y⟩ := y
  rw [List.getElem?_map] at y
  obtain ⟨n, e1, rfl⟩ := Option.map_eq_some_iff.mp y
  exact ⟨F', .int n, Nw.refl s, by rw [List.getElem?_map, e1]; rfl, .int n⟩
theorem walkD_tup {a : Addr} {vs : List V} {xs : List D} {F : Hp} (h : SqT M.K F a vs) (rs : Reps M.K F vs xs) : WalkD M (Itt M.K a) xs F := by
  refine ⟨_, _, rs.length ▸ walk_tup (K := M.K) (a := a) (xs := vs), fun F' H e s => seqT_same s (seqT_same e h), fun i H x H' F' e s y => ?_⟩
  obtain ⟨rfl, y⟩ := y
  have hi : i < xs.length := by rw [← rs.length]; exact get_lt y
  obtain ⟨v, e1, r⟩ := rs.get (List.getElem?_eq_getElem hi)
  rw [y] at e1
  cases e1
  exact ⟨F', _, Nw.refl s, List.getElem?_eq_getElem hi, r.up e⟩
theorem walkD_str {z : Str} {F : Hp} : WalkD M (Its z) (chars z) F := by
  have hl : z.cps.size = (chars z).length := by rw [chars, List.length_map, Array.length_toList]
  refine ⟨_, _, hl ▸ walk_str (z := z), fun _ _ _ _ => trivial, fun i H x H' F' e s y => ?_⟩
  obtain ⟨rfl, c, y, rfl⟩ := y
  refine ⟨F', .str ⟨#[c]⟩, Nw.refl s, ?_, .str _⟩
  rw [chars, List.getElem?_map, Array.getElem?_toList, y]
  rfl
/-- the keys of the dict at a -/
def Itd (a : Addr) (o : Obj) (es : List (Int × V × V)) : It :=
  ⟨fun i H => H a = some (ObjO a o) ∧ i < es.length, fun i H x H' => H' = H ∧ ∃ e, es[i]? = some e ∧ x = e.2.1, fun i H => H a = some (ObjO a o) ∧ es.length ≤ i⟩
theorem objO_at {P : Program} {w : World} {H : Hp} {h : Heap} {a : Addr} {o : Obj} (k : HOk P w H h) (e : H a = some (ObjO a o)) : h.get? a = some o := (show ObjOk P w H h a (ObjO a o) from k a _ e).1
theorem turn_dct {P : Program} {w : World} {K : PySem.W.Frag} {tg : Expr} {a it : Addr} {o : Obj} {es : List (Int × V × V)} (k : DctOk a o es) {xs : Array DictEntry} {ep : Nat} (hd : o.data = .dict xs ep)
    (pr : Paired (fun (e : Int × V × V) (x : DictEntry) => e.1 = x.hash ∧ RelV e.2.1 x.key ∧ RelV e.2.2 x.val) es xs.toList) : Turn P w K tg (Itd a o es) [it] it (fun i h => h.IsKeyIter it a i xs.size ep) where
  mem := by simp
  obj := fun i h st b hb => by
    have e : b = it := by simpa using hb
    subst e
    obtain ⟨o, e, c, d⟩ := st
    exact ⟨o, e, fun v z => by rw [d] at z; cases z⟩
  keep := fun i h h' st k => st.at fun o e => k it (by simp) o e
  item := by
    intro X hP hw hK hc i pins s σ H E I hf st hg
    subst hP hw hK
    obtain ⟨ha, hi⟩ := hg
    have raw : s.heap.DictRaw a xs ep := ⟨o, objO_at I.hok ha, k.ex, hd⟩
    obtain ⟨f0, f1, f2, f3, f4, f5⟩ := hf it (by simp)
    have hl : es.length = xs.size := by rw [Paired.length pr, Array.length_toList]
    have hx : i < xs.size := by omega
    refine wpAny_pyNext_keys_item_raw st raw hx fun h' st' sb => ?_
    have I1 : Inv X pins σ H { s with heap := h' } := I.turned (t' := s.toks) (fun b o hb e => (sb.2 b hb).trans e) f0 f1 f3 f4 f5
    obtain ⟨ob, e, c, d⟩ := id st'
    have at_ : ∃ e, es[i]? = some e ∧ RelV e.2.1 xs[i].key := by
      have g : ∀ {es : List (Int × V × V)} {ys : List DictEntry} {i : Nat} {y : DictEntry}, Paired (fun (e : Int × V × V) (x : DictEntry) => e.1 = x.hash ∧ RelV e.2.1 x.key ∧ RelV e.2.2 x.val) es ys → ys[i]? = some y → ∃ e, es[i]? = some e ∧ RelV e.2.1 y.key := by
        intro es ys i y p
        induction p generalizing i with
        | nil => intro z; simp at z
        | cons r t ih =>
          intro z
          cases i with
          | zero => cases z; exact ⟨_, rfl, r.2.1⟩
          | succ i => simpa using ih (by simpa using z)
      exact g pr (by simp [hx])
    obtain ⟨e1, he1, r1⟩ := at_
    exact ⟨_, rfl, go_of (s := { s with heap := h' }) e c d (by decide) ⟨e1.2.1, H, I1, r1, ⟨rfl, e1, he1, rfl⟩, st', fun b hb => (hf b hb).1⟩⟩
  done := by
    intro X hP hw hK hc i pins s σ H E I hf st hg
    subst hP hw hK
    obtain ⟨ha, hi⟩ := hg
    have raw : s.heap.DictRaw a xs ep := ⟨o, objO_at I.hok ha, k.ex, hd⟩
    obtain ⟨f0, f1, f2, f3, f4, f5⟩ := hf it (by simp)
    have hl : es.length = xs.size := by rw [Paired.length pr, Array.length_toList]
    exact wpAny_pyNext_keys_end_raw (I.ok.hd hc) st raw (by omega) fun h' eb => ⟨rfl, I.turned (t' := s.toks) (fun b o hb e => eb b o hb e) f0 f1 f3 f4 f5⟩
  self := fun _ _ _ _ _ st h => wpAny_pyIter_keyiter st h
def iDct (tl : TE) : TI := fun σ H R => tl σ H fun x H1 => ∃ a o es, x = .ref a ∧ H1 a = some (ObjO a o) ∧ DctOk a o es ∧ R (Itd a o es) H1
theorem pi_dct {X : Cx} {tg l : Expr} {tl : TE} (hl : PE X l tl) : PI X tg l (iDct tl) := by
  refine ⟨fun pins s σ H R I h => ?_⟩
  refine thn (hl.run pins s σ H _ I h) fun v s1 ⟨x, H1, I1, r1, q1⟩ => ?_
  obtain ⟨a, o, es, e, ha, k, q⟩ := q1
  subst e
  cases r1
  obtain ⟨xs, ep, hd, pr⟩ := k.at_
  refine wpAny_pyIter_dict_raw k.sys ⟨o, objO_at I1.hok ha, k.ex, hd⟩ ?_
  refine ⟨s1.heap.objs.size, [s1.heap.objs.size], _, _, H1, rfl, I1.kept (t' := s1.toks) fun b o e => Heap.get?_push_of_some _ e, turn_dct k hd pr, ⟨_, Heap.get?_push_size _ rfl, rfl, rfl⟩, fun b hb => ?_, q⟩
  have e : b = s1.heap.objs.size := by simpa using hb
  subst e
  exact I1.fpOk (Nat.le_refl _) (I1.hok.fresh (Nat.le_refl _))
theorem RepD.length {K : PySem.W.Frag} {F : Hp} {w : World} : ∀ {es : List (Int × V × V)} {kvs : List (D × D)}, RepD K F w es kvs → es.length = kvs.length
  | _, _, .nil => rfl
  | _, _, .cons _ _ _ _ _ t => congrArg (· + 1) (RepD.length t)
theorem RepD.key {K : PySem.W.Frag} {F : Hp} {w : World} : ∀ {es : List (Int × V × V)} {kvs : List (D × D)} {i : Nat} {e : Int × V × V}, RepD K F w es kvs → es[i]? = some e → ∃ p, kvs[i]? = some p ∧ Rep K F e.2.1 p.1
  | _, _, _, _, .nil, h => by simp at h
  | _, _, 0, _, .cons _ _ _ r _ _, h => by cases h; exact ⟨_, rfl, r⟩
  | _, _, i + 1, e, .cons _ _ _ _ _ t, h => by
    obtain ⟨p, a, b⟩ := RepD.key (i := i) (e := e) t (by simpa using h)
    exact ⟨p, by simpa using a, b⟩
theorem walkD_dct {a : Addr} {o : Obj} {es : List (Int × V × V)} {w : World} {kvs : List (D × D)} {F : Hp} (h : F a = some (ObjO a o)) (k : DctOk a o es) (r : RepD M.K F w es kvs) : WalkD M (Itd a o es) (kvs.map (·.1)) F := by
  have hl : es.length = (kvs.map (·.1)).length := by rw [List.length_map, r.length]
  have wk : Walk (Itd a o es) (kvs.map (·.1)).length (fun H => H a = some (ObjO a o)) (fun i H x H' => H' = H ∧ ∃ e, es[i]? = some e ∧ x = e.2.1) := by
    rw [← hl]
    exact ⟨fun i H hi g => ⟨g, hi⟩, fun H g => ⟨g, Nat.le_refl _⟩, fun i H x H' _ _ y => y⟩
  refine ⟨_, _, wk, fun F' H e s => s _ _ (e _ _ h), fun i H x H' F' e s y => ?_⟩
  obtain ⟨rfl, e1, he1, rfl⟩ := y
  obtain ⟨p, hp, rp⟩ := r.key he1
  exact ⟨F', p.1, Nw.refl s, by rw [List.getElem?_map, hp]; rfl, rp.up e⟩
theorem mi_data {tg : Expr} (eK : X.K = M.K) (he : PE X e (mE M E ga)) : PI X tg e (mI M E (itE ga)) := by
  refine pi_imp (pi_or (pi_list he) (pi_or (pi_tup he) (pi_or (pi_str he) (pi_dct he)))) fun σ H R z => ?_
  obtain ⟨F, l, st, w⟩ := z
  have w1 := wR.bind (r := ga l) w
  cases hg : ga l with
  | stuck => rw [hg] at w1; exact w1.elim
  | err c f d l1 => rw [hg] at w1; exact .inl ⟨F, l, st, by rw [hg]; exact w1⟩
  | ok d l1 =>
    rw [hg] at w1
    have go : ∀ F1 H1, Gr σ l l1 F H F1 H1 → StM M F1 σ H1 l1 → ∀ xs, walkD d = some xs → ∀ J, WalkD M J xs F1 → R J H1 := by
      intro F1 H1 g1 st1 xs hx
      have w2 : wR M E σ F1 H1 l1 (fun xs _ F1 H1 => ∀ J, WalkD M J xs F1 → R J H1) (Res.lift (walkD d) l1) := w1 F1 H1 g1 st1
      rw [hx] at w2
      exact w2 F1 H1 (Gr.refl _ _ _ _) st1
    cases d with
    | list xs =>
      refine .inl ⟨F, l, st, ?_⟩
      rw [hg]
      intro F1 H1 g1 st1 v rv
      cases rv with
      | list h rs =>
        refine ⟨_, rfl, ⟨_, SqL.of (st1.sub _ _ h)⟩, ?_⟩
        rw [eK]
        exact go F1 H1 g1 st1 _ rfl _ (walkD_list h rs)
    | scr ns =>
      refine .inl ⟨F, l, st, ?_⟩
      rw [hg]
      intro F1 H1 g1 st1 v rv
      cases rv with
      | scr h =>
        rw [eK]
        exact ⟨_, rfl, ⟨_, st1.sub.seq h⟩, go F1 H1 g1 st1 _ rfl _ (walkD_scr h)⟩
    | tup xs =>
      refine .inr (.inl ⟨F, l, st, ?_⟩)
      rw [hg]
      intro F1 H1 g1 st1 v rv
      cases rv with
      | tup h rs =>
        rw [eK]
        exact ⟨_, rfl, ⟨_, seqT_same st1.sub h⟩, go F1 H1 g1 st1 _ rfl _ (walkD_tup h rs)⟩
    | str z =>
      refine .inr (.inr (.inl ⟨F, l, st, ?_⟩))
      rw [hg]
      intro F1 H1 g1 st1 v rv
      cases rv with
      | str _ => exact ⟨z, rfl, go F1 H1 g1 st1 _ rfl _ walkD_str⟩
    | dict w kvs =>
      refine .inr (.inr (.inr ⟨F, l, st, ?_⟩))
      rw [hg]
      intro F1 H1 g1 st1 v rv
      cases rv with
      | dict h k r n => exact ⟨_, _, _, rfl, st1.sub _ _ h, k, go F1 H1 g1 st1 _ rfl _ (walkD_dct h k r)⟩
    | _ =>
      refine .inl ⟨F, l, st, ?_⟩
      rw [hg]
      intro F1 H1 g1 st1
      exact (w1 F1 H1 g1 st1).elim
theorem walkD_range {lo : Int} {n : Nat} {F : Hp} : WalkD M (Itr lo n) ((List.range n).map fun (k : Nat) => D.int (lo + k)) F := by
  have wk : Walk (Itr lo n) ((List.range n).map fun (k : Nat) => D.int (lo + k)).length (fun _ => True) (fun i H x H' => i < n ∧ YFn (fun i => .int (lo + i)) i H x H') := by
    rw [List.length_map, List.length_range]
    exact ⟨fun _ _ hi _ => hi, fun _ _ => Nat.le_refl _, fun i _ _ _ hi _ y => ⟨hi, y⟩⟩
  refine ⟨_, _, wk, fun _ _ _ _ => trivial, fun i H x H' F' e s y => ?_⟩
  obtain ⟨hi, rfl, rfl⟩ := y
  refine ⟨F', .int (lo + i), Nw.refl s, ?_, .int _⟩
  rw [List.getElem?_map, List.getElem?_range hi]
  rfl
theorem mi_range1 {tg : Expr} {p : Pos} (hg : Gl X "range") (hm : X.mg "range" = none) (ha : PA X [e] (mV M E gl)) (hs : starEach [e] X.env = [(false, eval e X.env)] := by rfl) : PI X tg (.Call (.Name "range" p) [e] [] pos) (mI M E (rng1 gl)) := by
  refine pi_imp (pi_range1 hg hm ha hs) fun σ H R z => ?_
  obtain ⟨F, l, st, w⟩ := z
  refine ⟨F, l, st, (wR.bind w).mono fun ds l1 F1 H1 g1 st1 w1 vs rs => ?_⟩
  match ds, rs, w1 with
  | [.int j], .cons (.int _) .nil, w1 =>
    dsimp only at w1
    split at w1
    · rename_i hj
      refine ⟨j, rfl, hj.1, hj.2, w1 F1 H1 (Gr.refl _ _ _ _) st1 _ ?_⟩
      have : ((List.range j.toNat).map fun (k : Nat) => D.int (0 + (k : Int))) = (List.range j.toNat).map fun (k : Nat) => D.int (k : Int) := by
        apply List.map_congr_left
        intro k _
        rw [Int.zero_add]
      rw [← this]
      exact walkD_range
    · exact w1.elim
theorem mi_range2 {tg e2 : Expr} {p : Pos} (hg : Gl X "range") (hm : X.mg "range" = none) (ha : PA X [e, e2] (mV M E gl)) (hs : starEach [e, e2] X.env = [(false, eval e X.env), (false, eval e2 X.env)] := by rfl) (hs3 : starEach [e2] X.env = [(false, eval e2 X.env)] := by rfl) : PI X tg (.Call (.Name "range" p) [e, e2] [] pos) (mI M E (rng2 gl)) := by
  refine pi_imp (pi_range2 hg hm ha hs hs3) fun σ H R z => ?_
  obtain ⟨F, l, st, w⟩ := z
  refine ⟨F, l, st, (wR.bind w).mono fun ds l1 F1 H1 g1 st1 w1 vs rs => ?_⟩
  match ds, rs, w1 with
  | [.int j, .int k], .cons (.int _) (.cons (.int _) .nil), w1 =>
    dsimp only at w1
    split at w1
    · rename_i hj
      exact ⟨j, k, rfl, hj, w1 F1 H1 (Gr.refl _ _ _ _) st1 _ walkD_range⟩
    · exact w1.elim
/-! for -/
def forT (t : MG) (b : MS) : List D → MS
  | [], l => .nx l
  | x :: xs, l => match t x l with
    | some l1 => loopR (b l1) (forT t b xs)
    | none => .stuck
def sForT (t : MG) (g : ML) (b : MS) : MS := fun l => (g l).thn fun xs l1 => forT t b xs l1
theorem ms_for {iter tg : Expr} {body : List Stmt} {ts : List Nat} {t : MG} {tb : MS} (hp : PassesOwn (model X.prog X.w) X.A X.env X.xe) (hc : X.calm = true) (hi : PI X tg iter (mI M E gl)) (hg : PG X tg (mG M ts t)) (hb : PSs X body (mS M E tb))
    (hs : ∀ x, foldedSetIterable iter X.env x = pure x := by intro _; rfl) : PS X (.For tg iter body [] pos) (mS M E (sForT t gl tb)) := by
  refine ps_imp (ps_for hp hc hi hg hb hs) fun Dn σ H z => ?_
  obtain ⟨F, l, st, w⟩ := z
  refine ⟨F, l, st, (wS.thn st w).mono fun xs l1 F1 H1 g1 st1 w1 J wd => ?_⟩
  obtain ⟨G, Y, wk, gG, gY⟩ := wd.ex
  refine for_it wk (fun k σ H => ∃ F l, Same F1 F ∧ StM M F σ H l ∧ wS M E F Dn (forT t tb (xs.drop k) l)) ⟨F1, l1, Same.refl _, st1, w1⟩ ?_ ?_ ?_
  · rintro k σ H _ ⟨F, l, e, st, _⟩
    exact gG F H e st.sub
  · rintro k x σ H H' hk ⟨F, l, e, st, w⟩ y
    obtain ⟨F2, d, nw, ed, rd⟩ := gY k H x H' F e st.sub y
    rw [drop_cons ed] at w
    have st2 := st.new nw
    cases ht : t d l with
    | none => rw [forT, ht] at w; exact w.elim
    | some l2 =>
      rw [forT, ht] at w
      have w : wS M E F Dn (loopR (tb l2) (forT t tb (xs.drop (k + 1)))) := w
      refine ⟨F2, l, d, st2, rd, l2, ht, fun σ' st' _ => ⟨F2, l2, st', (w.later nw.f).loop fun σ F' H l e' st w => ⟨F', l, (e.trans nw.f).trans e', st, w⟩⟩⟩
  · rintro σ H ⟨F, l, e, st, w⟩
    rw [List.drop_eq_nil_of_le (Nat.le_refl _)] at w
    exact w σ F H (Same.refl _) st
end
end Sb

namespace Sb
open PySem PySem.Spec PyProof.Rows L2

/-! ### comprehensions -/
def clr : List Nat → Ld → Ld
  | [], l => l
  | i :: is, l => (clr is l).set i none
def lcM (vs : List Nat) (t : MG) (c : MT) (e : ME) : List D → List D → Ld → Res (List D)
  | [], acc, l => .ok acc l
  | x :: xs, acc, l => match t x l with
    | none => .stuck
    | some l1 => match c l1 with
      | .ok true l2 => (match e l2 with
        | .ok d l3 => if acc.length < sizeLine then lcM vs t c e xs (acc ++ [d]) (clr vs l3) else .stuck
        | _ => .stuck)
      | .ok false l2 => lcM vs t c e xs acc (clr vs l2)
      | _ => .stuck
/-- the comprehension's own slots are empty -/
def emp (vs : List Nat) (l : Ld) : Bool := vs.all fun i => match l[i]? with | some (some _) => false | _ => true
def lcL (vs : List Nat) (t : MG) (c : MT) (e : ME) (g : ML) : ML := fun l => (g l).bind fun xs l1 => if emp vs l1 = true then lcM vs t c e xs [] l1 else .stuck
def yes : MT := fun l => .ok true l
theorem clr_len (vs : List Nat) (l : Ld) : (clr vs l).length = l.length := by
  induction vs with
  | nil => rfl
  | cons i is ih => rw [clr, List.length_set, ih]
theorem clr_get {vs : List Nat} {l : Ld} {j : Nat} {s : Sl} (h : (clr vs l)[j]? = some (some s)) : j ∉ vs ∧ l[j]? = some (some s) := by
  induction vs with
  | nil => exact ⟨by simp, h⟩
  | cons i is ih =>
    rcases get_set (show ((clr is l).set i none)[j]? = some (some s) from h) with ⟨_, z⟩ | ⟨ne, z⟩
    · cases z
    · obtain ⟨a, b⟩ := ih z
      exact ⟨by simp only [List.mem_cons, not_or]; exact ⟨fun z => ne z.symm, a⟩, b⟩
theorem emp_get {vs : List Nat} {l : Ld} (h : emp vs l = true) {i : Nat} {s : Sl} (hi : l[i]? = some (some s)) : i ∉ vs := by
  intro m
  have := List.all_eq_true.mp h i m
  rw [hi] at this
  cases this
theorem wipe_off {σ : L2.St} {j : Nat} {vs : List Nat} (h : j ∉ vs) : (wipe σ vs)[j]? = σ[j]? := by
  induction vs with
  | nil => rfl
  | cons i is ih =>
    simp only [List.mem_cons, not_or] at h
    rw [wipe, List.getElem?_set_ne (fun z => h.1 z.symm), ih h.2]
theorem wipe_in {σ : L2.St} {j : Nat} {vs : List Nat} (h : j ∈ vs) (hj : j < σ.length) : (wipe σ vs)[j]? = some none := by
  induction vs with
  | nil => cases h
  | cons i is ih =>
    rw [wipe]
    by_cases e : i = j
    · subst e
      rw [List.getElem?_set_self (by rw [wipe_length]; exact hj)]
    · rw [List.getElem?_set_ne e]
      exact ih ((List.mem_cons.mp h).resolve_left fun z => e z.symm)
theorem wipe_eq {σ σ2 : L2.St} {ts vs : List Nat} (so : SameOff ts (wipe σ vs) σ2) (sub : ∀ j ∈ ts, j ∈ vs) : wipe σ2 vs = wipe σ vs := by
  apply List.ext_getElem?
  intro j
  by_cases hj : j ∈ vs
  · by_cases hl : j < σ.length
    · rw [wipe_in hj hl, wipe_in hj (by rw [so.len, wipe_length]; exact hl)]
    · rw [List.getElem?_eq_none (by rw [wipe_length, so.len, wipe_length]; omega), List.getElem?_eq_none (by rw [wipe_length]; omega)]
  · rw [wipe_off hj, so.off j fun z => hj (sub j z)]
section
variable {M : MC} {σ σ2 : L2.St} {F H : Hp} {l : Ld} {vs : List Nat}
/-- into a comprehension -/
theorem StM.wipe_ (st : StM M F σ H l) (e : emp vs l = true) (np : ∀ i ∈ vs, NoPar M i) : StM M F (wipe σ vs) H l := by
  have same : ∀ (i : Nat) (s : Sl), l[i]? = some (some s) → (wipe σ vs)[i]? = σ[i]? := fun i s h => wipe_off (emp_get e h)
  refine ⟨st.sub, by rw [wipe_length]; exact st.len, fun i s h => by rw [same i s h]; exact st.slot i s h, fun i j xs ys v a b c d => ?_, st.keepF, st.newF, st.keepH, st.domH, fun q hq => ?_⟩
  · rw [same i _ a] at c
    rw [same j _ b] at d
    exact st.inj i j xs ys v a b c d
  · rw [wipe_off fun z => np q.1 z q hq rfl]
    exact st.pars q hq
/-- out of a turn: other slots as they were -/
theorem StM.clr_ {σ' : L2.St} (st : StM M F σ' H l) (len : σ.length = σ'.length) (off : ∀ j, j ∉ vs → σ[j]? = σ'[j]?) (np : ∀ i ∈ vs, NoPar M i) : StM M F σ H (clr vs l) := by
  refine ⟨st.sub, by rw [clr_len]; exact len.trans st.len, fun i s h => ?_, fun i j xs ys v a b c d => ?_, st.keepF, st.newF, st.keepH, st.domH, fun q hq => ?_⟩
  · obtain ⟨n, h⟩ := clr_get h
    rw [off i n]
    exact st.slot i s h
  · obtain ⟨n1, a⟩ := clr_get a
    obtain ⟨n2, b⟩ := clr_get b
    rw [off i n1] at c
    rw [off j n2] at d
    exact st.inj i j xs ys v a b c d
  · rw [off _ fun z => np q.1 z q hq rfl]
    exact st.pars q hq
theorem wipe_same (σ : L2.St) (vs : List Nat) : σ.length = (wipe σ vs).length ∧ ∀ j, j ∉ vs → σ[j]? = (wipe σ vs)[j]? := ⟨(wipe_length σ vs).symm, fun j hj => (wipe_off hj).symm⟩
end
/-- the state of a comprehension's turns: D holds acc -/
structure LcSt (M : MC) (σ : L2.St) (vs : List Nat) (F0 H0 : Hp) (l0 : Ld) (Da : Addr) (F H : Hp) (l : Ld) (acc : List D) : Prop where
  st : StM M F (wipe σ vs) H l
  em : emp vs l = true
  gr : Gr σ l0 l F0 H0 F H
  fd : F Da = none
  hd : ∃ av, H Da = some (.lst av) ∧ Reps M.K F av acc
  no : ¬ Own σ l Da
theorem emp_clr (vs : List Nat) (l : Ld) : emp vs (clr vs l) = true := by
  unfold emp
  rw [List.all_eq_true]
  intro i hi
  cases h : (clr vs l)[i]? with
  | none => rfl
  | some o =>
    cases o with
    | none => rfl
    | some s => exact ((clr_get h).1 hi).elim
theorem own_wipe {σ : L2.St} {vs : List Nat} {l : Ld} (e : emp vs l = true) {p : Addr} : Own (wipe σ vs) l p ↔ Own σ l p := by
  constructor
  · rintro ⟨i, xs, a, b⟩
    rw [wipe_off (emp_get e a)] at b
    exact ⟨i, xs, a, b⟩
  · rintro ⟨i, xs, a, b⟩
    exact ⟨i, xs, a, by rw [wipe_off (emp_get e a)]; exact b⟩
abbrev E0 : L2.St → XK := fun _ _ _ _ => False
section
variable {M : MC} {E : L2.St → XK} {gl : ML} {t : MG} {gt : MT} {ge : ME} {ts vs : List Nat}
/-- one slot's change of the state by a target: the owned slots are as before, or fewer -/
def TgOk (ts : List Nat) (t : MG) : Prop := ∀ d l l', t d l = some l' → ∀ (i : Nat) (xs : O), l'[i]? = some (some (.ow xs)) → i ∉ ts ∧ l[i]? = some (some (.ow xs))
theorem lc_read {σ : L2.St} {H : Hp} {Q : VK} (np : ∀ i ∈ vs, NoPar M i) (sub : ∀ j ∈ ts, j ∈ vs) (tg : TgOk ts t) (h : mL M E (lcL vs t gt ge gl) σ H Q) : tLc (mI M E gl) (mG M ts t) (mT M E0 gt) (mE M E0 ge) vs σ H Q := by
  obtain ⟨F, l, st, w⟩ := h
  refine ⟨F, l, st, ?_⟩
  cases hg : gl l with
  | stuck => unfold lcL at w; rw [hg] at w; exact w
  | err c f d l1 => unfold lcL at w; rw [hg] at w; exact w
  | ok xs l1 =>
    unfold lcL at w
    rw [hg] at w
    have w : wR M E σ F H l _ (if emp vs l1 = true then lcM vs t gt ge xs [] l1 else .stuck) := w
    split at w
    · rename_i em
      intro F1 H1 g1 st1 J wd Da nD
      obtain ⟨G, Y, wk, gG, gY⟩ := wd.ex
      -- the turns
      refine lc_it wk (fun k H2 => ∃ F2 l2 acc, Same F1 F2 ∧ LcSt M σ vs F H l Da F2 H2 l2 acc ∧ wR M E σ F H l (fun xs l' F' H' => ∀ p vs, H' p = some (.lst vs) → F' p = none → M.H0 p = none → H p = none → ¬ Own σ l' p → Reps M.K F' vs xs → Q (.ref p) H') (lcM vs t gt ge (xs.drop k) acc l2)) ?_ ?_ ?_ ?_
      · have nw := Nw.beside (o := .lst []) st1.sub nD
        have st2 := st1.new nw
        refine ⟨F1, l1, [], Same.refl _, ⟨st2.wipe_ em np, em, g1.trans (st1.gr nw), st1.sub.free nD, ⟨[], upd_same, .nil⟩, fun o => ?_⟩, w⟩
        obtain ⟨⟨ws, z⟩, _⟩ := st1.ownH o
        rw [nD] at z
        cases z
      · rintro k H2 _ ⟨F2, l2, acc, e, ls, _⟩
        exact gG F2 H2 e ls.st.sub
      · rintro k x H2 H3 hk ⟨F2, l2, acc, e, ls, w⟩ y
        obtain ⟨F3, d, nw, ed, rd⟩ := gY k H2 x H3 F2 e ls.st.sub y
        rw [drop_cons ed] at w
        rw [lcM] at w
        have st3 := ls.st.new nw
        have em2 := ls.em
        obtain ⟨av, hav, rav⟩ := ls.hd
        have nD0 : H Da = none := g1.dom _ nD
        have hD0 : M.H0 Da = none := st.domH _ nD0
        cases ht : t d l2 with
        | none => rw [ht] at w; exact w.elim
        | some l3 =>
          rw [ht] at w
          dsimp only at w
          refine ⟨F3, l2, d, st3, rd, l3, ht, fun σ3 st3' so => ⟨wipe_eq so sub, F3, l3, st3', ?_⟩⟩
          -- owned slots through the target
          have own3 : ∀ p, Own σ3 l3 p → Own (wipe σ vs) l2 p := by
            rintro p ⟨i, ys, a, b⟩
            obtain ⟨n1, a'⟩ := tg d l2 l3 ht i ys a
            rw [so.off i n1] at b
            exact ⟨i, ys, a', b⟩
          have offσ : ∀ j, j ∉ vs → (wipe σ vs)[j]? = σ3[j]? := fun j hj => (so.off j fun z => hj (sub j z)).symm
          -- what a later moment of the turn gives
          have turn : ∀ F4 H4 l4, Gr σ3 l3 l4 F3 H3 F4 H4 → StM M F4 σ3 H4 l4 → ∀ (o : HO), Same F1 F4 ∧ StM M F4 (wipe σ vs) H4 (clr vs l4) ∧ Gr σ l (clr vs l4) F H F4 H4 ∧ F4 Da = none ∧ H4 Da = some (.lst av) ∧ Reps M.K F4 av acc ∧ ¬ Own σ (clr vs l4) Da := by
            intro F4 H4 l4 g4 st4 o
            have nO3 : ¬ Own σ3 l3 Da := fun z => ls.no ((own_wipe em2).mp (own3 _ z))
            have hav3 : H3 Da = some (.lst av) := nw.h _ _ hav
            have fd3 : F3 Da = none := nw.n _ _ hav ls.fd
            obtain ⟨fd4, hd4⟩ := g4.frn Da _ hav3 fd3 nO3
            have stc : StM M F4 (wipe σ vs) H4 (clr vs l4) := st4.clr_ (so.len.symm) offσ np
            have own4 : ∀ p, Own σ (clr vs l4) p → Own σ l2 p := by
              intro p z
              rw [← own_wipe (emp_clr vs l4)] at z
              obtain ⟨i, ys, a, b⟩ := z
              obtain ⟨n1, a1⟩ := clr_get a
              rw [offσ i n1] at b
              exact (own_wipe em2).mp (own3 p (g4.own p ⟨i, ys, a1, b⟩))
            refine ⟨(e.trans nw.f).trans g4.ext, stc, ⟨(ls.gr.ext.trans nw.f).trans g4.ext, fun p z => ls.gr.own p (own4 p z), fun p o' hp fp n => ?_, fun a z => ls.gr.dom a (nw.h.free (g4.dom a z))⟩, fd4, hd4, (rav.up nw.f).up g4.ext, fun z => ls.no (own4 _ z)⟩
            obtain ⟨f2, h2⟩ := ls.gr.frn p o' hp fp n
            have f3 := nw.n p o' h2 f2
            have h3 := nw.h p o' h2
            exact g4.frn p o' h3 f3 fun z => n (ls.gr.own p ((own_wipe em2).mp (own3 p z)))
          cases hc : gt l3 with
          | stuck => rw [hc] at w; exact w.elim
          | err c f d l4 => rw [hc] at w; exact w.elim
          | ok b l4 =>
            rw [hc] at w
            intro F4 H4 g4 st4
            cases b with
            | false =>
              obtain ⟨a1, a2, a3, a4, a5, a6, a7⟩ := turn F4 H4 l4 g4 st4 (.lst [])
              exact ⟨F4, _, acc, a1, ⟨a2, emp_clr _ _, a3, a4, ⟨av, a5, a6⟩, a7⟩, w⟩
            | true =>
              refine ⟨F4, l4, st4, ?_⟩
              dsimp only at w
              cases he : ge l4 with
              | stuck => rw [he] at w; exact w.elim
              | err c f d l5 => rw [he] at w; exact w.elim
              | ok y l5 =>
                rw [he] at w
                intro F5 H5 g5 st5 v rv
                obtain ⟨a1, a2, a3, a4, a5, a6, a7⟩ := turn F5 H5 l5 (g4.trans g5) st5 (.lst [])
                dsimp only at w
                split at w
                · rename_i hz
                  refine ⟨av, a5, by rw [a6.length]; exact hz, F5, _, acc ++ [y], a1, ?_, w⟩
                  have rv' : Reps M.K F5 (av ++ [v]) (acc ++ [y]) := a6.append (.cons rv .nil)
                  have neD : ∀ b o, F5 b = some o → b ≠ Da := fun b o z => ne_of_none z a4
                  have st6 : StM M F5 (wipe σ vs) (upd H5 Da (.lst (av ++ [v]))) (clr vs l5) := by
                    refine ⟨fun b o z => ?_, a2.len, fun i s h => ?_, a2.inj, a2.keepF, a2.newF, fun a o h n => ?_, fun a h => ?_, a2.pars⟩
                    · rw [upd_ne (neD b o z)]
                      exact a2.sub _ _ z
                    · obtain ⟨u, eu, ok⟩ := a2.slot i s h
                      refine ⟨u, eu, ?_⟩
                      cases s with
                      | fr d => exact ok
                      | ow zs =>
                        obtain ⟨q, ws, rfl, h1, h2⟩ := ok
                        have : q ≠ Da := by
                          rintro rfl
                          exact a7 ((own_wipe (emp_clr _ _)).mp ⟨i, zs, h, eu⟩)
                        exact ⟨q, ws, rfl, by rw [upd_ne this]; exact h1, h2⟩
                    · have : a ≠ Da := ne_of_none h hD0
                      rw [upd_ne this]
                      exact a2.keepH a o h n
                    · by_cases z : a = Da
                      · subst z
                        rw [upd_same] at h
                        cases h
                      · rw [upd_ne z] at h
                        exact a2.domH a h
                  refine ⟨st6, emp_clr _ _, ⟨a3.ext, a3.own, fun p o' hp fp n => ?_, fun a z => ?_⟩, a4, ⟨_, upd_same, rv'⟩, a7⟩
                  · rw [upd_ne (ne_of_none hp nD0)]
                    exact a3.frn p o' hp fp n
                  · by_cases q : a = Da
                    · subst q
                      exact nD0
                    · rw [upd_ne q] at z
                      exact a3.dom a z
                · exact w.elim
      · rintro H2 ⟨F2, l2, acc, e, ls, w⟩
        rw [List.drop_eq_nil_of_le (Nat.le_refl _), lcM] at w
        obtain ⟨av, hav, rav⟩ := ls.hd
        have nD0 : H Da = none := g1.dom _ nD
        have back : StM M F2 σ H2 l2 := by
          have s := ls.st
          have em2 := ls.em
          refine ⟨s.sub, by rw [← s.len, wipe_length], fun i q h => ?_, fun i j xs ys v a b c d => ?_, s.keepF, s.newF, s.keepH, s.domH, fun q hq => ?_⟩
          · rw [← wipe_off (σ := σ) (emp_get em2 h)]
            exact s.slot i q h
          · rw [← wipe_off (σ := σ) (emp_get em2 a)] at c
            rw [← wipe_off (σ := σ) (emp_get em2 b)] at d
            exact s.inj i j xs ys v a b c d
          · rw [← wipe_off (σ := σ) fun z => np q.1 z q hq rfl]
            exact s.pars q hq
        exact w F2 H2 ls.gr back Da av hav ls.fd (st.domH _ nD0) nD0 ls.no rav
    · exact w.elim
theorem tg_name (i : Nat) : TgOk [i] (tName i) := fun d l l' h j xs e => by
  cases h
  rcases get_set e with ⟨_, z⟩ | ⟨ne, z⟩
  · cases z
  · exact ⟨by simpa using fun z => ne z.symm, z⟩
end
section
variable {X : Cx} {M : MC} {E : L2.St → XK} {gl : ML} {t : MG} {gt : MT} {ge : ME} {ts : List Nat} {pos : Pos}
theorem mts_nil : PTs X [] (mT M E0 yes) := ⟨fun pins s σ H Q I z => (pts_nil (X := X)).run pins s σ H Q I (by
  obtain ⟨F, l, st, w⟩ := z
  exact w F H (Gr.refl _ _ _ _) st)⟩
theorem mts_one {c : Expr} (h : PT X c (mT M E0 gt)) : PTs X [c] (mT M E0 gt) := pts_one h
theorem ml_lc {elt tg iter : Expr} {ifs : List Expr} {scope : Scope} {own : List (Str × Nat)} (np : ∀ i ∈ own.map (·.2), NoPar M i) (sub : ∀ j ∈ ts, j ∈ own.map (·.2)) (tok : TgOk ts t) (hc : X.calm = true) (hN : X.N.Nodup) (hi : PI X tg iter (mI M E gl)) (ok : BlkOk X.N X.env.scope scope own)
    (hg : ∀ (s : Shared) (H : Hp) (C : Addr) (cl : List (Str × Addr)) (fp : List Addr), PG (X.blk s H scope (compEnvC scope cl C X.env) fp) tg (mG M ts t)) (ht : ∀ (s : Shared) (H : Hp) (C : Addr) (cl : List (Str × Addr)) (fp : List Addr), PTs (X.blk s H scope (compEnvC scope cl C X.env) fp) ifs (mT M E0 gt))
    (he : ∀ (s : Shared) (H : Hp) (C : Addr) (cl : List (Str × Addr)) (fp : List Addr), PE (X.blk s H scope (compEnvC scope cl C X.env) fp) elt (mE M E0 ge)) (hs : ∀ x, foldedSetIterable iter X.env x = pure x := by intro _; rfl) :
    PE X (.ListComp elt [⟨tg, iter, ifs, 0⟩] scope pos) (mL M E (lcL (own.map (·.2)) t gt ge gl)) :=
  pe_imp (pe_lc hc hN hi ok hg ht he hs) fun _ _ _ z => lc_read np sub tok z
end
end Sb

namespace Sb
open PySem PySem.Spec PyProof.Rows L2

/-! ### a slot's list changed -/
def sPut (i : Nat) (gb ge : ME) : MS := fun l => (ge l).thn fun d l1 => if has? i l1 = true then (gb l1).thn fun e l2 => match l2[i]?, e with
  | some (some (.ow (.lst xs))), .int k => (match ixN xs.length k with | some j => .nx (l2.set i (some (.ow (.lst (xs.set j d))))) | none => .stuck)
  | _, _ => .stuck else .stuck
def isOw (i : Nat) (l : Ld) : Bool := match l[i]? with | some (some (.ow (.lst _))) => true | _ => false
def mtS (i : Nat) (f : List D → List D → Option (D × List D)) (g : ML) : ME := fun l => if isOw i l = true then (g l).bind fun ds l1 => match l1[i]? with
  | some (some (.ow (.lst xs))) => (match f xs ds with | some (r, ys) => .ok r (l1.set i (some (.ow (.lst ys)))) | none => .stuck)
  | _ => .stuck else .stuck
section
variable {X : Cx} {M : MC} {E : L2.St → XK} {a b e : Expr} {es : List Expr} {ga gb ge : ME} {gl : ML} {pos pos' p p' apos cpos : Pos} {i : Nat} {x name : Str}
theorem ms_put (hN : X.N[i]? = some x) (hv : Vis X.env.scope x) (hb : PE X b (mE M E gb)) (he : PE X e (mE M E ge)) (hd : (x == ("__debug__" : Str)) = false := by decide) (hcd : (x == ("__classdict__" : Str)) = false := by decide)
    (ha : ∀ v, assign (.Subscript (.Name x p) b p') X.env v = (do
      let ov ← holding [v] (eval (.Name x p) X.env)
      let iv ← holding [v, ov] (eval b X.env)
      standAt p'
      holding [v, ov, iv] (setItem ov iv v)
      release [v, ov, iv] []) := by intro _; rfl)
    (hs : swapsWithSole [.Subscript (.Name x p) b p'] e pos.line X.env = pure false := by rfl) (hw : swappedStores [.Subscript (.Name x p) b p'] e X.env = pure none := by rfl) (h1 : (assignEach [.Subscript (.Name x p) b p'] X.env).map (·.2) = [assign (.Subscript (.Name x p) b p') X.env] := by rfl) :
    PS X (.Assign [.Subscript (.Name x p) b p'] e pos) (mS M E (sPut i gb ge)) :=
  ps_imp (ps_asg he (pg_sub (pe_var hN hv hd hcd) hb set_list ha) hs hw h1) fun Dn σ H z => by
    obtain ⟨F, l, st, w⟩ := z
    refine ⟨F, l, st, (wS.thn st w).mono fun d l1 F1 H1 g1 st1 w1 v rv => ?_⟩
    split at w1
    · rename_i hh
      obtain ⟨s, hl⟩ := has_some hh
      obtain ⟨o, eo, _⟩ := st1.slot i s hl
      refine ⟨o, eo, F1, l1, st1, (wS.thn st1 w1).mono fun e l2 F2 H2 g2 st2 w2 y ry => ?_⟩
      split at w2
      · rename_i xs k hl2
        cases ry
        split at w2
        · rename_i j hj
          obtain ⟨o', eo', q, _, rfl, hq, fq, ⟨vs, rfl, rs⟩, _⟩ := st2.slot i _ hl2
          rw [eo] at eo'
          cases eo'
          have rs' : Reps M.K F2 (vs.set j v) (xs.set j d) := rs.set (rv.up g2.ext) j
          obtain ⟨st3, _⟩ := st2.put (ys := .lst _) hl2 eo ⟨_, rfl, rs'⟩
          exact ⟨q, vs, k, j, rfl, rfl, hq, by rw [rs.length]; exact hj, w2 σ F2 _ (Same.refl _) st3⟩
        · exact w2.elim
      · exact w2.elim
    · exact w1.elim
theorem isOw_some {l : Ld} (h : isOw i l = true) : ∃ xs, l[i]? = some (some (.ow (.lst xs))) := by
  unfold isOw at h
  split at h
  · exact ⟨_, by assumption⟩
  · cases h
/-- what a method of lists asks, by data -/
def MtD (K : PySem.W.Frag) (r : V → List V → Hp → VK → Prop) (f : List D → List D → Option (D × List D)) : Prop :=
  ∀ (q : Addr) (vs ws : List V) (xs ds : List D) (rr : D) (ys : List D) (F H : Hp) (Q : VK), H q = some (.lst vs) → F q = none → Same F H → Reps K F vs xs → Reps K F ws ds → f xs ds = some (rr, ys) →
    (∀ v vs', Rep K F v rr → Reps K F vs' ys → Q v (upd H q (.lst vs'))) → r (.ref q) ws H Q
theorem mt_core {id : String} {r : V → List V → Hp → VK → Prop} {f : List D → List D → Option (D × List D)} (md : MtD M.K r f) {σ : L2.St} {F H : Hp} {l : Ld} {o : V} {ds : List D} {ws : List V} {Q : VK} (st : StM M F σ H l) (eo : σ[i]? = some (some o)) (rs : Reps M.K F ws ds)
    (w : wR M E σ F H l (fun d _ F' H' => ∀ v, Rep M.K F' v d → Q v H') (match l[i]? with
  | some (some (.ow (.lst xs))) => (match f xs ds with | some (r, ys) => .ok r (l.set i (some (.ow (.lst ys)))) | none => .stuck)
  | _ => .stuck)) : r o ws H Q := by
  split at w
  · rename_i xs hl
    obtain ⟨o', eo', q, _, rfl, hq, fq, ⟨vs, rfl, rv⟩, _⟩ := st.slot i _ hl
    rw [eo] at eo'
    cases eo'
    split at w
    · rename_i rr ys hf
      refine md q vs ws xs ds rr ys F H Q hq fq st.sub rv rs hf fun v vs' r1 r2 => ?_
      obtain ⟨st2, g2⟩ := st.put (ys := .lst _) hl eo ⟨_, rfl, r2⟩
      exact w F _ g2 st2 v r1
    · exact w.elim
  · exact w.elim
theorem me_mt {id : String} {r : V → List V → Hp → VK → Prop} {f : List D → List D → Option (D × List D)} (md : MtD M.K r f) (eK : X.K = M.K) (slot : Slot "list" name id) (hty : typeOf (.builtin id) = pure (.type "method_descriptor")) (hm : MtR X id r) (hN : X.N[i]? = some x) (hv : Vis X.env.scope x) (ha : PA X (e :: es) (mV M E gl))
    (hd : (x == ("__debug__" : Str)) = false := by decide) (hcd : (x == ("__classdict__" : Str)) = false := by decide)
    (hbase : attributeBase (.Name x p) name X.env (eval (.Name x p) X.env) = eval (.Name x p) X.env := by rfl)
    (hfew : ((backTo cpos (starEach (e :: es) X.env)).all (fun x => !x.1) && (backToKw cpos (keywordEach [] X.env)).all (fun x => x.1.isSome)
      && decide ((e :: es).length + ([] : List Keyword).length + (if ([] : List Keyword).isEmpty then 0 else 1) < 30)) = true := by rfl)
    (hline : (apos.endLine == cpos.line) = true := by rfl) (hs : starEach (e :: es) X.env = (false, eval e X.env) :: starEach es X.env := by rfl) (hplain : (backTo cpos (starEach es X.env)).any (·.1) = false := by rfl) :
    PE X (.Call (.Attribute (.Name x p) name apos) (e :: es) [] cpos) (mE M E (mtS i f gl)) :=
  pe_imp (pe_bm PySem.F.plainAttrs_list slot hty hm (pe_var hN hv hd hcd) ha hbase hfew hline hs hplain) fun σ H Q z => by
    obtain ⟨F, l, st, w⟩ := z
    unfold mtS at w
    split at w
    · rename_i hh
      obtain ⟨xs, hl⟩ := isOw_some hh
      obtain ⟨o, eo, q, _, rfl, hq, _, ⟨vs, rfl, _⟩, _⟩ := st.slot i _ hl
      refine ⟨_, eo, .inl ⟨rfl, _, SqL.of hq⟩, F, l, st, (wR.bind w).mono fun ds l1 F1 H1 g1 st1 w1 ws rs => ?_⟩
      exact mt_core (id := id) md st1 eo rs w1
    · exact w.elim
theorem me_mt0 {id : String} {r : V → List V → Hp → VK → Prop} {f : List D → List D → Option (D × List D)} (md : MtD M.K r f) (eK : X.K = M.K) (slot : Slot "list" name id) (hty : typeOf (.builtin id) = pure (.type "method_descriptor")) (hm : MtR X id r) (hN : X.N[i]? = some x) (hv : Vis X.env.scope x)
    (hd : (x == ("__debug__" : Str)) = false := by decide) (hcd : (x == ("__classdict__" : Str)) = false := by decide)
    (hbase : attributeBase (.Name x p) name X.env (eval (.Name x p) X.env) = eval (.Name x p) X.env := by rfl) (hline : (apos.endLine == cpos.line) = true := by rfl) :
    PE X (.Call (.Attribute (.Name x p) name apos) [] [] cpos) (mE M E (mtS i f vNil)) :=
  pe_imp (pe_bm0 PySem.F.plainAttrs_list slot hty hm (pe_var hN hv hd hcd) hbase hline) fun σ H Q z => by
    obtain ⟨F, l, st, w⟩ := z
    unfold mtS at w
    split at w
    · rename_i hh
      obtain ⟨xs, hl⟩ := isOw_some hh
      obtain ⟨o, eo, q, _, rfl, hq, _, ⟨vs, rfl, _⟩, _⟩ := st.slot i _ hl
      refine ⟨_, eo, .inl ⟨rfl, _, SqL.of hq⟩, ?_⟩
      exact mt_core (id := id) md st eo .nil w
    · exact w.elim
end
/-! the methods -/
def fAppend (xs : List D) : List D → Option (D × List D)
  | [d] => if xs.length < sizeLine then some (.non, xs ++ [d]) else none
  | _ => none
theorem md_append (K : PySem.W.Frag) : MtD K rAppend fAppend := by
  intro q vs ws xs ds rr ys F H Q hq fq s rv rs hf k
  match ds, rs, hf with
  | [d], .cons r .nil, hf =>
    have hf : (if xs.length < sizeLine then some (D.non, xs ++ [d]) else none) = some (rr, ys) := hf
    split at hf
    · rename_i hz
      cases hf
      exact ⟨q, vs, _, rfl, rfl, hq, by rw [rv.length]; exact hz, k _ _ .non (rv.append (.cons r .nil))⟩
    · cases hf
def fReverse (xs : List D) : List D → Option (D × List D)
  | [] => some (.non, xs.reverse)
  | _ => none
theorem md_reverse (K : PySem.W.Frag) : MtD K rReverse fReverse := by
  intro q vs ws xs ds rr ys F H Q hq fq s rv rs hf k
  match ds, rs, hf with
  | [], .nil, hf =>
    cases hf
    exact ⟨q, vs, rfl, rfl, hq, k _ _ .non rv.reverse⟩
def fExtend (xs : List D) : List D → Option (D × List D)
  | [.list zs] => if xs.length + zs.length ≤ sizeLine then some (.non, xs ++ zs) else none
  | _ => none
theorem md_extend (K : PySem.W.Frag) : MtD K rExtend fExtend := by
  intro q vs ws xs ds rr ys F H Q hq fq s rv rs hf k
  match ds, rs, hf with
  | [.list zs], .cons (.list h r) .nil, hf =>
    have hf : (if xs.length + zs.length ≤ sizeLine then some (D.non, xs ++ zs) else none) = some (rr, ys) := hf
    split at hf
    · rename_i hz
      cases hf
      exact ⟨q, _, vs, _, rfl, rfl, hq, s _ _ h, by rw [rv.length, r.length]; exact hz, k _ _ .non (rv.append r)⟩
    · cases hf
def fPop (xs : List D) : List D → Option (D × List D)
  | [] => (xs[xs.length - 1]?).map fun d => (d, xs.dropLast)
  | _ => none
theorem md_pop (K : PySem.W.Frag) : MtD K rPop fPop := by
  intro q vs ws xs ds rr ys F H Q hq fq s rv rs hf k
  match ds, rs, hf with
  | [], .nil, hf =>
    obtain ⟨d, e, z⟩ := Option.map_eq_some_iff.mp hf
    cases z
    obtain ⟨v, ev, r⟩ := rv.get e
    exact ⟨q, vs, v, rfl, rfl, hq, by rw [rv.length]; exact ev, k _ _ r rv.dropLast⟩
def fClear (_ : List D) : List D → Option (D × List D)
  | [] => some (.non, [])
  | _ => none
theorem md_clear (K : PySem.W.Frag) : MtD K rClear fClear := by
  intro q vs ws xs ds rr ys F H Q hq fq s rv rs hf k
  match ds, rs, hf with
  | [], .nil, hf =>
    cases hf
    exact ⟨q, vs, rfl, rfl, hq, k _ _ .non .nil⟩

/-! ### a def by its mirror -/
def frees (fs : List Nat) (ss : List Sl) : Bool := fs.all fun i => match ss[i]? with | some (.ow _) => false | _ => true
def back : List Sl → Ld → Option (List Sl)
  | [], _ => some []
  | .fr d :: ss, _ :: l => (back ss l).map (.fr d :: ·)
  | .ow _ :: ss, some t :: l => (back ss l).map (t :: ·)
  | _, _ => none
def runF (g : MS) (n : Nat) (fs : List Nat) : MF := fun ss => if frees fs ss = true then (match g (ss.map some ++ List.replicate (n - ss.length) none) with
  | .nx l => (match back ss l with | some ss' => .ok (.fr .non) ss' | none => .stuck)
  | .rt s l => (match back ss l with | some ss' => .ok s ss' | none => .stuck)
  | .err c f d l => (match back ss l with | some ss' => .err c f d ss' | none => .stuck)
  | _ => .stuck) else .stuck
theorem back_fr : ∀ {ss : List Sl} {l : Ld} {ss' : List Sl}, back ss l = some ss' → ∀ (i : Nat) (d : D), ss[i]? = some (.fr d) → ss'[i]? = some (.fr d)
  | [], _, _, h, i, d, e => by simp at e
  | .fr d0 :: ss, [], ss', h, i, d, e => by simp [back] at h
  | .fr d0 :: ss, o :: l, ss', h, i, d, e => by
    obtain ⟨r, h1, rfl⟩ := Option.map_eq_some_iff.mp (show (back ss l).map (.fr d0 :: ·) = some ss' from h)
    cases i with
    | zero => cases e; rfl
    | succ i => simpa using back_fr h1 i d (by simpa using e)
  | .ow xs :: ss, [], ss', h, i, d, e => by simp [back] at h
  | .ow xs :: ss, none :: l, ss', h, i, d, e => by simp [back] at h
  | .ow xs :: ss, some t :: l, ss', h, i, d, e => by
    obtain ⟨r, h1, rfl⟩ := Option.map_eq_some_iff.mp (show (back ss l).map (t :: ·) = some ss' from h)
    cases i with
    | zero => cases e
    | succ i => simpa using back_fr h1 i d (by simpa using e)
theorem back_ow : ∀ {ss : List Sl} {l : Ld} {ss' : List Sl}, back ss l = some ss' → ∀ (i : Nat) (xs : O) (s : Sl), ss[i]? = some (.ow xs) → ss'[i]? = some s → l[i]? = some (some s)
  | [], _, _, h, i, d, s, e, _ => by simp at e
  | .fr d0 :: ss, [], ss', h, i, d, s, e, _ => by simp [back] at h
  | .fr d0 :: ss, o :: l, ss', h, i, d, s, e, e2 => by
    obtain ⟨r, h1, rfl⟩ := Option.map_eq_some_iff.mp (show (back ss l).map (.fr d0 :: ·) = some ss' from h)
    cases i with
    | zero => cases e
    | succ i => simpa using back_ow h1 i d s (by simpa using e) (by simpa using e2)
  | .ow xs :: ss, [], ss', h, i, d, s, e, _ => by simp [back] at h
  | .ow xs :: ss, none :: l, ss', h, i, d, s, e, _ => by simp [back] at h
  | .ow xs :: ss, some t :: l, ss', h, i, d, s, e, e2 => by
    obtain ⟨r, h1, rfl⟩ := Option.map_eq_some_iff.mp (show (back ss l).map (t :: ·) = some ss' from h)
    cases i with
    | zero => cases e2; rfl
    | succ i => simpa using back_ow h1 i d s (by simpa using e) (by simpa using e2)
def parsOf (vs : List V) (ss : List Sl) : List (Nat × Addr) := (List.range vs.length).filterMap fun (i : Nat) => match (ss[i]? : Option Sl), (vs[i]? : Option V) with
  | some (.ow _), some (.ref p) => some (i, p)
  | _, _ => none
theorem mem_pars {vs : List V} {ss : List Sl} {i : Nat} {p : Addr} : (i, p) ∈ parsOf vs ss ↔ ∃ xs, ss[i]? = some (.ow xs) ∧ vs[i]? = some (.ref p) := by
  unfold parsOf
  rw [List.mem_filterMap]
  constructor
  · rintro ⟨j, _, h⟩
    split at h
    · rename_i xs q a b
      cases h
      exact ⟨xs, a, b⟩
    · cases h
  · rintro ⟨xs, a, b⟩
    exact ⟨i, List.mem_range.mpr (get_lt b), by rw [a, b]⟩
section
variable {K : PySem.W.Frag} {F H : Hp} {vs : List V} {ss : List Sl}
theorem start_st {N : List Str} {E : L2.St → XK} (s : Same F H) (ok : ArgsOk K F H vs ss) : StM ⟨K, F, H, parsOf vs ss⟩ F (L2.start N vs) H (ss.map some ++ List.replicate (N.length - ss.length) none) := by
  have at_ : ∀ (i : Nat) (q : Sl), (ss.map some ++ List.replicate (N.length - ss.length) none)[i]? = some (some q) → ss[i]? = some q := by
    intro i q h
    rw [List.getElem?_append] at h
    split at h
    · rw [List.getElem?_map] at h
      obtain ⟨r, e, z⟩ := Option.map_eq_some_iff.mp h
      cases z
      exact e
    · rw [List.getElem?_replicate] at h
      split at h
      · cases h
      · cases h
  have sv : ∀ (i : Nat) (v : V), vs[i]? = some v → (L2.start N vs)[i]? = some (some v) := by
    intro i v h
    unfold L2.start
    rw [List.getElem?_append_left (by rw [List.length_map]; exact get_lt h), List.getElem?_map, h]
    rfl
  have vs' : ∀ (i : Nat) (q : Sl) (v : V), ss[i]? = some q → (L2.start N vs)[i]? = some (some v) → vs[i]? = some v := by
    intro i q v a b
    have hi : i < vs.length := by rw [ok.len]; exact get_lt a
    rw [sv i _ (List.getElem?_eq_getElem hi)] at b
    cases b
    exact List.getElem?_eq_getElem hi
  refine ⟨s, ?_, ?_, ?_, Same.refl _, fun a o _ f _ => f, fun a o h _ => h, fun a h => h, ?_⟩
  · unfold L2.start
    rw [List.length_append, List.length_append, List.length_map, List.length_map, List.length_replicate, List.length_replicate, ok.len]
  · intro i q h
    have e := at_ i q h
    obtain ⟨v, ev, r⟩ := ok.at_ i q e
    refine ⟨v, sv i v ev, ?_⟩
    cases q with
    | fr d => exact r
    | ow xs =>
      obtain ⟨p, ws, rfl, h1, h2, h3⟩ := r
      exact ⟨p, ws, rfl, h1, h2, h3, .inr (mem_pars.mpr ⟨xs, e, ev⟩)⟩
  · intro i j xs ys v a b c d
    have a' := at_ i _ a
    have b' := at_ j _ b
    exact ok.inj i j xs ys v a' b' (vs' i _ v a' c) (vs' j _ v b' d)
  · rintro ⟨i, p⟩ hq
    obtain ⟨xs, a, b⟩ := mem_pars.mp hq
    exact sv i _ b
theorem end_after {σ' : L2.St} {F' H' : Hp} {l' : Ld} {ss' : List Sl} (ok : ArgsOk K F H vs ss) (st : StM ⟨K, F, H, parsOf vs ss⟩ F' σ' H' l') (hb : back ss l' = some ss') : After K F H F' H' vs ss ss' := by
  have out : ∀ p, ¬ OwnA vs ss p → p ∉ (parsOf vs ss).map (·.2) := by
    intro p n h
    obtain ⟨⟨i, q⟩, m, rfl⟩ := List.mem_map.mp h
    obtain ⟨xs, a, b⟩ := mem_pars.mp m
    exact n ⟨i, xs, a, b⟩
  refine ⟨st.keepF, st.sub, fun p o h f n => ⟨st.newF p o h f (out p n), st.keepH p o h (out p n)⟩, st.domH, fun i s' xs a b => ?_, back_fr hb⟩
  obtain ⟨v, ev, r⟩ := ok.at_ i _ b
  obtain ⟨p, ws, rfl, _⟩ := r
  have pr := st.pars (i, p) (mem_pars.mpr ⟨xs, b, ev⟩)
  obtain ⟨u, eu, ok'⟩ := st.slot i s' (back_ow hb i xs s' b a)
  rw [pr] at eu
  cases eu
  refine ⟨_, ev, ?_⟩
  cases s' with
  | fr d => exact ok'
  | ow ys =>
    obtain ⟨q, zs, h1, h2, h3, h4, _⟩ := ok'
    exact ⟨q, zs, h1, h2, h3, h4⟩
theorem run_ok {N : List Str} {g : MS} {fs : List Nat} {Q : VK} {E : XK} (s : Same F H) (ok : ArgsOk K F H vs ss) (w : wF K F H vs ss Q E (runF g N.length fs ss)) :
    (∀ i ∈ fs, ∀ q ∈ parsOf vs ss, q.1 ≠ i) ∧ mS ⟨K, F, H, parsOf vs ss⟩ (fun _ => E) g { nx := fun _ H' => Q .non H', rt := Q } (L2.start N vs) H := by
  unfold runF at w
  split at w
  · rename_i hf
    refine ⟨?_, F, _, start_st (E := fun _ => E) s ok, ?_⟩
    · rintro i hi ⟨j, p⟩ hq rfl
      obtain ⟨xs, a, _⟩ := mem_pars.mp hq
      have := List.all_eq_true.mp hf j hi
      rw [a] at this
      cases this
    · cases hg : g (ss.map some ++ List.replicate (N.length - ss.length) none) with
      | nx l =>
        rw [hg] at w
        intro σ' F' H' _ st
        dsimp only at w
        split at w
        · rename_i ss' hb
          exact w .non F' H' (end_after ok st hb) .non
        · exact w.elim
      | rt q l =>
        rw [hg] at w
        intro v σ' F' H' _ st r
        dsimp only at w
        split at w
        · rename_i ss' hb
          refine w v F' H' (end_after ok st hb) ?_
          cases q with
          | fr d => exact r
          | ow xs =>
            obtain ⟨p, ws, h1, h2, h3, h4, h5⟩ := r
            exact ⟨p, ws, h1, h2, h3, h4, h5⟩
        · exact w.elim
      | err c f d l =>
        rw [hg] at w
        intro v dd σ' F' H' _ st hx fx h0 r
        dsimp only at w
        split at w
        · rename_i ss' hb
          exact w v dd F' H' (end_after ok st hb) hx fx h0 r
        · exact w.elim
      | bk l => rw [hg] at w; exact w.elim
      | ct l => rw [hg] at w; exact w.elim
      | stuck => rw [hg] at w; exact w.elim
  · exact w.elim
end
section
variable {P : Program} {w : World} {K : PySem.W.Frag} {mg : Str → Option Value} {base : Heap} {k : Nat} {x : Str} {st : Stmt} {ps N : List Str} {dvs dv : List V}
/-- the contract of a def from the walk of its body -/
theorem has_m {g : MS} {fs : List Nat} (D : DefAt K mg x st dvs) (S : FnScope N ps (defScope st))
    (bnd : ∀ fd, FunD K x x (defArgs st) (defBody st) (defScope st) dvs [] (He.ga K x) fd → ∃ ds, Vals dv ds ∧ Binds K fd ps ds)
    (walk : ∀ (cv : Value) (A : Around) (outer : List Env) (s : Shared) (H : Hp) (E : XK) (F0 H0 : Hp) (pr : List (Nat × Addr)), (∀ i ∈ fs, ∀ q ∈ pr, q.1 ≠ i) → Still A → Room k (A.deeper (envOfC x (defScope st) s.heap.objs.size (He.ga K x) cv)) →
      PSs (cxOf (L2.CX P w) P w K mg base N x (defScope st) (He.ga K x) cv A outer s H E) (defBody st) (mS ⟨K, F0, H0, pr⟩ (fun _ => E) g)) :
    Has P w K mg base (L2.CX P w) (k + 1) x ps dv (spM K ps.length (runF g N.length fs)) := by
  refine hasXB D S bnd (fun vs H Q E h => ?_) (fun cv A outer s H vs Q E hg hr h => ?_)
  · obtain ⟨F, ss, n, _, ok, _⟩ := h
    rw [ok.len, n]
  · obtain ⟨F, ss, n, s', ok, wf⟩ := h
    obtain ⟨np, rd⟩ := run_ok (N := N) s' ok wf
    exact ⟨_, walk cv A outer s H E F H _ np hg hr, rd⟩
end
end Sb

namespace Sb
open PySem PySem.Spec PyProof.Rows L2

/-! ### data as the library's data -/
mutual
def toPy : D → Option PyData
  | .non => some .none
  | .bl b => some (.bool b)
  | .int i => some (.int i)
  | .str x => some (.str x)
  | .scr ns => some (.list (ns.map .int))
  | .list xs => (toPys xs).map .list
  | .tup xs => (toPys xs).map .tuple
  | _ => none
def toPys : List D → Option (List PyData)
  | [] => some []
  | d :: ds => (toPy d).bind fun p => (toPys ds).map (p :: ·)
end
section
variable {K : PySem.W.Frag} {F H : Hp}
theorem dp_ints0 : ∀ ns : List Int, DpAll K F (ns.map V.int) (ns.map PyData.int)
  | [] => .nil
  | n :: r => .cons (.int n) (dp_ints0 r)
mutual
theorem toPy_ok : ∀ (d : D) (v : V) (p : PyData), Rep K F v d → toPy d = some p → Dp K F v p
  | .non, _, _, .non, h => by cases h; exact .non
  | .bl b, _, _, .bl _, h => by cases h; exact .bl b
  | .int i, _, _, .int _, h => by cases h; exact .int i
  | .str x, _, _, .str _, h => by cases h; exact .str x
  | .scr ns, _, _, .scr q, h => by cases h; exact .lst q (dp_ints0 ns)
  | .list ds, _, p, .list q rs, h => by
    obtain ⟨ps, e, rfl⟩ := Option.map_eq_some_iff.mp (show (toPys ds).map PyData.list = some p from h)
    exact .lst (SqL.of q) (toPys_ok ds _ ps rs e)
  | .tup ds, _, p, .tup q rs, h => by
    obtain ⟨ps, e, rfl⟩ := Option.map_eq_some_iff.mp (show (toPys ds).map PyData.tuple = some p from h)
    exact .tup q (toPys_ok ds _ ps rs e)
theorem toPys_ok : ∀ (ds : List D) (vs : List V) (ps : List PyData), Reps K F vs ds → toPys ds = some ps → DpAll K F vs ps
  | [], _, _, .nil, h => by cases h; exact .nil
  | d :: ds, _, ps, .cons r rs, h => by
    obtain ⟨p, e1, h⟩ := Option.bind_eq_some_iff.mp (show ((toPy d).bind fun p => (toPys ds).map (p :: ·)) = some ps from h)
    obtain ⟨qs, e2, rfl⟩ := Option.map_eq_some_iff.mp h
    exact .cons (toPy_ok d _ p r e1) (toPys_ok ds _ qs rs e2)
end
theorem dp_up {v : V} {p : PyData} (h : Dp K F v p) (s : Same F H) : Dp K H v p := Dp.same s p v h
end

/-! ### operators -/
def addD : D → D → Option D
  | .int i, .int j => some (.int (i + j))
  | .str a, .str b => if a.length + b.length ≤ sizeLine then some (.str (a ++ b)) else none
  | .list xs, .list ys => if xs.length + ys.length ≤ sizeLine then some (.list (xs ++ ys)) else none
  | .tup xs, .tup ys => if xs.length + ys.length ≤ sizeLine then some (.tup (xs ++ ys)) else none
  | _, _ => none
def catD : D → D → Option (List D)
  | .list xs, .list ys => if xs.length + ys.length ≤ sizeLine then some (xs ++ ys) else none
  | _, _ => none
def intD (C : Int → Int → Bool) (f : Int → Int → Int) : D → D → Option D
  | .int i, .int j => if C i j = true then some (.int (f i j)) else none
  | _, _ => none
def subD := intD (fun _ _ => true) fun i j => i - j
def cMul (i j : Int) : Bool := decide ((-(2 ^ 64) < i ∧ i < 2 ^ 64) ∨ (-(2 ^ 64) < j ∧ j < 2 ^ 64))
def mulD := intD cMul fun i j => i * j
def cDiv (_ j : Int) : Bool := decide (j ≠ 0 ∧ j.natAbs < 1073741824)
def fdivD := intD cDiv fun i j => i.fdiv j
def modD := intD (fun _ j => decide (j ≠ 0)) fun i j => i.fmod j
def cPow (i j : Int) : Bool := decide (0 ≤ j ∧ j ≤ 1000000 ∧ i.natAbs < 2 ^ 64)
def powD := intD cPow fun i j => i ^ j.toNat
def shrD := intD (fun _ j => decide (0 ≤ j)) fun i j => i / 2 ^ j.toNat
def andD := intD (fun _ _ => true) fun i j => Builtin.bitAnd i j
def cmpD (f : Int → Int → Bool) : D → D → Option D
  | .int i, .int j => some (.bl (f i j))
  | _, _ => none
def negD : D → Option D
  | .int i => some (.int (-i))
  | _ => none
section
variable {X : Cx} {K : PySem.W.Frag}
theorem opr_imp {f : Value → Value → Sem Value} {r r' : L2.R2} (h : OpR X f r) (imp : ∀ x y H Q, r' x y H Q → r x y H Q) : OpR X f r' := fun pins s σ H x y v u Q I rx ry z => h pins s σ H x y v u Q I rx ry (imp x y H Q z)
theorem op_addD (eK : X.K = K) : OpR X (binaryOp .Add) (rD2 K addD) := by
  refine opr_imp (op_add.or (op_add_str.or (op_cat.or op_catA))) fun x y H Q h => ?_
  obtain ⟨F, d, e, r, s, rx, ry, hf, q⟩ := h
  cases rx with
  | int i =>
    cases ry with
    | int j => cases hf; exact .inl ⟨i, j, rfl, rfl, q _ F H (Nw.refl s) (.int _)⟩
    | _ => cases hf
  | str a =>
    cases ry with
    | str b =>
      have hf : (if a.length + b.length ≤ sizeLine then some (D.str (a ++ b)) else none) = some r := hf
      split at hf
      · cases hf
        exact .inr (.inl ⟨a, b, rfl, rfl, by assumption, q _ F H (Nw.refl s) (.str _)⟩)
      · cases hf
    | _ => cases hf
  | list h1 r1 =>
    cases ry with
    | list h2 r2 =>
      rename_i vs ds _ ws es
      have hf : (if ds.length + es.length ≤ sizeLine then some (D.list (ds ++ es)) else none) = some r := hf
      split at hf
      · rename_i hz
        cases hf
        refine .inr (.inr (.inl ⟨_, _, _, _, rfl, rfl, s _ _ h1, s _ _ h2, by rw [r1.length, r2.length]; exact hz, fun p np => ?_⟩))
        have nw := Nw.add (o := .lst (vs ++ ws)) s np
        exact q _ _ _ nw (.list upd_same ((r1.append r2).up nw.f))
      · cases hf
    | _ => cases hf
  | tup h1 r1 =>
    cases ry with
    | tup h2 r2 =>
      rename_i vs ds _ ws es
      have hf : (if ds.length + es.length ≤ sizeLine then some (D.tup (ds ++ es)) else none) = some r := hf
      split at hf
      · rename_i hz
        cases hf
        refine .inr (.inr (.inr ⟨_, _, vs, ws, rfl, rfl, by rw [eK]; exact seqT_same s h1, by rw [eK]; exact seqT_same s h2, by rw [r1.length, r2.length]; exact hz, fun z => ?_, fun _ z => ?_, fun _ _ p np => ?_⟩))
        · subst z
          cases r1
          exact q _ F H (Nw.refl s) (.tup h2 r2)
        · subst z
          cases r2
          rw [List.append_nil] at q
          exact q _ F H (Nw.refl s) (.tup h1 r1)
        · have nw := Nw.add (o := .tup (vs ++ ws)) s np
          exact q _ _ _ nw (.tup (SqT.of upd_same) ((r1.append r2).up nw.f))
      · cases hf
    | _ => cases hf
  | _ => cases ry <;> cases hf
theorem op_catL : OpR X (binaryOp .Add) (rD2L K catD) := by
  refine opr_imp op_cat fun x y H Q h => ?_
  obtain ⟨F, d, e, r, s, rx, ry, hf, q⟩ := h
  cases rx with
  | list h1 r1 =>
    cases ry with
    | list h2 r2 =>
      rename_i vs ds _ ws es
      have hf : (if ds.length + es.length ≤ sizeLine then some (ds ++ es) else none) = some r := hf
      split at hf
      · rename_i hz
        cases hf
        exact ⟨_, _, _, _, rfl, rfl, s _ _ h1, s _ _ h2, by rw [r1.length, r2.length]; exact hz, fun p np => q p _ np (r1.append r2)⟩
      · cases hf
    | _ => cases hf
  | _ => cases ry <;> cases hf
theorem op_intD {f : Value → Value → Sem Value} {C : Int → Int → Bool} {g : Int → Int → Int} {C' : Int → Int → Prop} (h : OpR X f (rI C' fun i j => .int (g i j))) (hc : ∀ i j, C i j = true → C' i j) : OpR X f (rD2 K (intD C g)) := by
  refine opr_imp h fun x y H Q h => ?_
  obtain ⟨F, d, e, r, s, rx, ry, hf, q⟩ := h
  cases rx with
  | int i =>
    cases ry with
    | int j =>
      have hf : (if C i j = true then some (D.int (g i j)) else none) = some r := hf
      split at hf
      · cases hf
        exact ⟨i, j, rfl, rfl, hc i j (by assumption), q _ F H (Nw.refl s) (.int _)⟩
      · cases hf
    | _ => cases hf
  | _ => cases ry <;> cases hf
theorem op_subD : OpR X (binaryOp .Sub) (rD2 K subD) := op_intD (C' := fun _ _ => True) (opr_imp op_sub fun x y H Q ⟨i, j, a, b, _, q⟩ => ⟨i, j, a, b, q⟩) fun _ _ _ => trivial
theorem op_mulD : OpR X (binaryOp .Mult) (rD2 K mulD) := op_intD op_mul fun i j h => of_decide_eq_true (p := (-(2 ^ 64) < i ∧ i < 2 ^ 64) ∨ (-(2 ^ 64) < j ∧ j < 2 ^ 64)) h
theorem op_fdivD : OpR X (binaryOp .FloorDiv) (rD2 K fdivD) := op_intD op_fdivN fun i j h => of_decide_eq_true (p := j ≠ 0 ∧ j.natAbs < 1073741824) h
theorem op_modD : OpR X (binaryOp .Mod) (rD2 K modD) := op_intD op_modN fun i j h => of_decide_eq_true h
theorem op_powD : OpR X (binaryOp .Pow) (rD2 K powD) := op_intD op_pow fun i j h => of_decide_eq_true (p := 0 ≤ j ∧ j ≤ 1000000 ∧ i.natAbs < 2 ^ 64) h
theorem op_shrD : OpR X (binaryOp .RShift) (rD2 K shrD) := op_intD op_shr fun i j h => of_decide_eq_true h
theorem op_andD : OpR X (binaryOp .BitAnd) (rD2 K andD) := op_intD (C' := fun _ _ => True) (opr_imp op_and fun x y H Q ⟨i, j, a, b, _, q⟩ => ⟨i, j, a, b, q⟩) fun _ _ _ => trivial
theorem op_cmpD {f : Value → Value → Sem Value} {g : Int → Int → Bool} (h : OpR X f (rI0 fun i j => .bl (g i j))) : OpR X f (rD2 K (cmpD g)) := by
  refine opr_imp h fun x y H Q h => ?_
  obtain ⟨F, d, e, r, s, rx, ry, hf, q⟩ := h
  cases rx with
  | int i =>
    cases ry with
    | int j => cases hf; exact ⟨i, j, rfl, rfl, q _ F H (Nw.refl s) (.bl _)⟩
    | _ => cases hf
  | _ => cases ry <;> cases hf
def leD := cmpD fun i j => decide (i ≤ j)
def gtD := cmpD fun i j => decide (j < i)
def geD := cmpD fun i j => decide (j ≤ i)
theorem op_leD : OpR X (compareOp .LtE) (rD2 K leD) := op_cmpD op_le
theorem op_gtD : OpR X (compareOp .Gt) (rD2 K gtD) := op_cmpD op_gt
theorem op_geD : OpR X (compareOp .GtE) (rD2 K geD) := op_cmpD op_ge
def notNone : PyData → Bool
  | .none => false
  | _ => true
/-- <: of ints; of lists and tuples of data -/
def ltD : D → D → Option D
  | .int i, .int j => some (.bl (decide (i < j)))
  | d, e => (toPy d).bind fun p => (toPy e).bind fun q => if PySem.W.alike p q = true ∧ notNone p = true ∧ p.depth ≤ 60 then some (.bl (PySem.W.dataLt p q)) else none
theorem op_ltD' (eK : X.K = K) (room : X.A.units + 64 < cLine) : OpR X (compareOp .Lt) (rD2 K ltD) := by
  refine opr_imp (op_lt.or (op_ltD room)) fun x y H Q h => ?_
  obtain ⟨F, d, e, r, s, rx, ry, hf, q⟩ := h
  have gen : ((toPy d).bind fun p => (toPy e).bind fun q => if PySem.W.alike p q = true ∧ notNone p = true ∧ p.depth ≤ 60 then some (D.bl (PySem.W.dataLt p q)) else none) = some r → rLtD X.K x y H Q := by
    intro hf
    obtain ⟨p, e1, hf⟩ := Option.bind_eq_some_iff.mp hf
    obtain ⟨p2, e2, hf⟩ := Option.bind_eq_some_iff.mp hf
    split at hf
    · rename_i hc
      cases hf
      rw [eK]
      refine ⟨p, p2, dp_up (toPy_ok d x p rx e1) s, dp_up (toPy_ok e y p2 ry e2) s, hc.1, fun z => ?_, hc.2.2, q _ F H (Nw.refl s) (.bl _)⟩
      rw [z] at hc
      exact nomatch hc.2.1
    · cases hf
  cases rx with
  | int i =>
    cases ry with
    | int j => cases hf; exact .inl ⟨i, j, rfl, rfl, q _ F H (Nw.refl s) (.bl _)⟩
    | _ => exact .inr (gen hf)
  | _ => exact .inr (gen hf)
/-- == -/
def eqB : D → D → Option Bool
  | .int i, .int j => some (decide (i = j))
  | .str a, .str b => some (decide (a = b))
  | .bl a, .bl b => some (decide (a = b))
  | d, e => (toPy d).bind fun p => (toPy e).bind fun q => if SeqAt.shaped p = true ∧ SeqAt.shaped q = true then some (PyData.eqv p q) else none
def eqD (d e : D) : Option D := (eqB d e).map .bl
def neD (d e : D) : Option D := (eqB d e).map fun b => .bl !b
theorem dec_inj {α β : Type} [DecidableEq α] [DecidableEq β] (f : α → β) (inj : ∀ a b, f a = f b → a = b) (a b : α) : decide (f a = f b) = decide (a = b) := by
  by_cases h : a = b
  · rw [h]
    simp
  · rw [decide_eq_false h, decide_eq_false fun z => h (inj a b z)]
theorem op_eqDD (eK : X.K = K) (room : X.A.units + 64 < cLine) : OpR X (compareOp .Eq) (rD2 K eqD) := by
  refine opr_imp (op_eq.or (op_eqD room)) fun x y H Q h => ?_
  obtain ⟨F, d, e, r, s, rx, ry, hf, q⟩ := h
  obtain ⟨b, hb, rfl⟩ := Option.map_eq_some_iff.mp hf
  have q' := q _ F H (Nw.refl s) (.bl b)
  have gen : ((toPy d).bind fun p => (toPy e).bind fun q => if SeqAt.shaped p = true ∧ SeqAt.shaped q = true then some (PyData.eqv p q) else none) = some b → rEqD X.K x y H Q := by
    intro hf
    obtain ⟨p, e1, hf⟩ := Option.bind_eq_some_iff.mp hf
    obtain ⟨p2, e2, hf⟩ := Option.bind_eq_some_iff.mp hf
    split at hf
    · rename_i hc
      cases hf
      rw [eK]
      exact ⟨p, p2, dp_up (toPy_ok d x p rx e1) s, dp_up (toPy_ok e y p2 ry e2) s, hc.1, hc.2, q'⟩
    · cases hf
  cases rx with
  | int i =>
    cases ry with
    | int j => cases hb; exact .inl ⟨rfl, by rw [dec_inj V.int fun _ _ z => V.int.inj z]; exact q'⟩
    | _ => exact .inr (gen hb)
  | str i =>
    cases ry with
    | str j => cases hb; exact .inl ⟨rfl, by rw [dec_inj V.str fun _ _ z => V.str.inj z]; exact q'⟩
    | _ => exact .inr (gen hb)
  | bl i =>
    cases ry with
    | bl j => cases hb; exact .inl ⟨rfl, by rw [dec_inj V.bl fun _ _ z => V.bl.inj z]; exact q'⟩
    | _ => exact .inr (gen hb)
  | _ => exact .inr (gen hb)
theorem op_neDD (eK : X.K = K) (room : X.A.units + 64 < cLine) : OpR X (compareOp .NotEq) (rD2 K neD) := by
  refine opr_imp (op_ne.or (op_neD room)) fun x y H Q h => ?_
  obtain ⟨F, d, e, r, s, rx, ry, hf, q⟩ := h
  obtain ⟨b, hb, rfl⟩ := Option.map_eq_some_iff.mp hf
  have q' := q _ F H (Nw.refl s) (.bl _)
  have gen : ((toPy d).bind fun p => (toPy e).bind fun q => if SeqAt.shaped p = true ∧ SeqAt.shaped q = true then some (PyData.eqv p q) else none) = some b → rNeD X.K x y H Q := by
    intro hf
    obtain ⟨p, e1, hf⟩ := Option.bind_eq_some_iff.mp hf
    obtain ⟨p2, e2, hf⟩ := Option.bind_eq_some_iff.mp hf
    split at hf
    · rename_i hc
      cases hf
      rw [eK]
      exact ⟨p, p2, dp_up (toPy_ok d x p rx e1) s, dp_up (toPy_ok e y p2 ry e2) s, hc.1, hc.2, q'⟩
    · cases hf
  cases rx with
  | int i =>
    cases ry with
    | int j => cases hb; exact .inl ⟨rfl, by rw [dec_inj V.int fun _ _ z => V.int.inj z]; exact q'⟩
    | _ => exact .inr (gen hb)
  | str i =>
    cases ry with
    | str j => cases hb; exact .inl ⟨rfl, by rw [dec_inj V.str fun _ _ z => V.str.inj z]; exact q'⟩
    | _ => exact .inr (gen hb)
  | bl i =>
    cases ry with
    | bl j => cases hb; exact .inl ⟨rfl, by rw [dec_inj V.bl fun _ _ z => V.bl.inj z]; exact q'⟩
    | _ => exact .inr (gen hb)
  | _ => exact .inr (gen hb)
/-- is None, is True .. -/
def isNonB : D → Bool
  | .non => true
  | _ => false
def isD : D → D → Option D
  | d, .non => some (.bl (isNonB d))
  | .bl a, .bl b => some (.bl (a == b))
  | _, _ => none
def isNotD : D → D → Option D
  | d, .non => some (.bl !isNonB d)
  | .bl a, .bl b => some (.bl !(a == b))
  | _, _ => none
theorem Rep.isNon {F : Hp} {v : V} {d : D} (r : Rep K F v d) : decide (v = .non) = isNonB d := by
  cases r <;> rfl
theorem un_negD : UnR X (unaryOp .USub) (rD1 K negD) := by
  intro pins s σ H x v Q I rx h
  obtain ⟨F, d, r, s', rx', hf, q⟩ := h
  cases rx' with
  | int i => cases hf; exact un_neg pins s σ H _ v Q I rx ⟨i, rfl, q _ F H (Nw.refl s') (.int _)⟩
  | _ => cases hf
end
end Sb

namespace Sb
open PySem PySem.Spec PyProof.Rows L2

section
variable {X : Cx} {K : PySem.W.Frag}
theorem op_isDD : OpR X (compareOp .Is) (rD2 K isD) := by
  refine opr_imp (op_isN.or op_isBl) fun x y H Q h => ?_
  obtain ⟨F, d, e, r, s, rx, ry, hf, q⟩ := h
  cases ry with
  | non =>
    have hf : some (D.bl (isNonB d)) = some r := by cases d <;> exact hf
    cases hf
    exact .inl ⟨rfl, by rw [rx.isNon]; exact q _ F H (Nw.refl s) (.bl _)⟩
  | bl b =>
    cases rx with
    | bl a =>
      cases hf
      refine .inr ⟨a, b, rfl, rfl, ?_⟩
      rw [show decide (a = b) = (a == b) from (Bool.beq_eq_decide_eq a b).symm]
      exact q _ F H (Nw.refl s) (.bl _)
    | _ => cases hf
  | _ => cases rx <;> cases hf
theorem op_isNotDD : OpR X (compareOp .IsNot) (rD2 K isNotD) := by
  refine opr_imp (op_notN.or op_notBl) fun x y H Q h => ?_
  obtain ⟨F, d, e, r, s, rx, ry, hf, q⟩ := h
  cases ry with
  | non =>
    have hf : some (D.bl !isNonB d) = some r := by cases d <;> exact hf
    cases hf
    exact .inl ⟨rfl, by rw [rx.isNon]; exact q _ F H (Nw.refl s) (.bl _)⟩
  | bl b =>
    cases rx with
    | bl a =>
      cases hf
      refine .inr ⟨a, b, rfl, rfl, ?_⟩
      rw [show decide (a = b) = (a == b) from (Bool.beq_eq_decide_eq a b).symm]
      exact q _ F H (Nw.refl s) (.bl _)
    | _ => cases hf
  | _ => cases rx <;> cases hf
/-! in -/
def flatD : D → Bool
  | .non => true
  | .bl _ => true
  | .int _ => true
  | .str _ => true
  | _ => false
def eqFl : D → D → Bool
  | .non, .non => true
  | .bl a, .bl b => a == b
  | .bl a, .int b => (if a then 1 else 0) == b
  | .int a, .bl b => a == (if b then 1 else 0)
  | .int a, .int b => a == b
  | .str a, .str b => a == b
  | _, _ => false
def one? (a : Str) : Option Nat := match a.cps.toList with
  | [c] => some c
  | _ => none
theorem one_ok {a : Str} {c : Nat} (h : one? a = some c) : a = ⟨#[c]⟩ := by
  unfold one? at h
  split at h
  · rename_i c' e
    cases h
    cases a with
    | mk cps =>
      cases cps with
      | mk l =>
        have : l = [c] := e
        rw [this]
  · cases h
def inB : D → D → Option Bool
  | .str a, .str z => (one? a).map fun c => decide (c ∈ z.cps.toList)
  | d, .list xs => if flatD d = true ∧ xs.all flatD = true then some (xs.any fun y => eqFl y d) else none
  | d, .tup xs => if flatD d = true ∧ xs.all flatD = true then some (xs.any fun y => eqFl y d) else none
  | _, _ => none
def inD (d e : D) : Option D := (inB d e).map .bl
def notInD (d e : D) : Option D := (inB d e).map fun b => .bl !b
theorem flat_ok {F : Hp} {v : V} {d : D} (r : Rep K F v d) : flatD d = true → flatV v = true := by
  cases r <;> intro h <;> first | rfl | cases h
theorem eqFl_ok {F : Hp} {x y : V} {d e : D} (rx : Rep K F x d) (ry : Rep K F y e) (fx : flatD d = true) (fy : flatD e = true) : eqV x y = eqFl d e := by
  cases rx <;> cases ry <;> first | rfl | cases fx | cases fy
theorem flats_ok {F : Hp} : ∀ {vs : List V} {ds : List D}, Reps K F vs ds → ds.all flatD = true → vs.all flatV = true
  | _, _, .nil, _ => rfl
  | _, _, .cons r t, h => by
    rw [List.all_cons, Bool.and_eq_true] at h ⊢
    exact ⟨flat_ok r h.1, flats_ok t h.2⟩
theorem any_ok {F : Hp} {x : V} {d : D} (rx : Rep K F x d) (fx : flatD d = true) : ∀ {vs : List V} {ds : List D}, Reps K F vs ds → ds.all flatD = true → inV x vs = ds.any fun y => eqFl y d
  | _, _, .nil, _ => rfl
  | _, _, .cons r t, h => by
    rw [List.all_cons, Bool.and_eq_true] at h
    show (eqV _ x || inV x _) = (eqFl _ d || List.any _ _)
    rw [eqFl_ok r rx h.1 fx, any_ok rx fx t h.2]
theorem in_core {neg : Bool} {F H : Hp} {x y : V} {d e : D} {b : Bool} {Q : VK} (s : Same F H) (rx : Rep K F x d) (ry : Rep K F y e) (hb : inB d e = some b) (q : Q (.bl (if neg then !b else b)) H) :
    rIn K neg x y H Q ∨ ∃ (c : Nat) (z : Str), x = .str ⟨#[c]⟩ ∧ y = .str z ∧ Q (.bl (if neg then !decide (c ∈ z.cps.toList) else decide (c ∈ z.cps.toList))) H := by
  cases ry with
  | str z =>
    cases rx with
    | str a =>
      obtain ⟨c, hc, rfl⟩ := Option.map_eq_some_iff.mp hb
      rw [one_ok hc]
      exact .inr ⟨c, z, rfl, rfl, q⟩
    | _ => cases hb
  | list hl rs =>
    rename_i vs ds
    have hb : (if flatD d = true ∧ ds.all flatD = true then some (ds.any fun y => eqFl y d) else none) = some b := by
      cases d <;> exact hb
    split at hb
    · rename_i hc
      cases hb
      refine .inl ⟨_, vs, rfl, .inl (SqL.of (s _ _ hl)), flat_ok rx hc.1, flats_ok rs hc.2, ?_⟩
      rw [any_ok rx hc.1 rs hc.2]
      exact q
    · cases hb
  | tup hl rs =>
    rename_i vs ds
    have hb : (if flatD d = true ∧ ds.all flatD = true then some (ds.any fun y => eqFl y d) else none) = some b := by
      cases d <;> exact hb
    split at hb
    · rename_i hc
      cases hb
      refine .inl ⟨_, vs, rfl, .inr (seqT_same s hl), flat_ok rx hc.1, flats_ok rs hc.2, ?_⟩
      rw [any_ok rx hc.1 rs hc.2]
      exact q
    · cases hb
  | _ => cases rx <;> cases hb
theorem op_inD (eK : X.K = K) : OpR X (compareOp .In) (rD2 K inD) := by
  refine opr_imp (op_in_seq.or op_in_sign) fun x y H Q h => ?_
  obtain ⟨F, d, e, r, s, rx, ry, hf, q⟩ := h
  obtain ⟨b, hb, rfl⟩ := Option.map_eq_some_iff.mp hf
  rw [eK]
  exact in_core (neg := false) s rx ry hb (q _ F H (Nw.refl s) (.bl _))
theorem op_notInD (eK : X.K = K) : OpR X (compareOp .NotIn) (rD2 K notInD) := by
  refine opr_imp (op_notIn_seq.or op_notIn_sign) fun x y H Q h => ?_
  obtain ⟨F, d, e, r, s, rx, ry, hf, q⟩ := h
  obtain ⟨b, hb, rfl⟩ := Option.map_eq_some_iff.mp hf
  rw [eK]
  exact in_core (neg := true) s rx ry hb (q _ F H (Nw.refl s) (.bl _))

/-! ### built-in functions -/
theorem clr_imp {f : Value} {r r' : List V → Hp → VK → Prop} (h : CallR X f r) (imp : ∀ xs H Q, r' xs H Q → r xs H Q) : CallR X f r' := fun pins s σ H xs us Q I rv z => h pins s σ H xs us Q I rv (imp xs H Q z)
def lenB : List D → Option D
  | [d] => (lenD d).map fun (n : Nat) => .int n
  | _ => none
theorem call_lenD' (eK : X.K = K) : CallR X (.builtin "len") (rDn K lenB) := by
  refine clr_imp call_len fun xs H Q h => ?_
  obtain ⟨F, ds, r, s, rs, hf, q⟩ := h
  match ds, rs, hf with
  | [d], .cons r1 .nil, hf =>
    obtain ⟨n, hn, rfl⟩ := Option.map_eq_some_iff.mp (show (lenD d).map (fun (n : Nat) => D.int n) = some r from hf)
    exact ⟨_, n, rfl, by rw [eK]; exact lenD_ok s r1 hn, q _ F H (Nw.refl s) (.int _)⟩
def absB : List D → Option D
  | [.int i] => some (.int (if i < 0 then -i else i))
  | _ => none
theorem call_absD : CallR X (.builtin "abs") (rDn K absB) := by
  refine clr_imp call_abs fun xs H Q h => ?_
  obtain ⟨F, ds, r, s, rs, hf, q⟩ := h
  match ds, rs, hf with
  | [.int i], .cons (.int _) .nil, hf =>
    cases hf
    exact ⟨i, rfl, q _ F H (Nw.refl s) (.int _)⟩
def max2 : List D → Option D
  | [.int i, .int j] => some (.int (if j > i then j else i))
  | _ => none
theorem call_maxD (c : X.calm = true) : CallR X (.builtin "max") (rDn K max2) := by
  refine clr_imp (call_max2 c) fun xs H Q h => ?_
  obtain ⟨F, ds, r, s, rs, hf, q⟩ := h
  match ds, rs, hf with
  | [.int i, .int j], .cons (.int _) (.cons (.int _) .nil), hf =>
    cases hf
    exact ⟨i, j, rfl, q _ F H (Nw.refl s) (.int _)⟩
def min2 : List D → Option D
  | [.int i, .int j] => some (.int (if j < i then j else i))
  | _ => none
theorem call_minD (c : X.calm = true) : CallR X (.builtin "min") (rDn K min2) := by
  refine clr_imp (call_min2 c) fun xs H Q h => ?_
  obtain ⟨F, ds, r, s, rs, hf, q⟩ := h
  match ds, rs, hf with
  | [.int i, .int j], .cons (.int _) (.cons (.int _) .nil), hf =>
    cases hf
    exact ⟨i, j, rfl, q _ F H (Nw.refl s) (.int _)⟩
def intB : List D → Option D
  | [.int i] => some (.int i)
  | [.bl b] => some (.int (if b then 1 else 0))
  | _ => none
theorem call_intD : CallR X (.type "int") (rDn K intB) := by
  refine clr_imp call_int1 fun xs H Q h => ?_
  obtain ⟨F, ds, r, s, rs, hf, q⟩ := h
  match ds, rs, hf with
  | [.int i], .cons (.int _) .nil, hf =>
    cases hf
    exact .inl ⟨i, rfl, q _ F H (Nw.refl s) (.int _)⟩
  | [.bl i], .cons (.bl _) .nil, hf =>
    cases hf
    exact .inr ⟨i, rfl, q _ F H (Nw.refl s) (.int _)⟩
def boolB : List D → Option D
  | [.int i] => some (.bl (i != 0))
  | [.bl b] => some (.bl b)
  | _ => none
theorem call_boolD : CallR X (.type "bool") (rDn K boolB) := by
  refine clr_imp call_bool1 fun xs H Q h => ?_
  obtain ⟨F, ds, r, s, rs, hf, q⟩ := h
  match ds, rs, hf with
  | [.int i], .cons (.int _) .nil, hf =>
    cases hf
    exact .inl ⟨i, rfl, q _ F H (Nw.refl s) (.bl _)⟩
  | [.bl i], .cons (.bl _) .nil, hf =>
    cases hf
    exact .inr ⟨i, rfl, q _ F H (Nw.refl s) (.bl _)⟩
def ordB : List D → Option D
  | [.str a] => if a.length = 1 then some (.int (a.cps.getD 0 0 : Nat)) else none
  | _ => none
theorem call_ordD : CallR X (.builtin "ord") (rDn K ordB) := by
  refine clr_imp call_ord fun xs H Q h => ?_
  obtain ⟨F, ds, r, s, rs, hf, q⟩ := h
  match ds, rs, hf with
  | [.str a], .cons (.str _) .nil, hf =>
    have hf : (if a.length = 1 then some (D.int (a.cps.getD 0 0 : Nat)) else none) = some r := hf
    split at hf
    · cases hf
      exact ⟨a, rfl, by assumption, q _ F H (Nw.refl s) (.int _)⟩
    · cases hf
def tupleB : List D → Option D
  | [.list xs] => some (.tup xs)
  | [.tup xs] => some (.tup xs)
  | _ => none
theorem call_tupleD (eK : X.K = K) : CallR X (.type "tuple") (rDn K tupleB) := by
  refine clr_imp call_tuple_of fun xs H Q h => ?_
  obtain ⟨F, ds, r, s, rs, hf, q⟩ := h
  match ds, rs, hf with
  | [.list xs], .cons (.list hl r1) .nil, hf =>
    cases hf
    rename_i vs
    refine ⟨_, vs, rfl, .inl ⟨SqL.of (s _ _ hl), fun p np => ?_⟩⟩
    have nw := Nw.add (o := .tup vs) s np
    exact q _ _ _ nw (.tup (SqT.of upd_same) (r1.up nw.f))
  | [.tup xs], .cons (.tup hl r1) .nil, hf =>
    cases hf
    exact ⟨_, _, rfl, .inr ⟨by rw [eK]; exact seqT_same s hl, q _ F H (Nw.refl s) (.tup hl r1)⟩⟩
def listB : List D → Option (List D)
  | [.list xs] => some xs
  | [.tup xs] => some xs
  | [.scr ns] => some (ns.map .int)
  | _ => none
theorem call_listD (eK : X.K = K) : CallR X (.type "list") (rDnL K listB) := by
  refine clr_imp call_list_of fun xs H Q h => ?_
  obtain ⟨F, ds, r, s, rs, hf, q⟩ := h
  match ds, rs, hf with
  | [.list xs], .cons (.list hl r1) .nil, hf =>
    cases hf
    exact ⟨_, _, rfl, .inl (SqL.of (s _ _ hl)), fun p np => q p _ np r1⟩
  | [.tup xs], .cons (.tup hl r1) .nil, hf =>
    cases hf
    exact ⟨_, _, rfl, .inr (by rw [eK]; exact seqT_same s hl), fun p np => q p _ np r1⟩
  | [.scr ns], .cons (.scr hl) .nil, hf =>
    cases hf
    exact ⟨_, _, rfl, .inl (by rw [eK]; exact s.seq hl), fun p np => q p _ np (Reps.of_ints ns)⟩
def blsOf : List D → Option (List Bool)
  | [] => some []
  | .bl b :: ds => (blsOf ds).map (b :: ·)
  | _ => none
theorem blsOf_ok : ∀ {ds : List D} {bs : List Bool}, blsOf ds = some bs → ds = bs.map .bl
  | [], _, h => by cases h; rfl
  | d :: ds, bs, h => by
    cases d with
    | bl b =>
      obtain ⟨r, e, rfl⟩ := Option.map_eq_some_iff.mp (show (blsOf ds).map (b :: ·) = some bs from h)
      rw [blsOf_ok e]
      rfl
    | _ => cases h
def allB : List D → Option D
  | [.list xs] => (blsOf xs).map fun bs => .bl (bs.all id)
  | _ => none
theorem call_allD (eK : X.K = K) (c : X.calm = true) : CallR X (.builtin "all") (rDn K allB) := by
  refine clr_imp (cr_all c) fun xs H Q h => ?_
  obtain ⟨F, ds, r, s, rs, hf, q⟩ := h
  match ds, rs, hf with
  | [.list xs], .cons (.list hl r1) .nil, hf =>
    obtain ⟨bs, hb, rfl⟩ := Option.map_eq_some_iff.mp (show (blsOf xs).map (fun bs => D.bl (bs.all id)) = some r from hf)
    rw [blsOf_ok hb] at r1
    rw [r1.bls] at hl
    exact ⟨_, bs, rfl, SqL.of (s _ _ hl), q _ F H (Nw.refl s) (.bl _)⟩
def reprB : List D → Option D
  | [d] => (toPy d).bind fun p => if p.showable = true ∧ p.hasDict = false ∧ p.depth ≤ 100 ∧ p.shown.length ≤ sizeLine then some (.str p.shown) else none
  | _ => none
theorem call_reprD (eK : X.K = K) (g : Still X.A) (room : X.A.units + 102 < cLine) : CallR X (.builtin "repr") (rDn K reprB) := by
  refine clr_imp (call_repr g room) fun xs H Q h => ?_
  obtain ⟨F, ds, r, s, rs, hf, q⟩ := h
  match ds, rs, hf with
  | [d], .cons r1 .nil, hf =>
    obtain ⟨p, hp, hf⟩ := Option.bind_eq_some_iff.mp (show ((toPy d).bind fun p => if p.showable = true ∧ p.hasDict = false ∧ p.depth ≤ 100 ∧ p.shown.length ≤ sizeLine then some (D.str p.shown) else none) = some r from hf)
    split at hf
    · rename_i hc
      cases hf
      rw [eK]
      exact ⟨_, p, rfl, ⟨dp_up (toPy_ok d _ p r1 hp) s, hc.1, hc.2.1, hc.2.2.1, hc.2.2.2⟩, q _ F H (Nw.refl s) (.str _)⟩
    · cases hf
end

/-! ### isinstance -/
def tyK : D → TK
  | .non => .b "NoneType"
  | .bl _ => .b "bool"
  | .int _ => .b "int"
  | .str _ => .b "str"
  | .scr _ => .b "list"
  | .list _ => .b "list"
  | .tup _ => .b "tuple"
  | .ins x _ => .c x
  | .cls _ => .b "type"
  | .dict _ _ => .b "dict"
/-- what the written part says of a class whose instances are asked -/
structure InsC (K : PySem.W.Frag) (x : Str) : Prop where
  cl : Cls K (He.ga K x)
  ha : PySem.W.findIn K (.ref (He.ga K x)) "__class__" = some (some (.builtin "object.__class__"))
  hn : PySem.W.specialIn K (.builtin "object.__class__") "__get__" = some (some (.builtin "getset_descriptor.__get__"))
  ht : PySem.W.takesIn K (.builtin "object.__class__") = some true
  hm : PySem.W.mroIn K (He.ga K x) (.type "object") = some true
theorem insB_ok {K : PySem.W.Frag} {x : Str} (h : insB K x = true) : InsC K x := by
  simp only [insB, Bool.and_eq_true, decide_eq_true_eq] at h
  obtain ⟨⟨⟨⟨⟨⟨⟨a, b⟩, c⟩, d⟩, e⟩, f⟩, g⟩, i⟩ := h
  exact ⟨⟨a, b, c, d⟩, e, f, g, i⟩
/-- the answers of isinstance for the class u -/
structure IsiF (K : PySem.W.Frag) (u : Value) (tab : List (TK × Bool)) : Prop where
  kit : ∀ k b, (k, b) ∈ tab → PySem.W.kitOne K (valOf K k) u = some b
  ins : ∀ x b, (TK.c x, b) ∈ tab → InsC K x
theorem isiB_ok {K : PySem.W.Frag} {u : Value} {tab : List (TK × Bool)} (h : isiB K u tab = true) : IsiF K u tab := by
  refine ⟨fun k b m => ?_, fun x b m => ?_⟩
  · have := List.all_eq_true.mp h _ m
    rw [Bool.and_eq_true] at this
    exact of_decide_eq_true this.1
  · have := List.all_eq_true.mp h _ m
    rw [Bool.and_eq_true] at this
    exact insB_ok this.2
theorem lookup_mem {α β : Type} [BEq α] [LawfulBEq α] : ∀ {l : List (α × β)} {a : α} {b : β}, l.lookup a = some b → (a, b) ∈ l
  | [], _, _, h => by cases h
  | (x, y) :: l, a, b, h => by
    rw [List.lookup_cons] at h
    cases e : a == x with
    | true =>
      rw [e] at h
      cases h
      rw [eq_of_beq e]
      exact List.mem_cons_self
    | false =>
      rw [e] at h
      exact List.mem_cons_of_mem _ (lookup_mem h)
def isiE (tab : List (TK × Bool)) (g : ME) : ME := fun l => (g l).bind fun d l1 => Res.lift ((tab.lookup (tyK d)).map .bl) l1
/-- the class of a value, dicts of ours with it -/
inductive TyY (K : PySem.W.Frag) (H : Hp) : V → Value → Prop where
  | x {v : V} {t : Value} (h : TyX K H v t) : TyY K H v t
  | dct {a : Addr} {o : Obj} (h : H a = some (ObjO a o)) (c : o.cls = .type "dict") : TyY K H (.ref a) (.type "dict")
theorem kit_ofY {X : Cx} {pins : List (Addr × Obj)} {σ : L2.St} {H : Hp} {s : Shared} {x : V} {u t : Value} (I : Inv X pins σ H s) (rx : RelV x u) (ty : TyY X.K H x t) :
    ∃ P : Heap → Prop, PySem.W.KitX X.K u t P ∧ P s.heap ∧ u ≠ .builtin "__main__.__loader__#opaque" := by
  cases ty with
  | x h => exact kit_of I rx h
  | @dct a o h c =>
    cases (show u = Value.ref a from rx)
    obtain ⟨h1, _⟩ := (show ObjOk X.prog X.w H s.heap a (ObjO a o) from I.hok a _ h)
    exact ⟨_, PySem.W.kitx_dict, ⟨o, h1, c⟩, fun z => nomatch z⟩
def rIsiY (K : PySem.W.Frag) : List V → Hp → VK → Prop := fun xs H Q => ∃ (x c : V) (t u : Value) (b : Bool), xs = [x, c] ∧ ClsV c u ∧ TyY K H x t ∧ PySem.W.kitOne K t u = some b ∧ Q (.bl b) H
def rIsiTY (K : PySem.W.Frag) : List V → Hp → VK → Prop := fun xs H Q => ∃ (x : V) (tp : Addr) (cs : List V) (t : Value) (us : List Value) (b : Bool), xs = [x, .ref tp] ∧ H tp = some (.tup cs) ∧ Paired ClsV cs us ∧ TyY K H x t ∧ PySem.W.kitAny K t us = some b ∧ Q (.bl b) H
theorem call_isiY {X : Cx} : CallR X (.builtin "isinstance") (rIsiY X.K) := by
  intro pins s σ H xs us Q I r h
  obtain ⟨x, c, t, u, b, rfl, k, ty, e, q⟩ := h
  obtain ⟨u1, u2, rfl, r1, r2⟩ := vals2 r
  have e2 := k.eq r2
  subst e2
  obtain ⟨P, Z, p, hx⟩ := kit_ofY I r1 ty
  exact PySem.W.kia_one Z I.kIn p e hx fun tk => ⟨.bl b, H, I.tok tk, rfl, q⟩
theorem call_isiTY {X : Cx} : CallR X (.builtin "isinstance") (rIsiTY X.K) := by
  intro pins s σ H xs us Q I r h
  obtain ⟨x, tp, cs, t, ws, b, rfl, hT, k, ty, e, q⟩ := h
  obtain ⟨u1, u2, rfl, r1, r2⟩ := vals2 r
  cases (show u2 = Value.ref tp from r2)
  obtain ⟨P, Z, p, hx⟩ := kit_ofY I r1 ty
  obtain ⟨_, its, rv, o, h1, h2, n, h3⟩ := (show ObjOk X.prog X.w H s.heap tp (.tup cs) from I.hok tp _ hT)
  have e3 := ClsV.all k rv
  subst e3
  obtain ⟨oc, od, dt, sl⟩ := o
  simp only at h2 h3
  subst h2 h3
  exact PySem.W.kia_tup Z I.kIn p h1 e hx fun tk => ⟨.bl b, H, I.tok tk, rfl, q⟩
theorem tyx_of {K : PySem.W.Frag} {F H : Hp} {v : V} {d : D} (s : Same F H) (r : Rep K F v d) (hi : ∀ x fs, d = .ins x fs → InsC K x) (hc : ∀ x, d ≠ .cls x) : TyY K H v (valOf K (tyK d)) := by
  cases r with
  | non => exact .x (.base .non)
  | bl b => exact .x (.base (.bl b))
  | int i => exact .x (.base (.int i))
  | str x => exact .x (.base (.str x))
  | scr h =>
    rcases h with (h | ⟨o, h⟩) | ⟨o, its, n, h1, h2, _⟩
    · exact .x (.base (.lst (s _ _ h)))
    · exact .x (.base (.frz (s _ _ h)))
    · exact .x (.kList h1 h2)
  | list h _ => exact .x (.base (.lst (s _ _ h)))
  | tup h _ =>
    rcases h with (h | ⟨o, h⟩) | ⟨o, its, n, h1, h2, _⟩
    · exact .x (.base (.tup (s _ _ h)))
    · exact .x (.fTuple (s _ _ h))
    · exact .x (.kTuple h1 h2)
  | ins h _ =>
    have I := hi _ _ rfl
    exact .x (.base (.ins (s _ _ h) I.cl I.ha I.hn I.ht I.hm))
  | cls c => exact (hc c rfl).elim
  | dict h k _ _ => exact .dct (s _ _ h) k.ex.1
section
variable {X : Cx} {M : MC} {E : L2.St → XK} {e c : Expr} {ga : ME} {pos p : Pos} {cv : V} {u : Value} {tab : List (TK × Bool)}
theorem me_isi (eK : X.K = M.K) (I : IsiF M.K u tab) (no : tab.lookup (.b "type") = none) (hg : Gl X "isinstance") (hm : X.mg "isinstance" = none) (he : PE X e (mE M E ga)) (hcl : PE X c (tC cv)) (cl : ClsV cv u)
    (hs : starEach [e, c] X.env = (false, eval e X.env) :: starEach [c] X.env := by rfl) (hs2 : starEach [c] X.env = (false, eval c X.env) :: starEach [] X.env := by rfl) (hpl : (backTo pos (starEach [c] X.env)).any (·.1) = false := by rfl) :
    PE X (.Call (.Name "isinstance" p) [e, c] [] pos) (mE M E (isiE tab ga)) :=
  pe_imp (pe_callB call_isiY hg hm (by decide +kernel) (pa_cons he (pa_cons hcl pa_nil hs2) hs) (by decide) (by decide) hs hpl) fun σ H Q z => by
    obtain ⟨F, l, st, w⟩ := z
    refine ⟨F, l, st, (wR.bind w).mono fun d l1 F1 H1 g1 st1 w1 v rv => ?_⟩
    cases hk : tab.lookup (tyK d) with
    | none => rw [hk] at w1; exact w1.elim
    | some b =>
      rw [hk] at w1
      have mem := lookup_mem hk
      refine ⟨v, cv, _, u, b, rfl, cl, ?_, by rw [eK]; exact I.kit _ _ mem, st1.give w1 (Nw.refl st1.sub) _ (.bl b)⟩
      rw [eK]
      refine tyx_of st1.sub rv (fun x fs z => ?_) (fun x z => ?_)
      · subst z
        exact I.ins x b mem
      · subst z
        rw [show tyK (.cls x) = .b "type" from rfl, no] at hk
        cases hk
/-- isinstance(e, (a, b, ..)) with built-in classes -/
def kitAnyT (tabs : List (List (TK × Bool))) (k : TK) : Option Bool := match tabs with
  | [] => some false
  | t :: r => match t.lookup k with
    | some true => some true
    | some false => kitAnyT r k
    | none => none
theorem kitAny_ok {K : PySem.W.Frag} {k : TK} {b : Bool} : ∀ {tabs : List (List (TK × Bool))} {us : List Value}, Paired (fun t u => IsiF K u t) tabs us → kitAnyT tabs k = some b → PySem.W.kitAny K (valOf K k) us = some b
  | _, _, .nil, h => by cases h; rfl
  | _, _, .cons (a := t) (l₁ := r) i rest, h => by
    rw [kitAnyT] at h
    rw [PySem.W.kitAny]
    cases e : t.lookup k with
    | none => rw [e] at h; cases h
    | some c =>
      rw [e] at h
      rw [i.kit k c (lookup_mem e)]
      cases c with
      | true => exact h
      | false => exact kitAny_ok rest h
def isiTE (tabs : List (List (TK × Bool))) (g : ME) : ME := fun l => (g l).bind fun d l1 => Res.lift ((kitAnyT tabs (tyK d)).map .bl) l1
theorem me_isiT {es : List Expr} {kk : Nat} {tp : Pos} {cs : List V} {us : List Value} {tabs : List (List (TK × Bool))} (eK : X.K = M.K) (few : cs.length ≤ sizeLine) (I : Paired (fun t u => IsiF M.K u t) tabs us) (no : kitAnyT tabs (.b "type") = none) (ins : ∀ x b, kitAnyT tabs (.c x) = some b → InsC M.K x) (hg : Gl X "isinstance") (hm : X.mg "isinstance" = none) (he : PE X e (mE M E ga))
    (hcl : PA X es (fun _ H Q => Q cs H)) (cl : Paired ClsV cs us)
    (hs : starEach [e, .Tuple es kk tp] X.env = (false, eval e X.env) :: starEach [.Tuple es kk tp] X.env := by rfl) (hs2 : starEach [.Tuple es kk tp] X.env = (false, eval (.Tuple es kk tp) X.env) :: starEach [] X.env := by rfl) (hpl : (backTo pos (starEach [.Tuple es kk tp] X.env)).any (·.1) = false := by rfl) :
    PE X (.Call (.Name "isinstance" p) [e, .Tuple es kk tp] [] pos) (mE M E (isiTE tabs ga)) :=
  pe_imp (pe_callB call_isiTY hg hm (by decide +kernel) (pa_cons he (pa_cons (pe_tup hcl) pa_nil hs2) hs) (by decide) (by decide) hs hpl) fun σ H Q z => by
    obtain ⟨F, l, st, w⟩ := z
    refine ⟨F, l, st, (wR.bind w).mono fun d l1 F1 H1 g1 st1 w1 v rv => ?_⟩
    cases hk : kitAnyT tabs (tyK d) with
    | none => rw [hk] at w1; exact w1.elim
    | some b =>
      rw [hk] at w1
      refine ⟨few, fun tp np => ?_⟩
      have nw := Nw.beside (o := .tup cs) st1.sub np
      refine ⟨v, tp, cs, _, us, b, rfl, upd_same, cl, ?_, by rw [eK]; exact kitAny_ok I hk, st1.give w1 nw _ (.bl b)⟩
      rw [eK]
      refine tyx_of (nw.s) rv (fun x fs z => ?_) (fun x z => ?_)
      · subst z
        exact ins x b hk
      · subst z
        rw [show tyK (.cls x) = .b "type" from rfl, no] at hk
        cases hk
end
end Sb

namespace Sb
open PySem PySem.Spec PyProof.Rows L2

section
variable {X : Cx} {M : MC} {E : L2.St → XK} {a b c e : Expr} {ga gb gc : ME} {gl : ML} {pos : Pos}
theorem me_chn {op op' : CmpOp} {f g : D → D → Option D} (ho : OpR X (compareOp op) (rD2 M.K f)) (ho' : OpR X (compareOp op') (rD2 M.K g)) (ha : PE X a (mE M E ga)) (hb : PE X b (mE M E gb)) (hc : PE X c (mE M E gc))
    (hm : lastMarks [op, op'] [b, c] = false := by with_unfolding_all rfl) : PE X (.Compare a [op, op'] [b, c] pos) (mE M E (chn f g ga gb gc)) :=
  pe_imp (pe_chain ho ho' ha hb hc hm) fun _ _ _ z => mE_chn z
theorem mt_chn {op op' : CmpOp} {f g : D → D → Option D} (ho : OpR X (compareOp op) (rD2 M.K f)) (ho' : OpR X (compareOp op') (rD2 M.K g)) (ha : PE X a (mE M E ga)) (hb : PE X b (mE M E gb)) (hc : PE X c (mE M E gc))
    (hm : lastMarks [op, op'] [b, c] = false := by with_unfolding_all rfl) : PT X (.Compare a [op, op'] [b, c] pos) (mT M E (asB (chn f g ga gb gc))) := by
  refine pt_imp (pt_chain ho ho' ha hb hc hm) fun σ H Q z => ?_
  obtain ⟨F, l, st, w⟩ := mT_asB z
  exact mE_chn ⟨F, l, st, w⟩
/-! a, b = x, y -/
def sPar (i j : Nat) (g : ML) : MS := fun l => (g l).thn fun ds l1 => match ds with
  | [d, e] => .nx ((l1.set i (some (.fr d))).set j (some (.fr e)))
  | _ => .stuck
theorem ms_par {i j : Nat} {x y : Str} {px py pt : Pos} {kt k2 pt2} (np : NoPar M i) (np2 : NoPar M j) (hc : X.calm = true) (hN : X.N.Nodup) (hi : X.N[i]? = some x) (hj : X.N[j]? = some y) (hij : i ≠ j)
    (hx : X.env.scope.names.lookup x = some .local) (hy : X.env.scope.names.lookup y = some .local) (ha : PA X [a, b] (mV M E gl)) (hw : swappedStores [.Tuple [.Name x px, .Name y py] kt pt] (.Tuple [a, b] k2 pt2) X.env = pure (some [x, y]) := by rfl)
    (hs : swapsWithSole [.Tuple [.Name x px, .Name y py] kt pt] (.Tuple [a, b] k2 pt2) pos.line X.env = pure false := by rfl) :
    PS X (.Assign [.Tuple [.Name x px, .Name y py] kt pt] (.Tuple [a, b] k2 pt2) pos) (mS M E (sPar i j gl)) := by
  refine ps_imp (ps_par hc hN hi hj hij hx hy ha hw hs) fun Dn σ H z => ?_
  obtain ⟨F, l, st, w⟩ := z
  refine ⟨F, l, st, (wS.thn st w).mono fun ds l1 F1 H1 g1 st1 w1 vs rs => ?_⟩
  match ds, rs, w1 with
  | [d, e], .cons r1 (.cons r2 .nil), w1 => exact ⟨_, _, rfl, w1 _ F1 H1 (Same.refl _) ((st1.setFr' np r1).setFr' np2 r2)⟩
def sPar3 (i j k : Nat) (g : ML) : MS := fun l => (g l).thn fun ds l1 => match ds with
  | [d, e, f] => .nx (((l1.set i (some (.fr d))).set j (some (.fr e))).set k (some (.fr f)))
  | _ => .stuck
theorem ms_par3 {i j k : Nat} {x y z : Str} {px py pz pt : Pos} {kt k2 pt2} (np : NoPar M i) (np2 : NoPar M j) (np3 : NoPar M k) (hc : X.calm = true) (hN : X.N.Nodup) (hi : X.N[i]? = some x) (hj : X.N[j]? = some y) (hk : X.N[k]? = some z) (hij : i ≠ j) (hik : i ≠ k) (hjk : j ≠ k)
    (hx : X.env.scope.names.lookup x = some .local) (hy : X.env.scope.names.lookup y = some .local) (hz : X.env.scope.names.lookup z = some .local) (ha : PA X [a, b, c] (mV M E gl))
    (hw : swappedStores [.Tuple [.Name x px, .Name y py, .Name z pz] kt pt] (.Tuple [a, b, c] k2 pt2) X.env = pure (some [x, y, z]) := by rfl)
    (hs : swapsWithSole [.Tuple [.Name x px, .Name y py, .Name z pz] kt pt] (.Tuple [a, b, c] k2 pt2) pos.line X.env = pure false := by rfl) :
    PS X (.Assign [.Tuple [.Name x px, .Name y py, .Name z pz] kt pt] (.Tuple [a, b, c] k2 pt2) pos) (mS M E (sPar3 i j k gl)) := by
  refine ps_imp (ps_par3 hc hN hi hj hk hij hik hjk hx hy hz ha hw hs) fun Dn σ H z => ?_
  obtain ⟨F, l, st, w⟩ := z
  refine ⟨F, l, st, (wS.thn st w).mono fun ds l1 F1 H1 g1 st1 w1 vs rs => ?_⟩
  match ds, rs, w1 with
  | [d, e, f], .cons r1 (.cons r2 (.cons r3 .nil)), w1 => exact ⟨_, _, _, rfl, w1 _ F1 H1 (Same.refl _) (((st1.setFr' np r1).setFr' np2 r2).setFr' np3 r3)⟩
/-! y = [..] -/
theorem ms_setLc {i : Nat} {y : Str} {py : Pos} {elt tg iter : Expr} {ifs : List Expr} {scope : Scope} {own : List (Str × Nat)} {pos spos : Pos} {ts : List Nat} {t : MG} {gt : MT} {ge : ME} (npi : NoPar M i) (np : ∀ i ∈ own.map (·.2), NoPar M i) (sub : ∀ j ∈ ts, j ∈ own.map (·.2)) (tok : TgOk ts t)
    (hc : X.calm = true) (hN : X.N.Nodup) (hy : X.N[i]? = some y) (hyl : X.env.scope.names.lookup y = some .local)
    (hsw : swapsWith (.ListComp elt [⟨tg, iter, ifs, 0⟩] scope pos) (some (.Name y py)) spos.line X.env = pure true) (hi : PI X tg iter (mI M E gl)) (ok : BlkOk X.N X.env.scope scope own)
    (hg : ∀ (s : Shared) (H : Hp) (C : Addr) (cl : List (Str × Addr)) (fp : List Addr), PG (X.blk s H scope (compEnvC scope cl C X.env) fp) tg (mG M ts t)) (ht : ∀ (s : Shared) (H : Hp) (C : Addr) (cl : List (Str × Addr)) (fp : List Addr), PTs (X.blk s H scope (compEnvC scope cl C X.env) fp) ifs (mT M E0 gt))
    (he : ∀ (s : Shared) (H : Hp) (C : Addr) (cl : List (Str × Addr)) (fp : List Addr), PE (X.blk s H scope (compEnvC scope cl C X.env) fp) elt (mE M E0 ge)) (hs : ∀ x, foldedSetIterable iter X.env x = pure x := by intro _; rfl) :
    PS X (.Assign [.Name y py] (.ListComp elt [⟨tg, iter, ifs, 0⟩] scope pos) spos) (mS M E (sSet i (frz (lcL (own.map (·.2)) t gt ge gl)))) := by
  refine ps_imp (L2.ps_setLc hc hN hy hyl hsw hi ok hg ht he hs) fun Dn σ H z => ?_
  obtain ⟨F, l, st, w⟩ := z
  refine lc_read np sub tok (mE_frz ⟨F, l, st, (wS.thn st w).mono fun d l1 F1 H1 g1 st1 w1 v rv => ?_⟩)
  exact w1 _ F1 H1 (Same.refl _) (st1.setFr' npi rv)
theorem ms_setLcL {i : Nat} {y : Str} {py : Pos} {elt tg iter : Expr} {ifs : List Expr} {scope : Scope} {own : List (Str × Nat)} {pos spos : Pos} {ts : List Nat} {t : MG} {gt : MT} {ge : ME} (npi : NoPar M i) (np : ∀ i ∈ own.map (·.2), NoPar M i) (sub : ∀ j ∈ ts, j ∈ own.map (·.2)) (tok : TgOk ts t)
    (hc : X.calm = true) (hN : X.N.Nodup) (hy : X.N[i]? = some y) (hyl : X.env.scope.names.lookup y = some .local)
    (hsw : swapsWith (.ListComp elt [⟨tg, iter, ifs, 0⟩] scope pos) (some (.Name y py)) spos.line X.env = pure true) (hi : PI X tg iter (mI M E gl)) (ok : BlkOk X.N X.env.scope scope own)
    (hg : ∀ (s : Shared) (H : Hp) (C : Addr) (cl : List (Str × Addr)) (fp : List Addr), PG (X.blk s H scope (compEnvC scope cl C X.env) fp) tg (mG M ts t)) (ht : ∀ (s : Shared) (H : Hp) (C : Addr) (cl : List (Str × Addr)) (fp : List Addr), PTs (X.blk s H scope (compEnvC scope cl C X.env) fp) ifs (mT M E0 gt))
    (he : ∀ (s : Shared) (H : Hp) (C : Addr) (cl : List (Str × Addr)) (fp : List Addr), PE (X.blk s H scope (compEnvC scope cl C X.env) fp) elt (mE M E0 ge)) (hs : ∀ x, foldedSetIterable iter X.env x = pure x := by intro _; rfl) :
    PS X (.Assign [.Name y py] (.ListComp elt [⟨tg, iter, ifs, 0⟩] scope pos) spos) (mS M E (sSetL i (lcL (own.map (·.2)) t gt ge gl))) := by
  refine ps_imp (L2.ps_setLc hc hN hy hyl hsw hi ok hg ht he hs) fun Dn σ H z => ?_
  obtain ⟨F, l, st, w⟩ := z
  refine lc_read np sub tok ⟨F, l, st, (wS.thn st w).mono fun d l1 F1 H1 g1 st1 w1 p vs hp fp h0 _ no rs => ?_⟩
  exact w1 _ F1 H1 (Same.refl _) (st1.setOw' npi hp fp h0 no ⟨_, rfl, rs⟩)
/-! ### slices -/
abbrev MO := Ld → Res (Option Int)
def mO (M : MC) (E : L2.St → XK) (g : MO) : TO := fun σ H Q => ∃ F l, StM M F σ H l ∧ wR M E σ F H l (fun o _ _ H' => Q o H') (g l)
def oNone : MO := fun l => .ok none l
def oSome (g : ME) : MO := fun l => (g l).bind fun d l1 => match d with
  | .int i => .ok (some i) l1
  | _ => .stuck
theorem po_imp {o : Option Expr} {t t' : TO} (h : PO X o t) (imp : ∀ σ H Q, t' σ H Q → t σ H Q) : PO X o t' := ⟨fun pins s σ H Q I z => h.run pins s σ H Q I (imp _ _ _ z)⟩
theorem mo_none : PO X none (mO M E oNone) := po_imp po_none fun σ H Q z => by
  obtain ⟨F, l, st, w⟩ := z
  exact w F H (Gr.refl _ _ _ _) st
theorem mo_some (h : PE X e (mE M E ga)) : PO X (some e) (mO M E (oSome ga)) := po_imp (po_some h) fun σ H Q z => by
  obtain ⟨F, l, st, w⟩ := z
  refine ⟨F, l, st, (wR.bind w).mono fun d l1 F1 H1 g1 st1 w1 v rv => ?_⟩
  cases d with
  | int i =>
    cases rv
    exact ⟨i, rfl, w1 F1 H1 (Gr.refl _ _ _ _) st1⟩
  | _ => exact w1.elim
def cutD {α : Type} (xs : List α) (lo hi : Option Int) : List α := (xs.drop (HT.sIx xs.length 0 lo)).take (HT.sIx xs.length xs.length hi - HT.sIx xs.length 0 lo)
def slD : D → Option Int → Option Int → Option D
  | .tup xs, lo, hi => some (.tup (cutD xs lo hi))
  | .str z, lo, hi => if z.length ≤ sizeLine then some (.str (cutS z lo hi)) else none
  | .list xs, lo, hi => some (.list (cutD xs lo hi))
  | .scr ns, lo, hi => some (.list ((cutD ns lo hi).map .int))
  | _, _, _ => none
def slE (g : ME) (lo hi : MO) : ME := fun l => (g l).bind fun d l1 => (lo l1).bind fun i l2 => (hi l2).bind fun j l3 => Res.lift (slD d i j) l3
theorem cutD_whole {α : Type} {xs : List α} {lo hi : Option Int} (h : HT.sIx xs.length 0 lo = 0 ∧ HT.sIx xs.length xs.length hi = xs.length) : cutD xs lo hi = xs := by
  unfold cutD
  rw [h.1, h.2, List.drop_zero, Nat.sub_zero, List.take_length]
theorem cutV_ints (ns : List Int) (lo hi : Option Int) : cutV (ns.map V.int) lo hi = (cutD ns lo hi).map V.int := by
  unfold cutV cutD
  rw [List.length_map, ← List.map_drop, ← List.map_take]
theorem slr_imp {r r' : V → Option Int → Option Int → Hp → VK → Prop} (h : SlR X r) (imp : ∀ x lo hi H Q, r' x lo hi H Q → r x lo hi H Q) : SlR X r' := fun pins s σ H x v vl vu lo hi sl Q I rx hs pl pu z => h pins s σ H x v vl vu lo hi sl Q I rx hs pl pu (imp _ _ _ _ _ z)
def rSlD (K : PySem.W.Frag) : V → Option Int → Option Int → Hp → VK → Prop := fun x lo hi H Q => ∃ F d r, Same F H ∧ Rep K F x d ∧ slD d lo hi = some r ∧ ∀ v F' H', Nw F H F' H' → Rep K F' v r → Q v H'
theorem sl_D {K : PySem.W.Frag} (eK : X.K = K) : SlR X (rSlD K) := by
  refine slr_imp (sl_tupA.or (sl_str.or sl_list)) fun x lo hi H Q h => ?_
  obtain ⟨F, d, r, s, rx, hf, q⟩ := h
  cases rx with
  | tup ht rs =>
    rename_i vs ds
    cases hf
    have e : vs.length = ds.length := rs.length
    refine .inl ⟨_, vs, rfl, by rw [eK]; exact seqT_same s ht, fun z => ?_, fun z p np => ?_⟩
    · rw [e] at z
      rw [cutD_whole z] at q
      exact q _ F H (Nw.refl s) (.tup ht rs)
    · have nw := Nw.add (o := .tup (cutV vs lo hi)) s np
      exact q _ _ _ nw (.tup (SqT.of upd_same) ((rs.cut lo hi).up nw.f))
  | str z =>
    have hf : (if z.length ≤ sizeLine then some (D.str (cutS z lo hi)) else none) = some r := hf
    split at hf
    · cases hf
      exact .inr (.inl ⟨z, rfl, by assumption, q _ F H (Nw.refl s) (.str _)⟩)
    · cases hf
  | list hl rs =>
    rename_i vs ds
    cases hf
    refine .inr (.inr ⟨_, vs, rfl, SqL.of (s _ _ hl), fun p np => ?_⟩)
    have nw := Nw.add (o := .lst (cutV vs lo hi)) s np
    exact q _ _ _ nw (.list upd_same ((rs.cut lo hi).up nw.f))
  | scr hl =>
    rename_i ns
    cases hf
    refine .inr (.inr ⟨_, _, rfl, by rw [eK]; exact s.seq hl, fun p np => ?_⟩)
    have nw := Nw.add (o := .lst (cutV (ns.map V.int) lo hi)) s np
    refine q _ _ _ nw (.list upd_same ?_)
    rw [cutV_ints]
    exact Reps.of_ints _
  | _ => cases hf
theorem me_slice {lo hi : Option Expr} {gLo gHi : MO} {p2 : Pos} (eK : X.K = M.K) (he : PE X e (mE M E ga)) (hl : PO X lo (mO M E gLo)) (hu : PO X hi (mO M E gHi)) : PE X (.Subscript e (.Slice lo hi none p2) pos) (mE M E (slE ga gLo gHi)) :=
  pe_imp (pe_slice (sl_D eK) he hl hu) fun σ H Q z => by
    obtain ⟨F, l, st, w⟩ := z
    refine ⟨F, l, st, (wR.bind w).mono fun d l1 F1 H1 g1 st1 w1 v rv => ?_⟩
    refine ⟨F1, l1, st1, (wR.bind w1).mono fun i l2 F2 H2 g2 st2 w2 => ?_⟩
    refine ⟨F2, l2, st2, (wR.bind w2).mono fun j l3 F3 H3 g3 st3 w3 => ?_⟩
    cases hf : slD d i j with
    | none => rw [hf] at w3; exact w3.elim
    | some r =>
      rw [hf] at w3
      exact ⟨F3, d, r, st3.sub, (rv.up g2.ext).up g3.ext, hf, fun v F' H' nw rr => st3.give w3 nw v rr⟩
end
section
variable {P : Program} {w : World} {K : PySem.W.Frag} {mg : Str → Option Value} {base : Heap} {k n : Nat} {x : Str} {st : Stmt} {ps N : List Str} {dvs dv : List V}
theorem has_stuck (D : DefAt K mg x st dvs) (S : FnScope N ps (defScope st))
    (bnd : ∀ fd, FunD K x x (defArgs st) (defBody st) (defScope st) dvs [] (He.ga K x) fd → ∃ ds, Vals dv ds ∧ Binds K fd ps ds) (hk : 1 ≤ k := by omega) : Has P w K mg base (L2.CX P w) k x ps dv (spM K n fun _ => .stuck) := by
  refine Has.up (j := 0 + 1) (hasXB D S bnd (fun vs H Q E h => ?_) (fun cv A outer s H vs Q E hg hr h => ?_)) hk
  · obtain ⟨F, ss, _, _, _, h⟩ := h
    exact h.elim
  · obtain ⟨F, ss, _, _, _, h⟩ := h
    exact h.elim
end
end Sb

namespace Sb
open PySem PySem.Spec PyProof.Rows L2

/-! ### defs at their addresses -/
def HasF (P : Program) (w : World) (K : PySem.W.Frag) (mg : Str → Option Value) (base : Heap) (CX : CXT) (k : Nat) (f : Addr) (ps : List Str) (dvs : List V) (sp : Sp) : Prop :=
  ∃ (fd : FuncData) (ds : List Value), FnG P w K mg base CX k f fd ps sp ∧ Binds K fd ps ds ∧ Vals dvs ds
section
variable {P : Program} {w : World} {K : PySem.W.Frag} {mg : Str → Option Value} {base : Heap} {k n : Nat} {x qn : Str} {st : Stmt} {ps N : List Str} {dvs dv : List V} {f : Addr}
theorem HasF.up {j : Nat} {CX : CXT} {sp : Sp} (h : HasF P w K mg base CX j f ps dvs sp) (le : j ≤ k) : HasF P w K mg base CX k f ps dvs sp := by
  obtain ⟨fd, ds, F, r⟩ := h
  exact ⟨fd, ds, F.up le, r⟩
theorem has_mF {g : MS} {fs : List Nat} (D : ∃ fd, FunD K x qn (defArgs st) (defBody st) (defScope st) dvs [] f fd) (S : FnScope N ps (defScope st))
    (bnd : ∀ fd, FunD K x qn (defArgs st) (defBody st) (defScope st) dvs [] f fd → ∃ ds, Vals dv ds ∧ Binds K fd ps ds)
    (walk : ∀ (cv : Value) (A : Around) (outer : List Env) (s : Shared) (H : Hp) (E : XK) (F0 H0 : Hp) (pr : List (Nat × Addr)), (∀ i ∈ fs, ∀ q ∈ pr, q.1 ≠ i) → Still A → Room k (A.deeper (envOfC qn (defScope st) s.heap.objs.size f cv)) →
      PSs (cxOf (L2.CX P w) P w K mg base N qn (defScope st) f cv A outer s H E) (defBody st) (mS ⟨K, F0, H0, pr⟩ (fun _ => E) g)) :
    HasF P w K mg base (L2.CX P w) (k + 1) f ps dv (spM K ps.length (runF g N.length fs)) := by
  obtain ⟨fd, F⟩ := D
  obtain ⟨ds, v, b⟩ := bnd fd F
  refine ⟨fd, ds, okXG F S (fun vs H Q E h => ?_) (fun cv A outer s H vs Q E hg hr h => ?_), b, v⟩
  · obtain ⟨F, ss, n, _, ok, _⟩ := h
    rw [ok.len, n]
  · obtain ⟨F, ss, n, s', ok, wf⟩ := h
    obtain ⟨np, rd⟩ := run_ok (N := N) s' ok wf
    exact ⟨_, walk cv A outer s H E F H _ np hg hr, rd⟩
theorem has_stuckF (D : ∃ fd, FunD K x qn (defArgs st) (defBody st) (defScope st) dvs [] f fd) (S : FnScope N ps (defScope st))
    (bnd : ∀ fd, FunD K x qn (defArgs st) (defBody st) (defScope st) dvs [] f fd → ∃ ds, Vals dv ds ∧ Binds K fd ps ds) (hk : 1 ≤ k := by omega) : HasF P w K mg base (L2.CX P w) k f ps dv (spM K n fun _ => .stuck) := by
  obtain ⟨fd, F⟩ := D
  obtain ⟨ds, v, b⟩ := bnd fd F
  refine HasF.up (j := 0 + 1) ⟨fd, ds, okXG F S (fun vs H Q E h => ?_) (fun cv A outer s H vs Q E hg hr h => ?_), b, v⟩ hk
  · obtain ⟨F, ss, _, _, _, h⟩ := h
    exact h.elim
  · obtain ⟨F, ss, _, _, _, h⟩ := h
    exact h.elim
end
section
variable {X : Cx} {CX : CXT} {k : Nat} {f : Addr} {ps : List Str} {sp : Sp} {dvs : List V} {E : L2.St → XK}
theorem calledC {pins : List (Addr × Obj)} {σ : L2.St} {H : Hp} {s : Shared} {Q : VK} {us : List Value} {vs : List V} (C : HasF X.prog X.w X.K X.mg X.base CX k f ps dvs sp) (g : Still X.A) (room : Room k X.A) (px : PassesAt CX X σ (E σ)) (I : Inv X pins σ H s) (rv : Vals vs us) (h : sp (vs ++ dvs) H Q (E σ)) :
    codeAny (model X.prog X.w) X.A (Code.call (.ref f) ⟨us, []⟩) (fun r s' => match r with
      | .ok (.ret v) => EP X pins σ Q v s'
      | .ok _ => False
      | .error e => X.xe e s') s := by
  obtain ⟨fd, ds, F, bnd, dv⟩ := C
  have all := rv.append dv
  have n : (us ++ ds).length = ps.length := all.length.symm.trans (F.many _ _ _ _ h)
  refine codeAny_mono (F.does X.A X.stack s H ⟨us, []⟩ _ _ Q (E σ) g room I.env0 (bnd s us I.kIn n) all h) ?_
  intro r s' z
  match r, z with
  | .error e, z => exact px pins H s e s' I z
  | .ok (.ret u), z => exact I.after z
  | .ok .next, z => exact z.elim
  | .ok .brk, z => exact z.elim
  | .ok .cont, z => exact z.elim
theorem calledS {pins : List (Addr × Obj)} {σ : L2.St} {H : Hp} {s : Shared} {Q : VK} {us : List Value} {vs : List V} (C : HasF X.prog X.w X.K X.mg X.base CX k f ps dvs sp) (g : Still X.A) (room : Room k X.A) (px : PassesAt CX X σ (E σ)) (I : Inv X pins σ H s) (rv : Vals vs us) (h : sp (vs ++ dvs) H Q (E σ)) :
    wpAny (model X.prog X.w) X.A (call (.ref f) us) (EP X pins σ Q) X.xe s := by
  refine wpAny_call (codeAny_mono (calledC C g room px I rv h) ?_)
  intro r s' z
  match r, z with
  | .error e, z => exact z
  | .ok (.ret u), z => exact z
  | .ok .next, z => exact z.elim
  | .ok .brk, z => exact z.elim
  | .ok .cont, z => exact z.elim
/-- the reading of o.m(..) -/
def tMethS (C : Addr) (m : Str) (sp : Sp) (dvs : List V) (E : L2.St → XK) (ta : TE) (t : TA) : TE := fun σ H Q => ta σ H fun x H1 => ∃ a dx fs, x = .ref a ∧ H1 a = some (.ins C dx fs) ∧ fs.lookup m = none ∧ t σ H1 fun vs H2 => sp (.ref a :: (vs ++ dvs)) H2 Q (E σ)
theorem pe_methS {C : Addr} {m : Str} {o e : Expr} {es : List Expr} {ta : TE} {t : TA} {apos pos : Pos} {pl : Sem Bool} (he : PE X o ta) (c : Cls X.K C) (hm : Meth X.K C m f) (F : HasF X.prog X.w X.K X.mg X.base CX k f ps dvs sp) (g : Still X.A) (room : Room k X.A) (px : ∀ σ, PassesAt CX X σ (E σ)) (ha : PA X (e :: es) t)
    (hst : starEach (e :: es) X.env = (false, eval e X.env) :: starEach es X.env := by rfl) (hpl : (backTo pos (starEach es X.env)).any (·.1) = false := by rfl)
    (ht : eval (.Call (.Attribute o m apos) (e :: es) [] pos) X.env = (do
      let ov ← eval o X.env
      standAt apos.atName
      let (f, first) ← holding [ov] (getMethod ov m pl)
      callWith pos f first (backTo pos (starEach (e :: es) X.env)) (backToKw pos (keywordEach [] X.env))) := by rfl) :
    PE X (.Call (.Attribute o m apos) (e :: es) [] pos) (tMethS C m sp dvs E ta t) := by
  refine ⟨fun pins s σ H Q I h => ?_⟩
  refine PySem.W.methodCall_KW (pl := pl) (thn (he.run pins s σ H _ I h) fun u s1 ⟨x, H1, I1, rx, a, dx, fs, ex, ea, l, q⟩ => ?_) ht
  subst ex
  obtain rfl : u = Value.ref a := rx
  refine getmeth_ok I1 ea c hm l ?_
  refine PySem.W.callWith_K (first := [.ref a]) (h₀ := X.base) I.ok.mod.kin hm.kp (thn (ha.run pos pins s1 σ H1 _ I1 q) fun us s2 ⟨vs, H2, I2, r, q2⟩ => ⟨I2.kIn, ?_⟩) hst hpl
  exact calledS (us := .ref a :: us) (vs := .ref a :: vs) F g room (px σ) I2 (.cons rfl r) q2
theorem pe_methS0 {C : Addr} {m : Str} {o : Expr} {ta : TE} {apos pos : Pos} {pl : Sem Bool} (he : PE X o ta) (c : Cls X.K C) (hm : Meth X.K C m f) (F : HasF X.prog X.w X.K X.mg X.base CX k f ps dvs sp) (g : Still X.A) (room : Room k X.A) (px : ∀ σ, PassesAt CX X σ (E σ))
    (ht : eval (.Call (.Attribute o m apos) [] [] pos) X.env = (do
      let ov ← eval o X.env
      standAt apos.atName
      let (f, first) ← holding [ov] (getMethod ov m pl)
      callWith pos f first (backTo pos (starEach [] X.env)) (backToKw pos (keywordEach [] X.env))) := by rfl) :
    PE X (.Call (.Attribute o m apos) [] [] pos) (tMethS C m sp dvs E ta L2.tNil) := by
  refine ⟨fun pins s σ H Q I h => ?_⟩
  refine PySem.W.methodCall_KW (pl := pl) (thn (he.run pins s σ H _ I h) fun u s1 ⟨x, H1, I1, rx, a, dx, fs, ex, ea, l, q⟩ => ?_) ht
  subst ex
  obtain rfl : u = Value.ref a := rx
  refine getmeth_ok I1 ea c hm l ?_
  exact PySem.W.callWith_K0 (first := [.ref a]) I1.kIn hm.kp (calledS (us := [.ref a]) (vs := [.ref a]) F g room (px σ) I1 (.cons rfl .nil) q)
/-- C.m(..), m a classmethod -/
def tCMethS (C : Addr) (sp : Sp) (dvs : List V) (E : L2.St → XK) (ta : TE) (t : TA) : TE := fun σ H Q => ta σ H fun x H1 => x = .ref C ∧ t σ H1 fun vs H2 => sp (.ref C :: (vs ++ dvs)) H2 Q (E σ)
theorem pe_cmethS {C p : Addr} {m : Str} {mc : Value} {o e : Expr} {es : List Expr} {ta : TE} {t : TA} {apos pos : Pos} {pl : Sem Bool} (he : PE X o ta) (r : ClX.CRead X.K C mc) (c : ClX.CMet X.K C mc m p f) (F : HasF X.prog X.w X.K X.mg X.base CX k f ps dvs sp) (g : Still X.A) (room : Room k X.A) (px : ∀ σ, PassesAt CX X σ (E σ)) (ha : PA X (e :: es) t)
    (hst : starEach (e :: es) X.env = (false, eval e X.env) :: starEach es X.env := by rfl) (hpl : (backTo pos (starEach es X.env)).any (·.1) = false := by rfl)
    (ht : eval (.Call (.Attribute o m apos) (e :: es) [] pos) X.env = (do
      let ov ← eval o X.env
      standAt apos.atName
      let (f, first) ← holding [ov] (getMethod ov m pl)
      callWith pos f first (backTo pos (starEach (e :: es) X.env)) (backToKw pos (keywordEach [] X.env))) := by rfl) :
    PE X (.Call (.Attribute o m apos) (e :: es) [] pos) (tCMethS C sp dvs E ta t) := by
  refine ⟨fun pins s σ H Q I h => ?_⟩
  refine PySem.W.methodCall_KW (pl := pl) (thn (he.run pins s σ H _ I h) fun u s1 ⟨x, H1, I1, rx, ex, q⟩ => ?_) ht
  subst ex
  obtain rfl : u = Value.ref C := rx
  refine ClX.getmethcm_ok I1 r c fun s2 I2 => ?_
  refine ClX.callwith_cm I2 (ClX.base_none I1 (Nat.le_refl _)) c.fi (thn (ha.run pos _ s2 σ H1 _ I2 q) fun us s3 ⟨vs, H2, I3, rv, q2⟩ => ⟨⟨ClX.pin_at I3, I3.kIn⟩, ?_⟩) hst hpl
  have z : wpAny (model X.prog X.w) X.A (call (.ref s1.heap.objs.size) us) (EP X ((s1.heap.objs.size, PySem.W.methodObj (.ref f) (.ref C)) :: pins) σ Q) X.xe s3 :=
    wpAny_call (PySem.W.method_call (ClX.pin_at I3) (calledC (us := .ref C :: us) (vs := .ref C :: vs) F g room (px σ) I3 (.cons rfl rv) q2))
  exact thn z fun _ _ y => ClX.unpinE y
/-- the class at C is called -/
theorem madeS {pins : List (Addr × Obj)} {σ : L2.St} {H : Hp} {s : Shared} {Q : VK} {us : List Value} {vs : List V} {C : Addr} (M : Mk X.K C f) (F : HasF X.prog X.w X.K X.mg X.base CX k f ps dvs sp) (g : Still X.A) (room : Room (k + 1) X.A) (px : PassesAt CX X σ (E σ)) (I : Inv X pins σ H s) (r : Vals vs us)
    (h : ∀ x dx, H x = none → H dx = none → dx ≠ x → sp (.ref x :: (vs ++ dvs)) (upd (upd H dx (.own x)) x (.ins C dx [])) (fun v H2 => v = .non ∧ Q (.ref x) H2) (E σ)) :
    wpAny (model X.prog X.w) X.A (call (.ref C) us) (EP X pins σ Q) X.xe s := by
  obtain ⟨fd, ds, F, hb, hd⟩ := F
  have hq := h (s.heap.objs.size + 1) s.heap.objs.size (I.hok.fresh (Nat.le_succ _)) (I.hok.fresh (Nat.le_refl _)) (Nat.ne_of_lt (Nat.lt_succ_self _))
  have I2 := Inv.made (C := C) I
  have r2 : Vals (V.ref (s.heap.objs.size + 1) :: (vs ++ dvs)) (Value.ref (s.heap.objs.size + 1) :: (us ++ ds)) := .cons rfl (r.append hd)
  have hl : (Value.ref (s.heap.objs.size + 1) :: us ++ ds).length = ps.length := by
    have e := r2.length
    rw [F.many _ _ _ _ hq] at e
    exact e.symm
  have g2 : Still (X.A.under (.builtin "type.__call__" ⟨.ref C :: us, []⟩)) := g
  refine wpAny_call (make_map (f := f) I.kIn M.makes M.init (beq_iff_eq.mp M.fn) (codeAny_mono (F.does _ X.stack _ _ ⟨Value.ref (s.heap.objs.size + 1) :: us, []⟩ (Value.ref (s.heap.objs.size + 1) :: (us ++ ds)) _ _ (E σ) g2 (room.make C us [])
    (I2.env0.make C us []) (hb _ (Value.ref (s.heap.objs.size + 1) :: us) I2.kIn hl) r2 hq) fun r s' hq' => ?_))
  cases r with
  | error e => exact px pins _ _ e s' I2 hq'
  | ok fl =>
    cases fl with
    | ret u =>
      obtain ⟨v, H', I3, rv, ev, q3⟩ := I2.after hq'
      subst ev
      exact ⟨rv, ⟨V.ref (s.heap.objs.size + 1), H', I3, rfl, q3⟩⟩
    | next => exact False.elim hq'
    | brk => exact False.elim hq'
    | cont => exact False.elim hq'
def tMakeS (C : Addr) (sp : Sp) (dvs : List V) (E : L2.St → XK) (t : TA) : TE := fun σ H Q => t σ H fun vs H1 => ∀ x dx, H1 x = none → H1 dx = none → dx ≠ x →
  sp (.ref x :: (vs ++ dvs)) (upd (upd H1 dx (.own x)) x (.ins C dx [])) (fun v H2 => v = .non ∧ Q (.ref x) H2) (E σ)
theorem pe_makeS {C : Addr} {x : Str} {e : Expr} {es : List Expr} {t : TA} {p pos : Pos} (M : Mk X.K C f) (F : HasF X.prog X.w X.K X.mg X.base CX k f ps dvs sp) (g : Still X.A) (room : Room (k + 1) X.A) (px : ∀ σ, PassesAt CX X σ (E σ)) (hg : Gl X x) (hm : X.mg x = some (.ref C))
    (ha : PA X (e :: es) t) (hdb : (x == ("__debug__" : Str)) = false := by decide) (he : starEach (e :: es) X.env = (false, eval e X.env) :: starEach es X.env := by rfl) (hpl : (backTo pos (starEach es X.env)).any (·.1) = false := by rfl) :
    PE X (.Call (.Name x p) (e :: es) [] pos) (tMakeS C sp dvs E t) := by
  refine ⟨fun pins s σ H Q I h => ?_⟩
  refine wpAny_Call_Name_kw (ld_glob I hg hm ?_ hdb)
  refine PySem.W.callWith_K (h₀ := X.base) I.ok.mod.kin M.kp (thn (ha.run pos pins s σ H _ I h) fun us s1 ⟨vs, H1, I1, r, q⟩ => ⟨I1.kIn, ?_⟩) he hpl
  exact madeS M F g room (px σ) I1 r q
/-- .. by a local name that holds the class -/
theorem pe_makeL {C : Addr} {i : Nat} {x : Str} {e : Expr} {es : List Expr} {t : TA} {p pos : Pos} (M : Mk X.K C f) (F : HasF X.prog X.w X.K X.mg X.base CX k f ps dvs sp) (g : Still X.A) (room : Room (k + 1) X.A) (px : ∀ σ, PassesAt CX X σ (E σ)) (hN : X.N[i]? = some x) (hv : Vis X.env.scope x)
    (ha : PA X (e :: es) t) (hdb : (x == ("__debug__" : Str)) = false := by decide) (hcd : (x == ("__classdict__" : Str)) = false := by decide) (he : starEach (e :: es) X.env = (false, eval e X.env) :: starEach es X.env := by rfl) (hpl : (backTo pos (starEach es X.env)).any (·.1) = false := by rfl) :
    PE X (.Call (.Name x p) (e :: es) [] pos) (fun σ H Q => σ[i]? = some (some (.ref C)) ∧ tMakeS C sp dvs E t σ H Q) := by
  refine ⟨fun pins s σ H Q I h => ?_⟩
  obtain ⟨hc, h⟩ := h
  refine wpAny_Call_Name_kw (thn ((pe_var (X := X) hN hv hdb hcd).run pins s σ H (fun v H1 => v = .ref C ∧ H1 = H) I ⟨_, hc, rfl, rfl⟩) ?_)
  rintro u s0 ⟨v, H0, I0, r0, rfl, rfl⟩
  cases r0
  refine PySem.W.callWith_K (h₀ := X.base) I.ok.mod.kin M.kp (thn (ha.run pos pins s0 σ H0 _ I0 h) fun us s1 ⟨vs, H1, I1, r, q⟩ => ⟨I1.kIn, ?_⟩) he hpl
  exact madeS M F g room (px σ) I1 r q
end

/-! ### instances by data -/
/-- what the written part says of a field of some classes -/
def FldF (K : PySem.W.Frag) (f : Str) (cs : List Str) : Prop := ∀ c ∈ cs, Cls K (He.ga K c) ∧ NoAttr K (He.ga K c) f
theorem clsB_ok {K : PySem.W.Frag} {x : Str} (h : clsB K x = true) : Cls K (He.ga K x) := by
  simp only [clsB, Bool.and_eq_true, decide_eq_true_eq] at h
  obtain ⟨⟨⟨a, b⟩, c⟩, d⟩ := h
  exact ⟨a, b, c, d⟩
theorem fldB_ok {K : PySem.W.Frag} {f : Str} {cs : List Str} (h : fldB K f cs = true) : FldF K f cs := fun c m => by
  have := List.all_eq_true.mp h c m
  rw [Bool.and_eq_true] at this
  exact ⟨clsB_ok this.1, of_decide_eq_true (p := PySem.W.findIn K (.ref (He.ga K c)) f = some none) this.2⟩
def fldD (f : Str) (cs : List Str) : D → Option D
  | .ins c fs => if c ∈ cs then fs.lookup f else none
  | _ => none
def putFD (f : Str) (d : D) : List (Str × D) → List (Str × D)
  | [] => [(f, d)]
  | (g, e) :: r => if g = f then (g, d) :: r else (g, e) :: putFD f d r
section
variable {X : Cx} {M : MC} {E : L2.St → XK} {e o : Expr} {ga go : ME} {pos apos : Pos}
theorem me_fld {f : Str} {cs : List Str} (eK : X.K = M.K) (T : FldF M.K f cs) (he : PE X e (mE M E ga)) (hb : attributeBase e f X.env (eval e X.env) = eval e X.env := by rfl) : PE X (.Attribute e f pos) (mE M E (un1 (fldD f cs) ga)) :=
  pe_imp (pe_fld he hb) fun σ H Q z => by
    obtain ⟨F, l, st, w⟩ := z
    refine ⟨F, l, st, (wR.bind w).mono fun d l1 F1 H1 g1 st1 w1 v rv => ?_⟩
    cases hf : fldD f cs d with
    | none => rw [hf] at w1; exact w1.elim
    | some r =>
      rw [hf] at w1
      cases rv with
      | ins h rs =>
        rename_i a dx gs c ds
        have hf : (if c ∈ cs then ds.lookup f else none) = some r := hf
        split at hf
        · rename_i hc
          obtain ⟨u, eu, ru⟩ := rs.get hf
          rw [eK]
          exact ⟨a, _, dx, gs, u, rfl, st1.sub _ _ h, (T c hc).1, (T c hc).2, eu, w1 F1 H1 (Gr.refl _ _ _ _) st1 u ru⟩
        · cases hf
      | _ => cases hf
theorem repF_put {K : PySem.W.Frag} {F : Hp} {f : Str} {v : V} {d : D} (r : Rep K F v d) : ∀ {gs : List (Str × V)} {ds : List (Str × D)}, RepF K F gs ds → RepF K F (putF f v gs) (putFD f d ds)
  | _, _, .nil => .cons r .nil
  | _, _, .cons (n := n) q t => by
    unfold putF putFD
    by_cases h : n = f
    · subst h
      simp only [if_true, beq_self_eq_true]
      exact .cons r t
    · have hb : (n == f) = false := by simpa using h
      simp only [h, hb, if_false, Bool.false_eq_true]
      exact .cons q (repF_put r t)
theorem repF_len {K : PySem.W.Frag} {F : Hp} : ∀ {gs : List (Str × V)} {ds : List (Str × D)}, RepF K F gs ds → gs.length = ds.length
  | _, _, .nil => rfl
  | _, _, .cons _ t => congrArg (· + 1) (repF_len t)
/-- self.f = e -/
def sFldM (i : Nat) (f : Str) (cs : List Str) (g : ME) : MS := fun l => (g l).thn fun d l1 => match l1[i]? with
  | some (some (.ow (.ins c fs))) => if c ∈ cs ∧ fs.length < 1000 then .nx (l1.set i (some (.ow (.ins c (putFD f d fs))))) else .stuck
  | _ => .stuck
theorem ms_fld {i : Nat} {x f : Str} {cs : List Str} {p pos' : Pos} {value : Expr} (eK : X.K = M.K) (T : FldF M.K f cs) (hN : X.N[i]? = some x) (hv : Vis X.env.scope x) (hval : PE X value (mE M E ga)) (hd : (x == ("__debug__" : Str)) = false := by decide) (hcd : (x == ("__classdict__" : Str)) = false := by decide)
    (hs : swapsWith value (some (.Attribute (.Name x p) f pos')) pos.line X.env = pure false := by rfl) : PS X (.Assign [.Attribute (.Name x p) f pos'] value pos) (mS M E (sFldM i f cs ga)) :=
  ps_imp (ps_fld (pe_var hN hv hd hcd) hval hs) fun Dn σ H z => by
    obtain ⟨F, l, st, w⟩ := z
    refine ⟨F, l, st, (wS.thn st w).mono fun d l1 F1 H1 g1 st1 w1 v rv => ?_⟩
    split at w1
    · rename_i c fs hl
      split at w1
      · rename_i hc
        obtain ⟨u, eu, q, _, rfl, hq, fq, ⟨dx, gs, rfl, rs⟩, _⟩ := st1.slot i _ hl
        obtain ⟨st2, _⟩ := st1.put (vs := .ins (He.ga M.K c) dx (putF f v gs)) (ys := .ins c (putFD f d fs)) hl eu ⟨dx, _, rfl, repF_put rv rs⟩
        rw [eK]
        exact ⟨_, eu, q, _, dx, gs, rfl, hq, (T c hc.1).1, (T c hc.1).2, by rw [repF_len rs]; exact hc.2, w1 σ F1 _ (Same.refl _) st2⟩
      · exact w1.elim
    · exact w1.elim
/-- o.m(..) -/
def methE (c name : Str) (m : MF) (dd : List D) (go : ME) (ga : MA) : ME := fun l => (go l).bind fun d l1 => match d with
  | .ins c' fs => if c' = c ∧ (fs.lookup name).isNone = true then (ga l1).bind fun as l2 => appE m dd (.val d :: as) l2 else .stuck
  | _ => .stuck
structure MethF (K : PySem.W.Frag) (c m : Str) (f : Addr) : Prop where
  cl : Cls K (He.ga K c)
  me : Meth K (He.ga K c) m f
theorem methB_ok {K : PySem.W.Frag} {c m : Str} {f : Addr} (h : methB K c m f = true) : MethF K c m f := by
  simp only [methB, Bool.and_eq_true, decide_eq_true_eq] at h
  obtain ⟨⟨⟨a, b⟩, c⟩, d⟩ := h
  exact ⟨clsB_ok a, b, c, d⟩
theorem me_meth {c m : Str} {f : Addr} {k n : Nat} {ps : List Str} {mm : MF} {dvs : List V} {dd : List D} {e : Expr} {es : List Expr} {gA : MA} {pl : Sem Bool} (C : HasF X.prog X.w X.K X.mg X.base (L2.CX X.prog X.w) k f ps dvs (spM X.K n mm)) (eK : X.K = M.K) (T : MethF M.K c m f) (dr : ∀ F, Reps M.K F dvs dd) (hn : (e :: es).length + 1 + dd.length = n) (px : ∀ σ, PassesAt (L2.CX X.prog X.w) X σ (E σ)) (sl : Still X.A) (room : Room k X.A)
    (ho : PE X o (mE M E go)) (as : PA X (e :: es) (mA M E gA)) (al : ALen gA (e :: es).length)
    (hst : starEach (e :: es) X.env = (false, eval e X.env) :: starEach es X.env := by rfl) (hpl : (backTo pos (starEach es X.env)).any (·.1) = false := by rfl)
    (ht : eval (.Call (.Attribute o m apos) (e :: es) [] pos) X.env = (do
      let ov ← eval o X.env
      standAt apos.atName
      let (f, first) ← holding [ov] (getMethod ov m pl)
      callWith pos f first (backTo pos (starEach (e :: es) X.env)) (backToKw pos (keywordEach [] X.env))) := by rfl) :
    PE X (.Call (.Attribute o m apos) (e :: es) [] pos) (mE M E (methE c m mm dd go gA)) :=
  pe_imp (pe_methS (C := He.ga M.K c) ho (by rw [eK]; exact T.cl) (by rw [eK]; exact T.me) C sl room px as hst hpl ht) fun σ H Q z => by
    obtain ⟨F, l, st, w⟩ := z
    refine ⟨F, l, st, (wR.bind w).mono fun d l1 F1 H1 g1 st1 w1 v rv => ?_⟩
    cases rv with
    | ins h rs =>
      rename_i a dx gs c' ds
      dsimp only at w1
      split at w1
      · rename_i hc
        obtain ⟨rfl, hno⟩ := hc
        have hno : ds.lookup m = none := Option.isNone_iff_eq_none.mp hno
        refine ⟨a, dx, gs, rfl, st1.sub _ _ h, rs.none_ hno, F1, l1, st1, ?_⟩
        cases hg : gA l1 with
        | stuck => rw [hg] at w1; exact w1.elim
        | err c f d l' => rw [hg] at w1; exact w1
        | ok bs l2 =>
          rw [hg] at w1
          intro F2 H2 g2 st2 vs ar
          rw [eK]
          exact call_core (vs := .ref a :: vs) st2 (.cons (show ArgR M.K F2 σ (.ref a) (.val (.ins c' ds)) from (Rep.ins h rs).up g2.ext) ar) (dr F2) (by
            have := al _ _ _ hg
            simp only [List.length_cons] at this hn ⊢
            omega) (wR.later g2 w1)
      · exact w1.elim
    | _ => exact w1.elim
theorem me_meth0 {c m : Str} {f : Addr} {k n : Nat} {ps : List Str} {mm : MF} {dvs : List V} {dd : List D} {pl : Sem Bool} (C : HasF X.prog X.w X.K X.mg X.base (L2.CX X.prog X.w) k f ps dvs (spM X.K n mm)) (eK : X.K = M.K) (T : MethF M.K c m f) (dr : ∀ F, Reps M.K F dvs dd) (hn : 1 + dd.length = n) (px : ∀ σ, PassesAt (L2.CX X.prog X.w) X σ (E σ)) (sl : Still X.A) (room : Room k X.A)
    (ho : PE X o (mE M E go))
    (ht : eval (.Call (.Attribute o m apos) [] [] pos) X.env = (do
      let ov ← eval o X.env
      standAt apos.atName
      let (f, first) ← holding [ov] (getMethod ov m pl)
      callWith pos f first (backTo pos (starEach [] X.env)) (backToKw pos (keywordEach [] X.env))) := by rfl) :
    PE X (.Call (.Attribute o m apos) [] [] pos) (mE M E (methE c m mm dd go aNil)) :=
  pe_imp (pe_methS0 (C := He.ga M.K c) ho (by rw [eK]; exact T.cl) (by rw [eK]; exact T.me) C sl room px ht) fun σ H Q z => by
    obtain ⟨F, l, st, w⟩ := z
    refine ⟨F, l, st, (wR.bind w).mono fun d l1 F1 H1 g1 st1 w1 v rv => ?_⟩
    cases rv with
    | ins h rs =>
      rename_i a dx gs c' ds
      dsimp only at w1
      split at w1
      · rename_i hc
        obtain ⟨rfl, hno⟩ := hc
        have hno : ds.lookup m = none := Option.isNone_iff_eq_none.mp hno
        refine ⟨a, dx, gs, rfl, st1.sub _ _ h, rs.none_ hno, ?_⟩
        show spM X.K n mm (.ref a :: ([] ++ dvs)) H1 Q (E σ)
        rw [eK]
        exact call_core (vs := [.ref a]) (as := [.val (.ins c' ds)]) st1 (.cons (show ArgR M.K F1 σ (.ref a) (.val (.ins c' ds)) from .ins h rs) .nil) (dr F1) (by simpa using hn) w1
      · exact w1.elim
    | _ => exact w1.elim
/-- C.m(..), m a classmethod -/
def cmethE (c : Str) (m : MF) (dd : List D) (ga : MA) : ME := fun l => (ga l).bind fun as l2 => appE m dd (.val (.cls c) :: as) l2
theorem me_cmeth {c m x : Str} {f pp : Addr} {k n : Nat} {ps : List Str} {mm : MF} {dvs : List V} {dd : List D} {p' : Pos} {mc : Value} {e : Expr} {es : List Expr} {gA : MA} {pl : Sem Bool} (C : HasF X.prog X.w X.K X.mg X.base (L2.CX X.prog X.w) k f ps dvs (spM X.K n mm)) (eK : X.K = M.K) (rd : ClX.CRead M.K (He.ga M.K c) mc) (cm : ClX.CMet M.K (He.ga M.K c) mc m pp f) (hgl : Gl X x) (hmg : X.mg x = some (.ref (He.ga M.K c))) (dr : ∀ F, Reps M.K F dvs dd) (hn : (e :: es).length + 1 + dd.length = n) (px : ∀ σ, PassesAt (L2.CX X.prog X.w) X σ (E σ)) (sl : Still X.A) (room : Room k X.A)
    (as : PA X (e :: es) (mA M E gA)) (al : ALen gA (e :: es).length) (hdb : (x == ("__debug__" : Str)) = false := by decide)
    (hst : starEach (e :: es) X.env = (false, eval e X.env) :: starEach es X.env := by rfl) (hpl : (backTo pos (starEach es X.env)).any (·.1) = false := by rfl)
    (ht : eval (.Call (.Attribute (.Name x p') m apos) (e :: es) [] pos) X.env = (do
      let ov ← eval (.Name x p') X.env
      standAt apos.atName
      let (f, first) ← holding [ov] (getMethod ov m pl)
      callWith pos f first (backTo pos (starEach (e :: es) X.env)) (backToKw pos (keywordEach [] X.env))) := by rfl) :
    PE X (.Call (.Attribute (.Name x p') m apos) (e :: es) [] pos) (mE M E (cmethE c mm dd gA)) :=
  pe_imp (pe_cmethS (C := He.ga M.K c) (pe_glob (v := .ref (He.ga M.K c)) hgl hmg rfl hdb) (by rw [eK]; exact rd) (by rw [eK]; exact cm) C sl room px as hst hpl ht) fun σ H Q z => by
    obtain ⟨F, l, st, w⟩ := z
    refine ⟨rfl, F, l, st, ?_⟩
    cases hg : gA l with
    | stuck => unfold cmethE at w; rw [hg] at w; exact w.elim
    | err c f d l' => unfold cmethE at w; rw [hg] at w; exact w
    | ok bs l2 =>
      unfold cmethE at w
      rw [hg] at w
      intro F2 H2 g2 st2 vs ar
      rw [eK]
      exact call_core (vs := .ref (He.ga M.K c) :: vs) st2 (.cons (show ArgR M.K F2 σ (.ref (He.ga M.K c)) (.val (.cls c)) from .cls c) ar) (dr F2) (by
        have := al _ _ _ hg
        simp only [List.length_cons] at this hn ⊢
        omega) (wR.later g2 w)
end
end Sb

namespace Sb
open PySem PySem.Spec PyProof.Rows L2

/-! ### a new instance -/
def mkApp (c : Str) (m : MF) (dd : List D) (as : List Arg) (l : Ld) : Res D := match resolve l as with
  | none => .stuck
  | some ss => if (slotsOf as).Nodup then (match m (.ow (.ins c []) :: (ss ++ dd.map .fr)) with
    | .ok (.fr .non) (s0 :: ss') => if ss'.length = ss.length + dd.length then .ok s0.toD (putA as (ss'.take ss.length) l) else .stuck
    | .err x f d (_ :: ss') => if ss'.length = ss.length + dd.length then .err x f d (putA as (ss'.take ss.length) l) else .stuck
    | _ => .stuck) else .stuck
def mkE (c : Str) (m : MF) (dd : List D) (g : MA) : ME := fun l => (g l).bind fun as l1 => mkApp c m dd as l1
def mkLE (i : Nat) (c : Str) (m : MF) (dd : List D) (g : MA) : ME := fun l => match l[i]? with
  | some (some (.fr (.cls c'))) => if c' = c then mkE c m dd g l else .stuck
  | _ => .stuck
section
variable {M : MC} {E : L2.St → XK} {σ : L2.St} {F H F' H' : Hp} {l : Ld} {as : List Arg} {vs dvs : List V} {dd : List D} {c : Str}
theorem make_core {m : MF} {n : Nat} {Q : VK} (st : StM M F σ H l) (ar : ArgsR M.K F σ vs as) (dr : Reps M.K F dvs dd) (hn : as.length + 1 + dd.length = n)
    (w : wR M E σ F H l (fun d _ F' H' => ∀ v, Rep M.K F' v d → Q v H') (mkApp c m dd as l)) (x dx : Addr) (nx : H x = none) (ndx : H dx = none) (ne : dx ≠ x) :
    spM M.K n m (.ref x :: (vs ++ dvs)) (upd (upd H dx (.own x)) x (.ins (He.ga M.K c) dx [])) (fun v H2 => v = .non ∧ Q (.ref x) H2) (E σ) := by
  have sm : Same H (upd (upd H dx (.own x)) x (.ins (He.ga M.K c) dx [])) := fun b o e => by
    rw [upd_ne (ne_of_none e nx), upd_ne (ne_of_none e ndx)]
    exact e
  have fx : F x = none := st.sub.free nx
  have n0 : M.H0 x = none := st.domH _ nx
  unfold mkApp at w
  split at w
  · exact w.elim
  · rename_i ss re
    split at w
    · rename_i nd
      have ok := args_ok st ar re nd
      have okd := args_dd ok dr
      have hl0 : (ss ++ dd.map Sl.fr).length = ss.length + dd.length := by rw [List.length_append, List.length_map]
      have okx : ArgsOk M.K F (upd (upd H dx (.own x)) x (.ins (He.ga M.K c) dx [])) (.ref x :: (vs ++ dvs)) (.ow (.ins c []) :: (ss ++ dd.map .fr)) := by
        refine ⟨by rw [List.length_cons, List.length_cons, okd.len], fun i s e => ?_, fun i j xs ys v a b cc d => ?_⟩
        · cases i with
          | zero =>
            cases e
            exact ⟨.ref x, rfl, x, _, rfl, upd_same, fx, dx, [], rfl, .nil⟩
          | succ i =>
            obtain ⟨v, ev, r⟩ := okd.at_ i s (by simpa using e)
            refine ⟨v, by simpa using ev, ?_⟩
            cases s with
            | fr d => exact r
            | ow o =>
              obtain ⟨p, h, z1, z2, z3, z4⟩ := r
              exact ⟨p, h, z1, sm _ _ z2, z3, z4⟩
        · have far : ∀ (k : Nat) (zs : O), (ss ++ dd.map Sl.fr)[k]? = some (.ow zs) → (vs ++ dvs)[k]? = some (.ref x) → False := by
            intro k zs z1 z2
            obtain ⟨u, eu, p, h, rfl, hp, _⟩ := okd.at_ k _ z1
            rw [z2] at eu
            cases eu
            rw [nx] at hp
            cases hp
          cases i with
          | zero =>
            cases j with
            | zero => rfl
            | succ j =>
              cases cc
              exact (far j ys (by simpa using b) (by simpa using d)).elim
          | succ i =>
            cases j with
            | zero =>
              cases d
              exact (far i xs (by simpa using a) (by simpa using cc)).elim
            | succ j => exact congrArg (· + 1) (okd.inj i j xs ys v (by simpa using a) (by simpa using b) (by simpa using cc) (by simpa using d))
      refine ⟨F, _, by rw [List.length_cons, hl0, resolve_len re]; omega, st.sub.trans sm, okx, ?_⟩
      -- from what the init leaves to what the caller sees
      have tail : ∀ F' H' s0 ss', After M.K F (upd (upd H dx (.own x)) x (.ins (He.ga M.K c) dx [])) F' H' (.ref x :: (vs ++ dvs)) (.ow (.ins c []) :: (ss ++ dd.map .fr)) (s0 :: ss') → After M.K F H F' H' (vs ++ dvs) (ss ++ dd.map .fr) ss' ∧ ArgOk M.K F' H' (.ref x) s0 := by
        intro F' H' s0 ss' af
        refine ⟨⟨af.ext, af.sub, fun p o h f n => af.frn p o (sm _ _ h) f fun z => ?_, fun a z => ?_, fun i s' xs a b => ?_, fun i d a => ?_⟩, ?_⟩
        · obtain ⟨i, xs, a, b⟩ := z
          cases i with
          | zero =>
            cases b
            rw [nx] at h
            cases h
          | succ i => exact n ⟨i, xs, by simpa using a, by simpa using b⟩
        · have := af.dom a z
          by_cases e : a = x
          · rw [e]
            exact nx
          · by_cases e2 : a = dx
            · rw [e2]
              exact ndx
            · rwa [upd_ne e, upd_ne e2] at this
        · obtain ⟨v, e, r⟩ := af.at_ (i + 1) s' xs (by simpa using a) (by simpa using b)
          exact ⟨v, by simpa using e, r⟩
        · simpa using af.fr (i + 1) d (by simpa using a)
        · obtain ⟨v, e, r⟩ := af.at_ 0 s0 _ rfl rfl
          cases e
          exact r
      split at w
      · rename_i s0 ss' hm
        rw [hm]
        split at w
        · rename_i hl
          intro v F' H' af rv
          cases rv
          refine ⟨rfl, ?_⟩
          obtain ⟨af', ax⟩ := tail F' H' s0 ss' af
          have hl' : (ss'.take ss.length).length = ss.length := by rw [List.length_take]; omega
          obtain ⟨st', gr⟩ := after_ok st ar re nd hl' (after_dd ok dr af')
          cases s0 with
          | fr d => exact w F' H' gr st' _ ax
          | ow o =>
            obtain ⟨p, h, z1, hp, fp, ow⟩ := ax
            cases z1
            have ext : Same F' (upd F' x h) := new_same fp
            have no : ¬ Own σ (putA as (ss'.take ss.length) l) x := fun o => by
              obtain ⟨⟨ws, z⟩, _⟩ := st.ownH (gr.own _ o)
              rw [nx] at z
              cases z
            refine w (upd F' x h) H' ⟨gr.ext.trans ext, gr.own, fun q o h f n => ?_, gr.dom⟩ (st'.adopt hp fp n0 no) _ ((ow.up ext).rep upd_same)
            obtain ⟨a, b⟩ := gr.frn q o h f n
            rw [upd_ne (ne_of_none h nx)]
            exact ⟨a, b⟩
        · exact w.elim
      · rename_i c' f d s0 ss' hm
        rw [hm]
        split at w
        · rename_i hl
          intro v y F' H' af hx fy h0 rv
          obtain ⟨af', _⟩ := tail F' H' s0 ss' af
          have hl' : (ss'.take ss.length).length = ss.length := by rw [List.length_take]; omega
          obtain ⟨st', gr⟩ := after_ok st ar re nd hl' (after_dd ok dr af')
          refine w v y F' H' gr st' hx fy ?_ rv
          by_cases e : y = x
          · rw [e]; exact nx
          · by_cases e2 : y = dx
            · rw [e2]; exact ndx
            · rwa [upd_ne e, upd_ne e2] at h0
        · exact w.elim
      · exact w.elim
    · exact w.elim
end
section
variable {X : Cx} {M : MC} {E : L2.St → XK} {k n : Nat} {f : Addr} {ps : List Str} {m : MF} {dvs : List V} {dd : List D} {x c : Str} {p pos : Pos} {e : Expr} {es : List Expr} {g : MA}
theorem me_make (C : HasF X.prog X.w X.K X.mg X.base (L2.CX X.prog X.w) k f ps dvs (spM X.K n m)) (eK : X.K = M.K) (mk : Mk M.K (He.ga M.K c) f) (hmg : X.mg x = some (.ref (He.ga M.K c))) (dr : ∀ F, Reps M.K F dvs dd) (hn : (e :: es).length + 1 + dd.length = n) (px : ∀ σ, PassesAt (L2.CX X.prog X.w) X σ (E σ)) (sl : Still X.A) (room : Room (k + 1) X.A) (gl : Gl X x) (as : PA X (e :: es) (mA M E g)) (al : ALen g (e :: es).length)
    (nd : (x == ("__debug__" : Str)) = false := by decide) (st : starEach (e :: es) X.env = (false, eval e X.env) :: starEach es X.env := by rfl) (pl : (backTo pos (starEach es X.env)).any (·.1) = false := by rfl) :
    PE X (.Call (.Name x p) (e :: es) [] pos) (mE M E (mkE c m dd g)) :=
  pe_imp (pe_makeS (C := He.ga M.K c) (by rw [eK]; exact mk) C sl room px gl hmg as nd st pl) fun σ H Q z => by
    obtain ⟨F, l, st, w⟩ := z
    refine ⟨F, l, st, ?_⟩
    cases hg : g l with
    | stuck => unfold mkE at w; rw [hg] at w; exact w.elim
    | err c f d l' => unfold mkE at w; rw [hg] at w; exact w
    | ok bs l1 =>
      unfold mkE at w
      rw [hg] at w
      intro F1 H1 g1 st1 vs ar
      rw [eK]
      exact make_core st1 ar (dr F1) (by rw [al _ _ _ hg]; exact hn) (wR.later g1 w)
theorem me_makeL {i : Nat} (C : HasF X.prog X.w X.K X.mg X.base (L2.CX X.prog X.w) k f ps dvs (spM X.K n m)) (eK : X.K = M.K) (mk : Mk M.K (He.ga M.K c) f) (dr : ∀ F, Reps M.K F dvs dd) (hn : (e :: es).length + 1 + dd.length = n) (px : ∀ σ, PassesAt (L2.CX X.prog X.w) X σ (E σ)) (sl : Still X.A) (room : Room (k + 1) X.A) (hN : X.N[i]? = some x) (hv : Vis X.env.scope x) (as : PA X (e :: es) (mA M E g)) (al : ALen g (e :: es).length)
    (nd : (x == ("__debug__" : Str)) = false := by decide) (hcd : (x == ("__classdict__" : Str)) = false := by decide) (st : starEach (e :: es) X.env = (false, eval e X.env) :: starEach es X.env := by rfl) (pl : (backTo pos (starEach es X.env)).any (·.1) = false := by rfl) :
    PE X (.Call (.Name x p) (e :: es) [] pos) (mE M E (mkLE i c m dd g)) :=
  pe_imp (pe_makeL (C := He.ga M.K c) (by rw [eK]; exact mk) C sl room px hN hv as nd hcd st pl) fun σ H Q z => by
    obtain ⟨F, l, st, w⟩ := z
    unfold mkLE at w
    split at w
    · rename_i c' hl
      split at w
      · rename_i hc
        subst hc
        obtain ⟨v, ev, ok⟩ := st.slot i _ hl
        have ok : Rep M.K F v (.cls c') := ok
        cases ok
        refine ⟨ev, F, l, st, ?_⟩
        cases hg : g l with
        | stuck => unfold mkE at w; rw [hg] at w; exact w.elim
        | err c f d l' => unfold mkE at w; rw [hg] at w; exact w
        | ok bs l1 =>
          unfold mkE at w
          rw [hg] at w
          intro F1 H1 g1 st1 vs ar
          rw [eK]
          exact make_core st1 ar (dr F1) (by rw [al _ _ _ hg]; exact hn) (wR.later g1 w)
      · exact w.elim
    · exact w.elim
end
theorem mkB_ok {K : PySem.W.Frag} {c : Str} {f : Addr} (h : mkB K c f = true) : Mk K (He.ga K c) f := by
  simp only [mkB, Bool.and_eq_true, decide_eq_true_eq] at h
  obtain ⟨⟨⟨a, b⟩, c⟩, d⟩ := h
  exact ⟨a, b, c, d⟩
/-! ### a written tuple of texts -/
theorem rel_of_abs : ∀ {u : Value} {x : Str}, absV u = some (.str x) → RelV (.str x) u := by
  intro u x h
  cases u with
  | str y t => cases h; exact ⟨t, rfl⟩
  | _ => cases h
theorem vals_of_abs : ∀ {us : List Value} {xs : List Str}, us.map absV = xs.map (fun x => some (V.str x)) → Vals (xs.map V.str) us
  | [], [], _ => .nil
  | [], _ :: _, h => by cases h
  | _ :: _, [], h => by cases h
  | u :: us, x :: xs, h => by
    simp only [List.map_cons, List.cons.injEq] at h
    exact .cons (rel_of_abs h.1) (vals_of_abs h.2)
theorem reps_strs {K : PySem.W.Frag} {F : Hp} : ∀ xs : List Str, Reps K F (xs.map V.str) (xs.map D.str)
  | [] => .nil
  | x :: xs => .cons (.str x) (reps_strs xs)
theorem tupStr_ok {K : PySem.W.Frag} {a : Addr} {xs : List Str} (h : tupStrB K a xs = true) (F : Hp) : Rep K F (.ref a) (.tup (xs.map .str)) := by
  unfold tupStrB at h
  split at h
  · rename_i n dd its m sl e
    simp only [Bool.and_eq_true, decide_eq_true_eq, beq_iff_eq] at h
    obtain ⟨⟨rfl, h2⟩, h3⟩ := h
    exact .tup (.inr ⟨_, its, _, e, rfl, rfl, h2, vals_of_abs h3⟩) (reps_strs xs)
  · cases h
end Sb

namespace Sb
open PySem PySem.Spec PyProof.Rows L2

def sStuck : MS := fun _ => .stuck
def eStuck : ME := fun _ => .stuck
section
variable {X : Cx} {M : MC} {E : L2.St → XK} {a b e o : Expr} {st : Stmt} {sts : List Stmt} {ga gb go : ME} {pos apos cpos : Pos}
/-- what is never reached -/
theorem ms_never : PS X st (mS M E sStuck) := ps_imp ps_never fun Dn σ H z => by
  obtain ⟨F, l, _, w⟩ := z
  exact w
theorem mss_never : PSs X sts (mS M E sStuck) := pss_imp pss_never fun Dn σ H z => by
  obtain ⟨F, l, _, w⟩ := z
  exact w
theorem me_never : PE X e (mE M E eStuck) := ⟨fun pins s σ H Q I z => by
  obtain ⟨F, l, _, w⟩ := z
  exact w.elim⟩
/-! ### texts -/
def strsOf : List D → Option (List Str)
  | [] => some []
  | .str b :: ds => (strsOf ds).map (b :: ·)
  | _ => none
theorem strsOf_ok : ∀ {ds : List D} {bs : List Str}, strsOf ds = some bs → ds = bs.map .str
  | [], _, h => by cases h; rfl
  | d :: ds, bs, h => by
    cases d with
    | str b =>
      obtain ⟨r, e, rfl⟩ := Option.map_eq_some_iff.mp (show (strsOf ds).map (b :: ·) = some bs from h)
      rw [strsOf_ok e]
      rfl
    | _ => cases h
def joinD : D → D → Option D
  | .str a, .list xs => (strsOf xs).bind fun ys => if (ys.map (·.length)).sum + ys.length * a.length ≤ 16777216 then some (.str (Txt.join a ys)) else none
  | .str a, .tup xs => (strsOf xs).bind fun ys => if (ys.map (·.length)).sum + ys.length * a.length ≤ 16777216 then some (.str (Txt.join a ys)) else none
  | _, _ => none
def isStr : D → Bool
  | .str _ => true
  | _ => false
def joinE (go ge : ME) : ME := fun l => (go l).bind fun d l1 => if isStr d = true then (ge l1).bind fun e l2 => Res.lift (joinD d e) l2 else .stuck
theorem me_join (eK : X.K = M.K) (ho : PE X o (mE M E go)) (he : PE X e (mE M E ga)) (hs : starEach [e] X.env = [(false, eval e X.env)] := by rfl) (hbase : attributeBase o "join" X.env (eval o X.env) = eval o X.env := by rfl) (hline : (apos.endLine == pos.line) = true := by rfl) :
    PE X (.Call (.Attribute o "join" apos) [e] [] pos) (mE M E (joinE go ga)) :=
  pe_imp (pe_join ho he hs hbase hline) fun σ H Q z => by
    obtain ⟨F, l, st, w⟩ := z
    refine ⟨F, l, st, (wR.bind w).mono fun d l1 F1 H1 g1 st1 w1 v rv => ?_⟩
    cases d with
    | str a =>
      cases rv
      refine ⟨⟨a, rfl⟩, F1, l1, st1, (wR.bind (show wR M E σ F1 H1 l1 _ ((ga l1).bind fun e l2 => Res.lift (joinD (.str a) e) l2) from w1)).mono fun e l2 F2 H2 g2 st2 w2 u ru => ?_⟩
      cases hj : joinD (.str a) e with
      | none => rw [hj] at w2; exact w2.elim
      | some r =>
        rw [hj] at w2
        cases ru with
        | list hl rs =>
          rename_i p vs ds
          obtain ⟨ys, hy, hc⟩ := Option.bind_eq_some_iff.mp (show ((strsOf ds).bind fun ys => if (ys.map (·.length)).sum + ys.length * a.length ≤ 16777216 then some (D.str (Txt.join a ys)) else none) = some r from hj)
          split at hc
          · rename_i hz
            cases hc
            rw [strsOf_ok hy] at rs
            rw [rs.strs] at hl
            exact ⟨a, p, ys, rfl, rfl, .inl (SqL.of (st2.sub _ _ hl)), hz, w2 F2 H2 (Gr.refl _ _ _ _) st2 _ (.str _)⟩
          · cases hc
        | tup hl rs =>
          rename_i p vs ds
          obtain ⟨ys, hy, hc⟩ := Option.bind_eq_some_iff.mp (show ((strsOf ds).bind fun ys => if (ys.map (·.length)).sum + ys.length * a.length ≤ 16777216 then some (D.str (Txt.join a ys)) else none) = some r from hj)
          split at hc
          · rename_i hz
            cases hc
            rw [strsOf_ok hy] at rs
            rw [rs.strs] at hl
            exact ⟨a, p, ys, rfl, rfl, .inr (by rw [eK]; exact seqT_same st2.sub hl), hz, w2 F2 H2 (Gr.refl _ _ _ _) st2 _ (.str _)⟩
          · cases hc
        | _ => cases hj
    | _ => exact w1.elim
/-! ### list.index -/
def idxOf (d : D) : List D → Option Nat
  | [] => none
  | y :: ys => if eqFl y d = true then some 0 else (idxOf d ys).map (· + 1)
theorem idxOf_ok {d : D} : ∀ {ys : List D} {j : Nat}, idxOf d ys = some j → (∃ z, ys[j]? = some z ∧ eqFl z d = true) ∧ ∀ (m : Nat) (z : D), m < j → ys[m]? = some z → eqFl z d = false
  | [], _, h => by cases h
  | y :: ys, j, h => by
    unfold idxOf at h
    split at h
    · rename_i e
      cases h
      exact ⟨⟨y, rfl, e⟩, fun m z lt => absurd lt (Nat.not_lt_zero _)⟩
    · rename_i e
      obtain ⟨k, hk, rfl⟩ := Option.map_eq_some_iff.mp h
      obtain ⟨⟨z, a, b⟩, c⟩ := idxOf_ok hk
      refine ⟨⟨z, by simpa using a, b⟩, fun m z' lt hz => ?_⟩
      cases m with
      | zero =>
        cases hz
        simpa using e
      | succ m => exact c m z' (by omega) (by simpa using hz)
def isLst : D → Bool
  | .list _ => true
  | _ => false
def indexD : D → D → Option D
  | .list ys, d => if flatD d = true ∧ ys.all flatD = true then (idxOf d ys).map fun (j : Nat) => .int j else none
  | _, _ => none
def indexE (go ge : ME) : ME := fun l => (go l).bind fun d l1 => if isLst d = true then (ge l1).bind fun e l2 => Res.lift (indexD d e) l2 else .stuck
theorem me_index (eK : X.K = M.K) (ho : PE X o (mE M E go)) (he : PE X e (mE M E ga)) (hbase : attributeBase o "index" X.env (eval o X.env) = eval o X.env := by rfl)
    (hfew : ((backTo cpos (starEach [e] X.env)).all (fun x => !x.1) && (backToKw cpos (keywordEach [] X.env)).all (fun x => x.1.isSome)
      && decide ([e].length + ([] : List Keyword).length + (if ([] : List Keyword).isEmpty then 0 else 1) < 30)) = true := by rfl)
    (hline : (apos.endLine == cpos.line) = true := by rfl) (hs : starEach [e] X.env = (false, eval e X.env) :: starEach [] X.env := by rfl) (hplain : (backTo cpos (starEach [] X.env)).any (·.1) = false := by rfl) :
    PE X (.Call (.Attribute o "index" apos) [e] [] cpos) (mE M E (indexE go ga)) :=
  pe_imp (pe_bm PySem.F.plainAttrs_list PySem.F.slot_list_index PySem.F.type_list_index mt_index ho (pa_cons he pa_nil hs) hbase hfew hline hs hplain) fun σ H Q z => by
    obtain ⟨F, l, st, w⟩ := z
    refine ⟨F, l, st, (wR.bind w).mono fun d l1 F1 H1 g1 st1 w1 v rv => ?_⟩
    cases d with
    | list ds =>
      cases rv with
      | list hl rs =>
        rename_i p vs
        refine ⟨.inl ⟨rfl, _, SqL.of (st1.sub _ _ hl)⟩, F1, l1, st1, (wR.bind (show wR M E σ F1 H1 l1 _ ((ga l1).bind fun e l2 => Res.lift (indexD (.list ds) e) l2) from w1)).mono fun e l2 F2 H2 g2 st2 w2 u ru => ?_⟩
        cases hj : indexD (.list ds) e with
        | none => rw [hj] at w2; exact w2.elim
        | some r =>
          rw [hj] at w2
          have hj : (if flatD e = true ∧ ds.all flatD = true then (idxOf e ds).map fun (j : Nat) => D.int j else none) = some r := hj
          split at hj
          · rename_i hc
            obtain ⟨j, hjj, rfl⟩ := Option.map_eq_some_iff.mp hj
            obtain ⟨⟨z, ez, eq⟩, no⟩ := idxOf_ok hjj
            have rs2 := rs.up g2.ext
            have hl2 : F2 p = some (.lst vs) := g2.ext _ _ hl
            have flat : ∀ (m : Nat) (z : D), ds[m]? = some z → flatD z = true := fun m z h => List.all_eq_true.mp hc.2 z (List.mem_of_getElem? h)
            obtain ⟨y, ey, ry⟩ := rs2.get ez
            refine ⟨p, vs, u, j, y, rfl, rfl, SqL.of (st2.sub _ _ hl2), flat_ok ru hc.1, flats_ok rs2 hc.2, ey, by rw [eqFl_ok ry ru (flat j z ez) hc.1]; exact eq, fun m z' lt hz => ?_, w2 F2 H2 (Gr.refl _ _ _ _) st2 _ (.int _)⟩
            have hm : m < ds.length := by rw [← rs2.length]; exact get_lt hz
            obtain ⟨y', ey', ry'⟩ := rs2.get (List.getElem?_eq_getElem hm)
            rw [hz] at ey'
            cases ey'
            rw [eqFl_ok ry' ru (flat m _ (List.getElem?_eq_getElem hm)) hc.1]
            exact no m _ lt (List.getElem?_eq_getElem hm)
          · cases hj
    | _ => exact w1.elim
end
theorem isi_ins {K : PySem.W.Frag} {u : Value} {t : List (TK × Bool)} {r : List (List (TK × Bool))} (I : IsiF K u t) : ∀ x b, kitAnyT (t :: r) (.c x) = some b → InsC K x := by
  intro x b h
  rw [kitAnyT] at h
  cases e : t.lookup (.c x) with
  | none => rw [e] at h; cases h
  | some c => exact I.ins x c (lookup_mem e)
end Sb

/-! Sb, part M15: enumerate and zip of lists, tuples of names as targets of comprehensions. -/
namespace Sb
open PySem PySem.Spec PyProof.Rows L2
section
variable {X : Cx} {M : MC} {E : L2.St → XK} {gl : ML} {pos : Pos} {e : Expr}
/-- the items of a list -/
def rowD : D → Option (List D)
  | .list xs => some xs
  | .scr ns => some (ns.map .int)
  | _ => none
theorem rowD_ok {K : PySem.W.Frag} {F : Hp} {v : V} {d : D} {xs : List D} (r : Rep K F v d) (h : rowD d = some xs) : ∃ a vs, v = .ref a ∧ SqL K F a vs ∧ Reps K F vs xs := by
  cases r with
  | list h1 rs => cases h; exact ⟨_, _, rfl, SqL.of h1, rs⟩
  | scr h1 =>
    cases h
    refine ⟨_, _, rfl, h1, ?_⟩
    rename_i ns
    clear h1
    induction ns with
    | nil => exact .nil
    | cons n ns ih => exact .cons (.int n) ih
  | _ => cases h
def enumD (xs : List D) : List D := (List.range xs.length).zipWith (fun (i : Nat) x => D.tup [.int (i : Int), x]) xs
def enumerateL (g : ML) : ML := fun l => (g l).bind fun ds l1 => match ds with
  | [d] => match rowD d with
    | some xs => .ok (enumD xs) l1
    | none => .stuck
  | _ => .stuck
def zipD (xs ys : List D) : List D := List.zipWith (fun x y => D.tup [x, y]) xs ys
def zipL (g : ML) : ML := fun l => (g l).bind fun ds l1 => match ds with
  | [d, e] => match rowD d, rowD e with
    | some xs, some ys => .ok (zipD xs ys) l1
    | _, _ => .stuck
  | _ => .stuck
theorem pair_ok {K : PySem.W.Frag} {F' H : Hp} {T : Addr} {x y : V} {d e : D} (s : Same F' H) (n : H T = none) (rx : Rep K F' x d) (ry : Rep K F' y e) : ∃ F'', Nw F' H F'' (upd H T (.tup [x, y])) ∧ Rep K F'' (.ref T) (.tup [d, e]) := by
  have nw := Nw.add (o := .tup [x, y]) s n
  exact ⟨_, nw, .tup (SqT.of upd_same) (.cons (rx.up nw.f) (.cons (ry.up nw.f) .nil))⟩
theorem walkD_enum {a : Addr} {vs : List V} {xs : List D} {F : Hp} (h : SqL M.K F a vs) (rs : Reps M.K F vs xs) : WalkD M (Ite M.K a) (enumD xs) F := by
  have hl : vs.length = (enumD xs).length := by simp [enumD, rs.length]
  refine ⟨_, _, hl ▸ walk_enum (K := M.K) (a := a) (xs := vs), fun F' H e s => s.seq (e.seq h), fun i H x H' F' e s y => ?_⟩
  obtain ⟨T, u, z, rfl, n, rfl, e1, e2⟩ := y
  cases e1
  have e2 : vs[i]? = some z := e2
  have hi : i < xs.length := by rw [← rs.length]; exact get_lt e2
  obtain ⟨v, e3, r⟩ := rs.get (List.getElem?_eq_getElem hi)
  rw [e2] at e3
  cases e3
  obtain ⟨F'', nw, r2⟩ := pair_ok s n (.int (i : Int)) (r.up e)
  refine ⟨F'', _, nw, ?_, r2⟩
  simp [enumD, List.getElem?_zipWith, List.getElem?_range hi, List.getElem?_eq_getElem hi]
theorem mi_enumerate {elts : List Expr} {kk : Nat} {tpos p : Pos} (eK : X.K = M.K) (hg : Gl X "enumerate") (hm : X.mg "enumerate" = none) (ha : PA X [e] (mV M E gl)) (hs : starEach [e] X.env = [(false, eval e X.env)] := by rfl) : PI X (.Tuple elts kk tpos) (.Call (.Name "enumerate" p) [e] [] pos) (mI M E (enumerateL gl)) := by
  refine pi_imp (pi_enum hg hm ha hs) fun σ H R z => ?_
  obtain ⟨F, l, st, w⟩ := z
  refine ⟨F, l, st, (wR.bind w).mono fun ds l1 F1 H1 g1 st1 w1 vs rs => ?_⟩
  match ds, rs, w1 with
  | [d], .cons r .nil, w1 =>
    dsimp only at w1
    split at w1
    · rename_i xs hx
      obtain ⟨a, us, rfl, hq, rr⟩ := rowD_ok r hx
      refine ⟨a, us, rfl, eK ▸ st1.sub.seq hq, ?_⟩
      rw [eK]
      exact w1 F1 H1 (Gr.refl _ _ _ _) st1 _ (walkD_enum hq rr)
    · exact w1.elim
theorem walkD_zip {a b : Addr} {vs us : List V} {xs ys : List D} {F : Hp} (h : SqL M.K F a vs) (rs : Reps M.K F vs xs) (h2 : SqL M.K F b us) (rs2 : Reps M.K F us ys) : WalkD M (Itz M.K a b) (zipD xs ys) F := by
  have hl : (zipD xs ys).length = min vs.length us.length := by simp [zipD, rs.length, rs2.length]
  refine ⟨_, _, walk_zip (K := M.K) (a := a) (b := b) (xs := vs) (ys := us) hl, fun F' H e s => ⟨s.seq (e.seq h), s.seq (e.seq h2)⟩, fun i H x H' F' e s y => ?_⟩
  obtain ⟨T, u, z, rfl, n, rfl, e1, e2⟩ := y
  have e1 : vs[i]? = some u := e1
  have e2 : us[i]? = some z := e2
  have hi : i < xs.length := by rw [← rs.length]; exact get_lt e1
  have hj : i < ys.length := by rw [← rs2.length]; exact get_lt e2
  obtain ⟨v, e3, r⟩ := rs.get (List.getElem?_eq_getElem hi)
  obtain ⟨v2, e4, r2⟩ := rs2.get (List.getElem?_eq_getElem hj)
  rw [e1] at e3
  rw [e2] at e4
  cases e3
  cases e4
  obtain ⟨F'', nw, r3⟩ := pair_ok s n (r.up e) (r2.up e)
  refine ⟨F'', _, nw, ?_, r3⟩
  simp [zipD, List.getElem?_zipWith, List.getElem?_eq_getElem hi, List.getElem?_eq_getElem hj]
theorem mi_zip {elts : List Expr} {kk : Nat} {tpos p : Pos} {e2 : Expr} (eK : X.K = M.K) (hg : Gl X "zip") (hm : X.mg "zip" = none) (ha : PA X [e, e2] (mV M E gl)) (hs : starEach [e, e2] X.env = (false, eval e X.env) :: starEach [e2] X.env := by rfl) (hpl : (backTo pos (starEach [e2] X.env)).any (·.1) = false := by rfl) : PI X (.Tuple elts kk tpos) (.Call (.Name "zip" p) [e, e2] [] pos) (mI M E (zipL gl)) := by
  refine pi_imp (pi_zip hg hm ha hs hpl) fun σ H R z => ?_
  obtain ⟨F, l, st, w⟩ := z
  refine ⟨F, l, st, (wR.bind w).mono fun ds l1 F1 H1 g1 st1 w1 vs rs => ?_⟩
  match ds, rs, w1 with
  | [d, e], .cons r (.cons r2 .nil), w1 =>
    dsimp only at w1
    split at w1
    · rename_i xs ys hx hy
      obtain ⟨a, us, rfl, hq, rr⟩ := rowD_ok r hx
      obtain ⟨b, us2, rfl, hq2, rr2⟩ := rowD_ok r2 hy
      refine ⟨a, b, us, us2, rfl, eK ▸ st1.sub.seq hq, eK ▸ st1.sub.seq hq2, ?_⟩
      rw [eK]
      exact w1 F1 H1 (Gr.refl _ _ _ _) st1 _ (walkD_zip hq rr hq2 rr2)
    · exact w1.elim
end
/-! ### tuples of names -/
def TgsOk (ts : List Nat) (t : List D → Ld → Option Ld) : Prop := ∀ d l l', t d l = some l' → ∀ (i : Nat) (xs : O), l'[i]? = some (some (.ow xs)) → i ∉ ts ∧ l[i]? = some (some (.ow xs))
theorem tgs_nil : TgsOk [] tNil := fun d l l' h i xs e => by
  cases d with
  | nil => cases h; exact ⟨by simp, e⟩
  | cons => cases h
theorem tgs_cons {ts us : List Nat} {t : MG} {r : List D → Ld → Option Ld} (a : TgOk ts t) (b : TgsOk us r) : TgsOk (ts ++ us) (tCons t r) := fun d l l' h i xs e => by
  cases d with
  | nil => cases h
  | cons d ds =>
    obtain ⟨l1, e1, e2⟩ := Option.bind_eq_some_iff.mp h
    obtain ⟨n2, g2⟩ := b _ _ _ e2 i xs e
    obtain ⟨n1, g1⟩ := a _ _ _ e1 i xs g2
    exact ⟨by simp [n1, n2], g1⟩
theorem tg_tup {n : Nat} {ts : List Nat} {r : List D → Ld → Option Ld} (a : TgsOk ts r) : TgOk ts (tTupl n r) := fun d l l' h i xs e => by
  cases d with
  | tup ds =>
    have h : (if ds.length = n then r ds l else none) = some l' := h
    by_cases c : ds.length = n
    · rw [if_pos c] at h
      exact a _ _ _ h i xs e
    · rw [if_neg c] at h
      cases h
  | _ => cases h
end Sb

/-! Sb, part M16: list(o) of an own class with __iter__ (iter of a tuple in a field) and __len__. -/
namespace Sb
open PySem PySem.Spec PyProof.Rows L2
section
variable {prog : Program} {w : World} {A : Around} {E : Value → Shared → Prop} {s : Shared}
theorem call_iterTup {l : Addr} {items : Array Value} {Q : Value → Shared → Prop} (hl : s.heap.IsTuple l items) (h : Q (.ref s.heap.objs.size) { s with heap := s.heap.push { cls := .type "tuple_iterator", data := .fields #[.ref l, .int 0 0] } }) : wpAny (model prog w) A (call (.builtin "iter") [.ref l]) Q E s := by
  refine Calls.call_function_entry (by decide +kernel) (by decide +kernel) PySem.W.kdk_entry_iter (PySem.W.kdk_args_iter _) ?_
  unfold Builtin.«iter»
  refine wpAny_bind (m := someArgs "iter" 1 2 _) (wpAny_of_eq (a := [Value.ref l]) (by first | rfl | kernel_rfl!) ?_)
  show wpAny _ _ (pyIter (.ref l) >>= _) _ _ _
  refine wpAny_bind (wpAny_pyIter_tuple hl ?_)
  exact wpAny_pure ⟨_, rfl, h⟩
theorem len_own {K : PySem.W.Frag} {x C f : Addr} {ox : Obj} {od : Option Obj} {Q : Value → Shared → Prop} (X : K.In s.heap) (I : PySem.W.InstAt s.heap x ox C od) (hs : PySem.W.findIn K (.ref C) "__len__" = some (some (.ref f))) (hf : PySem.W.typeIn K (.ref f) = some (.type "function"))
    (h : wpAny (model prog w) A.in1 (call (.ref f) [.ref x]) (fun v s' => ∃ n t, v = .int n t ∧ 0 ≤ n ∧ n < 2 ^ 63 ∧ Q (.int n (s'.toks)) { s' with toks := s'.toks + 1 }) E s) : wpAny (model prog w) A (call (.builtin "len") [.ref x]) Q E s := by
  refine Calls.call_function_entry (by decide +kernel) (by decide +kernel) entry_len (args_len1 _) ?_
  unfold Builtin.«len»
  refine wpAny_bind (m := oneArg "len" _) (wpAny_pure ?_)
  refine wpAny_bind (m := callSpecial? (.ref x) (Str.ofString "__len__")) (PySem.W.special_fn X I hs hf (wpAny_mono h (fun v s' q => ?_) fun _ _ z => z))
  obtain ⟨n, t, rfl, h0, h1, q⟩ := q
  refine wpAny_bind (wpAny_holding (wpAny_pure ?_))
  refine wpAny_bind (wpAny_letGo ?_)
  show wpAny _ _ (if n < 0 then _ else _) _ _ _
  rw [if_neg (Int.not_lt.mpr h0)]
  show wpAny _ _ (if n ≥ 2 ^ 63 then _ else _) _ _ _
  rw [if_neg (by omega)]
  exact wpAny_bind (wpAny_mkInt (wpAny_pure ⟨_, rfl, q⟩))
end
/-! ### iter(t) as a value -/
def ItT (a it : Addr) : HO := .ext fun h => h.IsTupleIter it a 0
theorem itT_ok {P : Program} {w : World} {H : Hp} {h : Heap} {a it : Addr} (e : h.IsTupleIter it a 0) : ObjOk P w H h it (ItT a it) :=
  ⟨e, e.imp fun _ z => z.1, fun _ _ q k => q.imp fun _ z => ⟨k _ z.1, z.2⟩⟩
def rIterT (K : PySem.W.Frag) (n : Nat) : List V → Hp → VK → Prop := fun xs H Q => ∃ (a : Addr) (zs : List V), xs = [.ref a] ∧ SqT K H a zs ∧ ∀ it, H it = none → n ≤ it → Q (.ref it) (upd H it (ItT a it))
theorem call_iterT {X : Cx} : CallR X (.builtin "iter") (rIterT X.K X.s_0.heap.objs.size) := by
  intro pins s σ H xs us Q I r h
  obtain ⟨a, zs, rfl, hq, q⟩ := h
  obtain ⟨u, rfl, ru⟩ := r.one
  cases ru
  obtain ⟨its, rv, p, hz⟩ := I.tuple hq
  refine call_iterTup (show s.heap.IsTuple a its.toArray from p) ?_
  exact ⟨.ref s.heap.objs.size, _, I.laid (t' := s.toks) (fun b u e => Heap.get?_push_of_some _ e) (Nat.le_refl _) (itT_ok ⟨_, Heap.get?_push_size _ rfl, rfl, rfl⟩), rfl, q _ (I.hok.fresh (Nat.le_refl _)) I.sz⟩
/-! ### contracts that may name the heap's size -/
structure FnN (P : Program) (w : World) (K : PySem.W.Frag) (mg : Str → Option Value) (base : Heap) (k : Nat) (f : Addr) (fd : FuncData) (ps : List Str) (sp : Nat → Sp) : Prop where
  many : ∀ n vs H Q E, sp n vs H Q E → vs.length = ps.length
  does : ∀ (A : Around) (outer : List Env) (s : Shared) (H : Hp) (args : Args) (us : List Value) (vs : List V) (Q : VK) (E : XK),
    Still A → Room k A → Env0 P w K mg base A outer s H → BindsTo s fd args (ps.zip us) → Vals vs us → sp s.heap.objs.size vs H Q E → codeAny (model P w) A (.call (.ref f) args) (CR CX0 outer P w H s Q E) s
section
variable {P : Program} {w : World} {K : PySem.W.Frag} {mg : Str → Option Value} {base : Heap} {f : Addr} {fd : FuncData} {ps : List Str} {sp : Nat → Sp}
theorem okN {x qn : Str} {pars : Arguments} {bd : List Stmt} {sco : Scope} {dvs : List V} {kws : List (Str × V)} {N : List Str} {k : Nat} (F : FunD K x qn pars bd sco dvs kws f fd) (S : FnScope N ps sco) (many : ∀ n vs H Q E, sp n vs H Q E → vs.length = ps.length)
    (does : ∀ (cv : Value) (A : Around) (outer : List Env) (s : Shared) (H : Hp) (vs : List V) (Q : VK) (E : XK), Still A → Room k (A.deeper (envOfC qn sco s.heap.objs.size f cv)) → sp s.heap.objs.size vs H Q E →
      ∃ t, PSs (cxOf CX0 P w K mg base N qn sco f cv A outer s H E).nox bd t ∧ t { nx := fun _ H' => Q .non H', rt := Q } (start N vs) H) :
    FnN P w K mg base (k + 1) f fd ps sp := by
  obtain ⟨_, _, _, _, _, _, _, cv, _, _, rfl, at_, cod, _, _⟩ := F.ex
  refine ⟨many, fun A outer s H args us vs Q E g room env bnd rv h => ?_⟩
  obtain ⟨t, ht, q⟩ := does cv A outer s H vs Q E g (room.deeper _) h
  exact entered at_ cod S (many _ _ _ _ _ h) room env bnd rv ht.nox q
end
/-- __iter__: iter of the tuple in the field fl; __len__: its length -/
def spIt (K : PySem.W.Frag) (C : Addr) (fl : Str) (n : Nat) : Sp := fun vs H Q _ => ∃ x dx fs a xs, vs = [.ref x] ∧ H x = some (.ins C dx fs) ∧ fs.lookup fl = some (.ref a) ∧ SqT K H a xs ∧ ∀ it, H it = none → n ≤ it → Q (.ref it) (upd H it (ItT a it))
def spLn (K : PySem.W.Frag) (C : Addr) (fl : Str) (_ : Nat) : Sp := fun vs H Q _ => ∃ x dx fs a xs, vs = [.ref x] ∧ H x = some (.ins C dx fs) ∧ fs.lookup fl = some (.ref a) ∧ SqT K H a xs ∧ Q (.int xs.length) H
structure LsC (K : PySem.W.Frag) (C fi fl : Addr) : Prop where
  it : PySem.W.findIn K (.ref C) "__iter__" = some (some (.ref fi))
  itF : PySem.W.isFn K (.ref fi) = true
  ln : PySem.W.findIn K (.ref C) "__len__" = some (some (.ref fl))
  lnF : PySem.W.typeIn K (.ref fl) = some (.type "function")
section
variable {X : Cx} {pins : List (Addr × Obj)} {σ : L2.St} {H : Hp} {s : Shared} {A1 : Around} {C fi fl : Addr} {fld : Str} {n : Nat} {fdI fdL : FuncData} {psI psL : List Str}
theorem env0_sub (I : Inv X pins σ H s) (sb : Sub X n A1) : Env0 X.prog X.w X.K X.mg X.base A1 X.stack s H := by
  have e := I.env0
  exact ⟨by rw [sb.fr]; exact e.frames, e.mod, e.bs, e.bsz, e.funs, e.frf, e.hok, e.bare⟩
/-- the loop over the rest of the tuple -/
theorem same_upd {H : Hp} {q : Addr} {o : HO} (n : H q = none) : Same H (upd H q o) := fun b u e => by
  rw [upd_ne (fun z => by rw [z, n] at e; cases e)]
  exact e
theorem tup_loop {Rs : Result → Shared → Prop} {a it q : Addr} {xs : List V} (hh : A1.in1.handled = none) (nq : H q = none) (hne : it ≠ q)
    (hdone : ∀ s, Inv X pins σ (upd H q (.lst xs)) s → Rs (.ok (.ret .none)) s) (few : xs.length ≤ sizeLine) (hq : SqT X.K H a xs) :
    ∀ (m i : Nat) (s : Shared), i + m = xs.length → Inv X pins σ (upd H q (.lst (xs.take i))) s → FpOk X pins (upd H q (.lst (xs.take i))) it → s.heap.IsTupleIter it a i →
      codeAny (model X.prog X.w) A1 (.builtin "list.extend.loop" ⟨[.ref q, .ref it, .none], []⟩) Rs s := by
  intro m
  induction m with
  | zero =>
    intro i s hi I hf st
    obtain ⟨f0, f1, f2, f3, f4, f5⟩ := hf
    obtain ⟨its, rv, p, hz⟩ := I.tuple (seqT_same (same_upd nq) hq)
    have hl := rv.length
    refine codeAny_builtin PySem.F.entry_extend_loop ?_
    rw [Around.under_plainId PySem.F.plain_extend_loop _]
    show wpAny _ A1.in1 (pyNext (.ref it) >>= _) _ _ s
    refine wpAny_bind (wpAny_pyNext_tuple_end hh st (show s.heap.IsTuple a its.toArray from p) (by simp; omega) fun h' eb => ?_)
    have I1 := I.turned (t' := s.toks) (fun b o hb e => eb b o hb e) f0 f1 f3 f4 f5
    rw [List.take_of_length_le (by omega)] at I1
    exact wpAny_pure (hdone _ I1)
  | succ m ih =>
    intro i s hi I hf st
    have hf' := hf
    obtain ⟨f0, f1, f2, f3, f4, f5⟩ := hf
    obtain ⟨its, rv, p, hz⟩ := I.tuple (seqT_same (same_upd nq) hq)
    have hlt : i < xs.length := by omega
    obtain ⟨u, hu, ru⟩ := rv.get (List.getElem?_eq_getElem hlt)
    refine codeAny_builtin PySem.F.entry_extend_loop ?_
    rw [Around.under_plainId PySem.F.plain_extend_loop _]
    show wpAny _ A1.in1 (pyNext (.ref it) >>= _) _ _ s
    refine wpAny_bind (wpAny_pyNext_tuple_item st (show s.heap.IsTuple a its.toArray from p) (x := u) (by simpa using hu) fun h' st' sb => ?_)
    have I1 : Inv X pins σ (upd H q (.lst (xs.take i))) { s with heap := h' } := I.turned (t' := s.toks) (fun b o hb e => (sb.2 b hb).trans e) f0 f1 f3 f4 f5
    show wpAny _ A1.in1 (updateSeq q (·.push u) >>= _) _ _ _
    obtain ⟨z, its2, k, r2, hl, e⟩ := I1.lstM upd_same
    have ht : (xs.take i).length = i := by rw [List.length_take]; omega
    refine wpAny_bind (wpAny_updateSeq e rfl (wpAny_pure ⟨plainId_quiet PySem.F.plain_extend_loop _, ?_⟩) (by rw [List.size_toArray]; omega) (by show (its2.toArray.push u).size ≤ sizeLine + 1; rw [Array.size_push, List.size_toArray]; omega))
    have I2 := I1.lset (f := (·.push u)) (its' := its2 ++ [u]) (t' := s.toks) upd_same e (by simp) (r2.append (.cons ru .nil)) (by rw [List.length_append, List.length_singleton]; omega)
    have et : xs.take i ++ [xs[i]] = xs.take (i + 1) := (List.take_append_getElem hlt)
    rw [upd_upd, et] at I2
    refine ih (i + 1) _ (by omega) I2 ⟨?_, f1, f2, f3, f4, f5⟩ (st'.at fun o e => ?_)
    · rw [upd_ne hne] at f0 ⊢
      exact f0
    · rw [← e]
      exact Heap.get?_update_ne _ _ _ _ hne
theorem hint_own {Q : Bool → Shared → Prop} {E : Value → Shared → Prop} {x : Addr} {ox : Obj} {od : Option Obj} {A : Around} (L : LsC X.K C fi fl) (hK : X.K.In s.heap) (J : PySem.W.InstAt s.heap x ox C od)
    (h : wpAny (model X.prog X.w) A.in1 (call (.ref fl) [.ref x]) (fun v s' => ∃ n t, v = .int n t ∧ 0 ≤ n ∧ n < 2 ^ 63 ∧ Builtin.List.listTooLong n.toNat = false ∧ ∀ b, Q b { s' with toks := s'.toks + 1 }) (fun _ _ => False) s) :
    wpAny (model X.prog X.w) A (Builtin.List.listLengthHint (.ref x)) Q E s := by
  unfold Builtin.List.listLengthHint
  refine wpAny_bind (wpAny_bind (J.type.here ((PySem.W.looks_findIn hK L.ln).here ?_)))
  refine PySem.W.KFB.if_not rfl ?_
  show wpAny _ _ (if true = true then _ else _) _ _ _
  rw [if_pos rfl]
  refine wpAny_bind (wpAny_rule ?_)
  refine wpAny_bind (wpAny_attempt (len_own hK J L.ln L.lnF (wpAny_mono h (fun v s' q => ?_) fun _ _ z => z.elim)))
  obtain ⟨n, t, rfl, h0, h1, h2, q⟩ := q
  refine ⟨n, t, rfl, h0, h1, ?_⟩
  refine wpAny_bind (m := asInt? (.int n s'.toks)) (wpAny_of_eq (a := some n) rfl ?_)
  show wpAny _ _ (if Builtin.List.listTooLong n.toNat = true then _ else _) _ _ _
  rw [if_neg (by rw [h2]; exact Bool.false_ne_true)]
  exact wpAny_pure (q _)
theorem in1_still {A : Around} (h : Still A) : Still A.in1 := h
/-- list(x) -/
def rLs (K : PySem.W.Frag) (C : Addr) (fld : Str) : List V → Hp → VK → Prop := fun vs H Q => ∃ x dx fs a xs, vs = [.ref x] ∧ H x = some (.ins C dx fs) ∧ fs.lookup fld = some (.ref a) ∧ SqT K H a xs ∧ ∀ q, H q = none → Q (.ref q) (upd H q (.lst xs))
theorem call_listIt (hc : X.calm = true) (hst : Still X.A) (L : LsC X.K C fi fl) (FI : FnN X.prog X.w X.K X.mg X.base n fi fdI psI (spIt X.K C fld)) (bI : Binds X.K fdI psI []) (FL : FnN X.prog X.w X.K X.mg X.base n fl fdL psL (spLn X.K C fld)) (bL : Binds X.K fdL psL []) (hr : Room (n + 3) X.A) :
    CallR X (.type "list") (rLs X.K C fld) := by
  intro pins s σ H vs us Q I rv h
  obtain ⟨x, dx, fs, a, xs, rfl, ha, hfl, hq, q⟩ := h
  obtain ⟨u, rfl, ru⟩ := rv.one
  cases ru
  have sb : Sub X (n + 1) X.A.in1.in1 := (Sub.in1 (Sub.in1 (⟨hr, rfl⟩ : Sub X (n + 3) X.A)))
  have hd : X.A.handled = none := I.ok.hd hc
  refine callType_codes (Q₁ := fun obj s₁ => obj = .ref s.heap.objs.size ∧ s₁ = { s with heap := s.heap.push { cls := .type "list", data := .seq #[] } }) PySem.F.called_list (PySem.F.typeCall_list_1 _) PySem.F.entry_list_init
    (code_list_new _ ⟨rfl, rfl⟩) fun obj s₁ h₁ => ?_
  obtain ⟨rfl, rfl⟩ := h₁
  have hS : (s.heap.push { cls := .type "list", data := .seq #[] }).get? s.heap.objs.size = some { cls := .type "list", data := .seq #[] } := Heap.get?_push_size _ rfl
  refine ⟨⟨_, hS, rfl⟩, PySem.F.args_list_init_2 _ _, ?_⟩
  have fr : H s.heap.objs.size = none := I.hok.fresh (Nat.le_refl _)
  generalize hqe : s.heap.objs.size = p at *
  have I1 : Inv X pins σ (upd H p (.lst [])) { s with heap := s.heap.push { cls := .type "list", data := .seq #[] } } := by rw [← hqe]; exact I.lnew (its := []) (t' := s.toks) .nil (Nat.zero_le _)
  show wpAny _ _ (do let old ← Builtin.List.listItems (.ref p); Builtin.List.listUpdate (.ref p) (fun _ => #[]); letGo old.toList.reverse; Builtin.List.listExtendWith (.ref p) (.ref x) .none) _ _ _
  refine wpAny_bind ?_
  unfold Builtin.List.listItems
  refine wpAny_bind (wpAny_seqItems hS rfl (wpAny_pure ?_))
  show wpAny _ _ (updateSeq p (fun _ => #[]) >>= fun _ => letGo (#[] : Array Value).toList.reverse >>= fun _ => Builtin.List.listExtendWith (.ref p) (.ref x) .none) _ _ _
  refine wpAny_bind (wpAny_updateSeq hS rfl ?_)
  have I2 := I1.lset (f := fun _ => #[]) (its := []) (its' := []) (ys := []) (t' := s.toks) upd_same hS rfl .nil (Nat.zero_le _)
  rw [upd_upd] at I2
  refine wpAny_bind (wpAny_letGo ?_)
  have ha2 : upd H p (.lst []) x = some (.ins C dx fs) := by rw [upd_ne (ne_of_none ha fr)]; exact ha
  revert I2
  generalize hs2 : ({ heap := ({ s with heap := s.heap.push { cls := .type "list", data := .seq #[] } } : Shared).heap.update p (Obj.mapSeq fun x => #[]), gens := s.gens, drawn := s.drawn, toks := s.toks, os := s.os } : Shared) = s2
  intro I2
  have e2 : ({ heap := ({ s with heap := s.heap.push { cls := .type "list", data := .seq #[] } } : Shared).heap.update p (Obj.mapSeq fun x => #[]), gens := s.gens, drawn := s.drawn, toks := s.toks, os := s.os } : Shared) = s2 := hs2
  have hne : p ≠ x := fun z => by rw [z, ha] at fr; cases fr
  obtain ⟨mA, J, _⟩ := ins_get I2.hok ha2
  obtain ⟨od, J, _⟩ := J.look
  obtain ⟨m0, hF⟩ := I2.fr
  have hq1 : SqT X.K (upd H p (.lst [])) a xs := seqT_same (same_upd fr) hq
  show wpAny _ _ _ _ _ s2
  unfold Builtin.List.listExtendWith
  refine wpAny_bind (J.type.here ?_)
  have h1 : Builtin.List.listSameRef (.ref p) (.ref x) = false := by simp [Builtin.List.listSameRef, hne]
  have h2 : (Value.ref C == Value.type "list") = false := rfl
  have h3 : (Value.ref C == Value.type "tuple") = false := rfl
  simp only [h1, h2, h3, Bool.or_false, Bool.false_eq_true, if_false]
  refine wpAny_bind (PySem.W.owit_iter hF I2.ok.mod.kin J L.it L.itF ?_)
  have r2 : Vals [V.ref x] [Value.ref x] := .cons rfl .nil
  have hsp : spIt X.K C fld s2.heap.objs.size [.ref x] (upd H p (.lst [])) (fun v H' => ∃ it, v = .ref it ∧ upd H p (.lst []) it = none ∧ s2.heap.objs.size ≤ it ∧ H' = upd (upd H p (.lst [])) it (ItT a it)) L2.E0 :=
    ⟨x, dx, fs, a, xs, rfl, ha2, hfl, hq1, fun it nn le => ⟨it, rfl, nn, le, rfl⟩⟩
  have hl := FI.many _ _ _ _ _ hsp
  refine wpAny_call (codeAny_mono (FI.does X.A.in1.in1 X.stack s2 _ ⟨[.ref x], []⟩ [.ref x] [.ref x] _ L2.E0 (in1_still (in1_still hst)) (sb.mono (Nat.le_succ _)).room (env0_sub I2 sb) (by
    have := bI s2 [.ref x] I2.kIn (by simpa using hl)
    simpa using this) r2 hsp) fun r s' hq' => ?_)
  match r, hq' with
  | .error e, hq' => exact hq'.elim
  | .ok .next, hq' => exact hq'.elim
  | .ok .brk, hq' => exact hq'.elim
  | .ok .cont, hq' => exact hq'.elim
  | .ok (.ret u), hq' =>
    obtain ⟨v, H', I', rv', it, rfl, nit, le, rfl⟩ := I2.after hq'
    cases rv'
    have hit : s'.heap.IsTupleIter it a 0 := (I'.hok it _ upd_same).1
    have np : it ≠ p := fun z => by rw [z, upd_same] at nit; cases nit
    have nx : it ≠ x := fun z => by rw [z, ha2] at nit; cases nit
    have young : X.s_0.heap.objs.size ≤ it := Nat.le_trans I2.sz le
    show PySem.W.OwitIt _ _ _ _ _ _
    unfold PySem.W.OwitIt
    refine wpAny_specialOf (name := Str.ofString "__next__") hit.typeIs PySem.F.slot_tuple_iterator_next.lookup ?_
    have fin : ∀ s5, Inv X pins σ (upd (upd H p (.lst [])) it (ItT a it)) s5 → codeAny (model X.prog X.w) X.A.in1 (.builtin "list.extend.loop" ⟨[.ref p, .ref it, .none], []⟩) (wants (fun r s₂ => r = Value.none ∧ EP X pins σ Q (Value.ref p) s₂) X.xe) s5 := by
      intro s5 I5
      have hit5 : s5.heap.IsTupleIter it a 0 := (I5.hok it _ upd_same).1
      have I6 := ItX.inv_drop I5 (show _ = some (.ext _) from upd_same)
      have f6 := ItX.inv_fp I5 upd_same young
      rw [ItX.dropH_upd nit] at I6 f6
      obtain ⟨_, _, _, hz⟩ := I6.tuple hq1
      exact tup_loop (A1 := X.A.in1) hd fr np (fun s7 I7 => ⟨rfl, .ref p, _, I7, rfl, q p fr⟩) hz hq xs.length 0 s5 (by omega) I6 f6 hit5
    have ha3 : upd (upd H p (.lst [])) it (ItT a it) x = some (.ins C dx fs) := by rw [upd_ne nx.symm]; exact ha2
    have hq3 : SqT X.K (upd (upd H p (.lst [])) it (ItT a it)) a xs := seqT_same (same_upd nit) hq1
    obtain ⟨mA3, J3, _⟩ := ins_get I'.hok ha3
    obtain ⟨od3, J3, _⟩ := J3.look
    obtain ⟨_, _, _, hz⟩ := I'.tuple hq3
    have hsl : spLn X.K C fld s'.heap.objs.size [.ref x] (upd (upd H p (.lst [])) it (ItT a it)) (fun v H' => v = .int xs.length ∧ H' = upd (upd H p (.lst [])) it (ItT a it)) L2.E0 := ⟨x, dx, fs, a, xs, rfl, ha3, hfl, hq3, rfl, rfl⟩
    have hl3 := FL.many _ _ _ _ _ hsl
    refine wpAny_bind (wpAny_holding (hint_own L I'.kIn J3 (wpAny_call (codeAny_mono (FL.does X.A.in1.in1.in1 X.stack s' _ ⟨[.ref x], []⟩ [.ref x] [.ref x] _ L2.E0 (in1_still (in1_still (in1_still hst))) sb.in1.room (env0_sub I' sb.in1) (by
      have := bL s' [.ref x] I'.kIn (by simpa using hl3)
      simpa using this) r2 hsl) fun r s3 hq3' => ?_))))
    match r, hq3' with
    | .error e, hq' => exact hq'.elim
    | .ok .next, hq' => exact hq'.elim
    | .ok .brk, hq' => exact hq'.elim
    | .ok .cont, hq' => exact hq'.elim
    | .ok (.ret u), hq' =>
      obtain ⟨v, H', I3, rv', rfl, rfl⟩ := I'.after hq'
      obtain ⟨t, rfl⟩ := rv'
      have hz' : xs.length ≤ 16777216 := by rw [sizeLine_eq] at hz; exact hz
      refine ⟨_, t, rfl, by omega, by omega, ?_, fun b => ?_⟩
      · unfold Builtin.List.listTooLong
        simp
        first | omega | (rw [Nat.not_lt]; omega) | skip
      · have I4 : Inv X pins σ (upd (upd H p (.lst [])) it (ItT a it)) { s3 with toks := s3.toks + 1 } := I3.kept (t' := s3.toks + 1) fun _ _ q => q
        have hp4 : upd (upd H p (.lst [])) it (ItT a it) p = some (.lst []) := by rw [upd_ne np.symm, upd_same]
        obtain ⟨z, its, k, r3, hl3, e3⟩ := I4.lstM hp4
        cases r3
        refine wpAny_ite_split (fun _ => ?_) (fun _ => wpAny_pure ⟨plainId_quiet PySem.F.plain_extend_loop _, fin _ I4⟩)
        refine wpAny_bind (wpAny_rule ?_)
        refine wpAny_bind ?_
        show wpAny _ _ (updateSeq p (·.push .none) >>= fun _ => updateSeq p (·.pop)) _ _ _
        refine wpAny_bind (wpAny_updateSeq e3 rfl ?_)
        have I5 := I4.lset (f := (·.push Value.none)) (its' := [Value.none]) (ys := [.non]) (t' := s3.toks + 1) hp4 e3 (by simp) (.cons rfl .nil) (by rw [List.length_singleton, sizeLine_eq]; decide)
        obtain ⟨z4, its4, k4, r4, hl4, e4⟩ := I5.lstM upd_same
        obtain ⟨u4, rfl, ru4⟩ := r4.one
        refine wpAny_updateSeq e4 rfl ?_ (by show 1 ≤ sizeLine; rw [sizeLine_eq]; decide) (by show 0 ≤ sizeLine + 1; exact Nat.zero_le _)
        refine wpAny_pure ⟨plainId_quiet PySem.F.plain_extend_loop _, fin _ ?_⟩
        have I6 := I5.lset (f := (·.pop)) (its := [u4]) (its' := []) (ys := []) (t' := s3.toks + 1) upd_same e4 (by rfl) .nil (Nat.zero_le _)
        rw [upd_upd] at I6
        have hH : upd (upd (upd H p (.lst [])) it (ItT a it)) p (.lst []) = upd (upd H p (.lst [])) it (ItT a it) := by
          funext b
          by_cases hb : b = p
          · rw [hb, upd_same, hp4]
          · rw [upd_ne hb]
        rw [hH] at I6
        exact I6
end
end Sb

/-! Sb, part M17: list(x) by data, x maybe an instance of a class that is walked by a tuple of its own. -/
namespace Sb
open PySem PySem.Spec PyProof.Rows L2
def listBI (c fld : Str) : List D → Option (List D)
  | [.ins c' fs] => if c' = c then (match fs.lookup fld with | some (.tup xs) => some xs | _ => none) else none
  | ds => listB ds
/-- the class c is walked by the tuple in its field fld -/
structure LsF (P : Program) (w : World) (K : PySem.W.Frag) (mg : Str → Option Value) (base : Heap) (n : Nat) (c fld : Str) : Prop where
  ex : ∃ fi fl fdI psI fdL psL, LsC K (He.ga K c) fi fl ∧ FnN P w K mg base n fi fdI psI (spIt K (He.ga K c) fld) ∧ Binds K fdI psI [] ∧ FnN P w K mg base n fl fdL psL (spLn K (He.ga K c) fld) ∧ Binds K fdL psL []
theorem call_listDI {X : Cx} {K : PySem.W.Frag} {c fld : Str} {n : Nat} (L : LsF X.prog X.w X.K X.mg X.base n c fld) (eK : X.K = K) (hc : X.calm = true) (hst : Still X.A) (hr : Room (n + 3) X.A) : CallR X (.type "list") (rDnL K (listBI c fld)) := by
  subst eK
  obtain ⟨fi, fl, fdI, psI, fdL, psL, LC, FI, bI, FL, bL⟩ := L.ex
  intro pins s σ H xs us Q I rv z
  obtain ⟨F, ds, r, sm, rs, hf, q⟩ := z
  have other : listB ds = some r → _ := fun h => call_listD rfl pins s σ H xs us Q I rv ⟨F, ds, r, sm, rs, h, q⟩
  match ds, rs, hf, other with
  | [.ins c' fs], .cons (.ins hi rf) .nil, hf, _ =>
    simp only [listBI] at hf
    by_cases e : c' = c
    · subst e
      rw [if_pos rfl] at hf
      cases hl : fs.lookup fld with
      | none => rw [hl] at hf; cases hf
      | some d =>
        rw [hl] at hf
        obtain ⟨v, hv, rd⟩ := rf.get hl
        cases rd with
        | tup ht rt =>
          cases hf
          refine call_listIt hc hst LC FI bI FL bL hr pins s σ H _ us Q I rv ⟨_, _, _, _, _, rfl, sm _ _ hi, hv, seqT_same sm ht, fun p np => q p _ np rt⟩
        | _ => cases hf
    · rw [if_neg e] at hf
      cases hf
  | [], .nil, hf, other => exact other hf
  | [.non], _, hf, other => exact other hf
  | [.bl _], _, hf, other => exact other hf
  | [.int _], _, hf, other => exact other hf
  | [.str _], _, hf, other => exact other hf
  | [.scr _], _, hf, other => exact other hf
  | [.list _], _, hf, other => exact other hf
  | [.tup _], _, hf, other => exact other hf
  | [.cls _], _, hf, other => exact other hf
  | _ :: _ :: _, .cons _ (.cons _ _), hf, _ => simp [listBI, listB] at hf
theorem lsB_ok {K : PySem.W.Frag} {c : Str} {fi fl : Addr} (h : lsB K c fi fl = true) : LsC K (He.ga K c) fi fl := by
  simp only [lsB, Bool.and_eq_true, decide_eq_true_eq] at h
  exact ⟨h.1.1.1, h.1.1.2, h.1.2, h.2⟩
end Sb

/-! Sb, part H: the head's facts and defs at any address, over a small part of the heap. -/
namespace Sb
open PySem PySem.Spec PyProof.Rows L2

def SaysM (fs : List Fb) (fn : List He5.DefA) (K : PySem.W.Frag) : Prop := obsM fs fn K = He5.valA fn
def hookM (pick : (Addr → Option Obj) → List Addr) (fs : List Fb) (fn : List He5.DefA) : PySem.W.Hook :=
  ⟨He.AlD, fun s => lookM pick fs fn s.heap.get?, fun _ => He5.valA fn, fun _ h => ∃ K : PySem.W.Frag, K.In h ∧ SaysM fs fn K, fun _ _ e => ⟨_, He.frG_in, e⟩,
    fun _ _ _ z more => z.imp fun _ c => ⟨PySem.W.Frag.In.keeps c.1 more, c.2⟩⟩
theorem lookM_eq {pick : (Addr → Option Obj) → List Addr} {fs : List Fb} {fn : List He5.DefA} {g : Addr → Option Obj} {s : Shared} (h : ∀ a, g a = s.heap.get? a) : lookM pick fs fn g = (hookM pick fs fn).obs s := by
  cases funext h
  rfl
section
variable {fs : List Fb} {fn : List He5.DefA} {K : PySem.W.Frag}
theorem SaysM.fact (c : SaysM fs fn K) (i : Nat) {f : Fb} (at_ : fs[i]? = some f) : f K = true := by
  have both : (fs.all (fun f => f K) && fn.all (fun d => d.ok K)) = true := congrArg Prod.fst c
  exact List.all_eq_true.mp (Bool.and_eq_true_iff.mp both).1 f (List.mem_of_getElem? at_)
theorem SaysM.def_ (c : SaysM fs fn K) (i : Nat) {d : He5.DefA} (at_ : fn[i]? = some d) : ∃ fd, FunD K d.name d.qual d.params d.body d.scope (d.dvs K) (d.kws K) (d.at_ K) fd := by
  have both : (fs.all (fun f => f K) && fn.all (fun d => d.ok K)) = true := congrArg Prod.fst c
  have e : (fn.map fun d => He5.fnA K (d.at_ K))[i]? = (fn.map He5.DefA.val)[i]? := congrArg (·[i]?) (congrArg Prod.snd c)
  simp only [List.getElem?_map, at_, Option.map_some, Option.some.injEq] at e
  exact He5.DefA.funD e (List.all_eq_true.mp (Bool.and_eq_true_iff.mp both).2 d (List.mem_of_getElem? at_))
end
section
variable {K : PySem.W.Frag} {h : Heap} {mg : Str → Option Value}
theorem strAt_ok (X : K.In h) (G : h.Ns mainGlobals mg) {x v : Str} (c : strAtB K x v = true) : ∃ t, mg x = some (.str v t) := by
  unfold strAtB at c
  split at c
  · rename_i y t e
    rw [of_decide_eq_true c] at e
    exact ⟨t, PySem.W.mg_of X G e⟩
  · cases c
theorem gaB_ok (X : K.In h) (G : h.Ns mainGlobals mg) {x : Str} (c : gaB K x = true) : mg x = some (.ref (He.ga K x)) := PySem.W.mg_of X G (He.eqO_ok c)
theorem gaB_and (X : K.In h) (G : h.Ns mainGlobals mg) {x : Str} {b : Bool} (c : (gaB K x && b) = true) : mg x = some (.ref (He.ga K x)) ∧ b = true := by
  rw [Bool.and_eq_true] at c
  exact ⟨gaB_ok X G c.1, c.2⟩
theorem creadB_ok {C : Addr} (c : creadB K C = true) : ClX.CRead K C (.type "type") := by
  rw [creadB, Bool.and_eq_true] at c
  exact ⟨c.1, of_decide_eq_true c.2⟩
theorem cmetB_ok {C : Addr} {m : Str} (c : cmetB K C m = true) : ClX.CMet K C (.type "type") m (He.ma K C m) (He5.wf K C "classmethod" m) := by
  rw [cmetB, Bool.and_eq_true] at c
  exact He5.cmet_of c.1 c.2
theorem wantM {m : MF} {H : Hp} {a : Addr} {ns : List Int} {as : List Sl} (hS : SqL K H a (ns.map V.int)) (hm : m [.fr (.scr ns)] = .ok (.fr (.bl true)) as) : spM K 1 m [.ref a] H (fun v _ => v = .bl true) fun _ _ _ => False := by
  refine ⟨H, [.fr (.scr ns)], rfl, Same.refl _, ⟨rfl, fun i s e => ?_, fun i j xs ys v x => ?_⟩, ?_⟩
  · cases i with
    | zero => cases e; exact ⟨_, rfl, .scr hS⟩
    | succ i => simp at e
  · cases i with
    | zero => cases x
    | succ i => simp at x
  · rw [hm]
    intro v F' H' _ r
    cases r
    rfl
end
/-! ### the run in parts -/
theorem obsM_app {fs1 fs2 : List Fb} {fn1 fn2 : List He5.DefA} {K : PySem.W.Frag} (h1 : obsM fs1 fn1 K = He5.valA fn1) (h2 : obsM fs2 fn2 K = He5.valA fn2) : obsM (fs1 ++ fs2) (fn1 ++ fn2) K = He5.valA (fn1 ++ fn2) := by
  have a1 : (fs1.all (fun f => f K) && fn1.all (fun d => d.ok K)) = true := congrArg Prod.fst h1
  have a2 : (fs2.all (fun f => f K) && fn2.all (fun d => d.ok K)) = true := congrArg Prod.fst h2
  have b1 : (fn1.map fun d => He5.fnA K (d.at_ K)) = fn1.map He5.DefA.val := congrArg Prod.snd h1
  have b2 : (fn2.map fun d => He5.fnA K (d.at_ K)) = fn2.map He5.DefA.val := congrArg Prod.snd h2
  rw [Bool.and_eq_true] at a1 a2
  show (_, _) = (true, (fn1 ++ fn2).map He5.DefA.val)
  rw [List.all_append, List.all_append, List.map_append, List.map_append, a1.1, a1.2, a2.1, a2.2, b1, b2]
  rfl
theorem lookM_app {x : Option PySem.W.SharedT} {pick : (Addr → Option Obj) → List Addr} {fs1 fs2 : List Fb} {fn1 fn2 : List He5.DefA} (h1 : x.map (fun s => lookM pick fs1 fn1 (HandSHeadRun.getT s)) = some (He5.valA fn1))
    (h2 : x.map (fun s => lookM pick fs2 fn2 (HandSHeadRun.getT s)) = some (He5.valA fn2)) : x.map (fun s => lookM pick (fs1 ++ fs2) (fn1 ++ fn2) (HandSHeadRun.getT s)) = some (He5.valA (fn1 ++ fn2)) := by
  cases x with
  | none => cases h1
  | some s => exact congrArg some (obsM_app (Option.some.inj h1) (Option.some.inj h2))
open PySem.W HandSHeadRun in
theorem runEq_of {r : OpenRow} {q : Program} {H : Hook} {ob : SharedT → H.α} {M : Nat} {loose : List Str} {w : World}
    (h0 : ∀ os, (endF (stepQ (denQ tabQ) r.prog w) M r.prog w os).map (fun s => looksF r.prog (boot_heap w.params) s.abs) = some true)
    (h2 : ∀ os, (endF (stepQ (denQ tabQ) r.prog w) M r.prog w os).map (fun s => seenQ q loose (importedModules r.prog.main.body) (fun s => xlAt q [] s && recOk r.toRowW.records s) s.abs) = some (openGood q loose))
    (h1 : ∀ os, (endF (stepQ (denQ tabQ) r.prog w) M r.prog w os).map ob = some (H.val w)) : RunEq r q H ob M loose w := by
  intro os
  have a := h0 os
  have b := h1 os
  have c := h2 os
  revert a b c
  cases endF (stepQ (denQ tabQ) r.prog w) M r.prog w os with
  | none => intro a; cases a
  | some s =>
    intro a b c
    have a := Option.some.inj a
    have b := Option.some.inj b
    have c := Option.some.inj c
    exact congrArg some (Prod.ext a (Prod.ext c b))
open PySem.W HandSHeadRun in
theorem runEqZ_of {r : OpenRow} {q : Program} {H : Hook} {ob : SharedT → H.α} {M : Nat} {loose : List Str} {w : World}
    (h0 : ∀ os, (endZ M r.prog w os).map (fun s => looksF r.prog (boot_heap w.params) s.abs) = some true)
    (h2 : ∀ os, (endZ M r.prog w os).map (fun s => seenQ q loose (importedModules r.prog.main.body) (fun s => xlAt q [] s && recOk r.toRowW.records s) s.abs) = some (openGood q loose))
    (h1 : ∀ os, (endZ M r.prog w os).map ob = some (H.val w)) : RunEq r q H ob M loose w :=
  runEq_of (fun os => by rw [← endZ_eq]; exact h0 os) (fun os => by rw [← endZ_eq]; exact h2 os) (fun os => by rw [← endZ_eq]; exact h1 os)
/-! ### a small part of the heap, without the search for doubles -/
/-! ### isinstance of built-in classes needs no head -/
theorem isi_bt {K : PySem.W.Frag} {u : Value} {tab : List (TK × Bool)} (h : tab.all (fun e => match e.1 with | .c _ => false | _ => true) = true) (hk : ∀ e ∈ tab, PySem.W.kitOne K (valOf K e.1) u = some e.2) : IsiF K u tab := by
  refine ⟨fun k b m => hk _ m, fun x b m => ?_⟩
  have := List.all_eq_true.mp h _ m
  cases this
end Sb

set_option maxHeartbeats 1000000
/-! Sb, part D1: dicts on the mirror road: d[k], k in d, d[k] = v, {}, {k: v, ..}, len(d), list(d). -/
namespace Sb
open PySem PySem.Spec PyProof.Rows L2

/-! ### keys -/
section
variable {X : Cx} {pins : List (Addr × Obj)} {σ : L2.St} {H F : Hp} {s : Shared}
mutual
theorem key_nk (I : Inv X pins σ H s) (sm : Same F H) : ∀ (d : D) (v : V) (u : Value) (k : NestedKey), Rep X.K F v d → RelV v u → nkOf d = some k → NestedIs s.heap k u
  | .non, _, u, k, .non, r, e => by
    cases e
    cases (show u = Value.none from r)
    exact .none
  | .bl b, _, u, k, .bl _, r, e => by
    cases e
    cases (show u = Value.bool b from r)
    exact .bool rfl
  | .int i, _, u, k, .int _, r, e => by
    cases e
    obtain ⟨t, rfl⟩ := (show ∃ t, u = Value.int i t from r)
    exact .int i t
  | .str x, _, u, k, .str _, r, e => by
    cases e
    obtain ⟨t, rfl⟩ := (show ∃ t, u = Value.str x t from r)
    exact .text x t
  | .tup ds, _, u, k, .tup (a := a) h rs, r, e => by
    rw [nkOf] at e
    obtain ⟨ks, e1, rfl⟩ := Option.map_eq_some_iff.mp e
    cases (show u = Value.ref a from r)
    obtain ⟨its, rv, ⟨o, h1, h2, n, h3⟩, _⟩ := I.tuple (seqT_same sm h)
    exact .tup h1 h2 h3 (by simpa using keys_nk I sm ds _ its ks rs rv e1)
  | .scr _, _, _, _, _, _, e => by rw [nkOf] at e; cases e
  | .list _, _, _, _, _, _, e => by rw [nkOf] at e; cases e
  | .ins _ _, _, _, _, _, _, e => by rw [nkOf] at e; cases e
  | .cls _, _, _, _, _, _, e => by rw [nkOf] at e; cases e
  | .dict _ _, _, _, _, _, _, e => by rw [nkOf] at e; cases e
theorem keys_nk (I : Inv X pins σ H s) (sm : Same F H) : ∀ (ds : List D) (vs : List V) (us : List Value) (ks : List NestedKey), Reps X.K F vs ds → Vals vs us → nksOf ds = some ks → NestedAll s.heap ks us
  | [], _, _, _, .nil, .nil, e => by rw [nksOf] at e; cases e; exact .nil
  | d :: ds, _, _, _, .cons r rs, .cons q qs, e => by
    rw [nksOf] at e
    obtain ⟨k, e1, e2⟩ := Option.bind_eq_some_iff.mp e
    obtain ⟨ks, e3, rfl⟩ := Option.map_eq_some_iff.mp e2
    exact .cons (key_nk I sm d _ _ k r q e1) (keys_nk I sm ds _ _ ks rs qs e3)
end
/-- how the rows of the heap go with the entries and the data -/
abbrev EsX : List (Int × V × V) → List Rw → Prop := Paired fun e x => RelV e.2.1 x.2.1 ∧ RelV e.2.2 x.2.2
abbrev KvX : List (D × D) → List Rw → Prop := Paired fun p x => nkOf p.1 = some x.1
theorem rows_nk (I : Inv X pins σ H s) (sm : Same F H) {w : World} : ∀ {es : List (Int × V × V)} {kvs : List (D × D)} {ys : List DictEntry}, RepD X.K F w es kvs →
    Paired (fun (e : Int × V × V) (x : DictEntry) => e.1 = x.hash ∧ RelV e.2.1 x.key ∧ RelV e.2.2 x.val) es ys →
    ∃ xs : List Rw, ys = xs.map (entN w) ∧ (∀ x ∈ xs, NestedIs s.heap x.1 x.2.1 ∧ x.1.depth ≤ 8) ∧ EsX es xs ∧ KvX kvs xs
  | _, _, _, .nil, .nil => ⟨[], rfl, fun _ z => (nomatch z), .nil, .nil⟩
  | _, _, _, .cons (k := k) n1 n2 n3 r1 r2 rs, .cons (b := y) q qs => by
    obtain ⟨xs, e, all, p1, p2⟩ := rows_nk I sm rs qs
    obtain ⟨q1, q2, q3⟩ := q
    refine ⟨(k, y.key, y.val) :: xs, ?_, fun x m => ?_, .cons ⟨q2, q3⟩ p1, .cons n1 p2⟩
    · rw [List.map_cons, e]
      obtain ⟨hh, kk, vv⟩ := y
      dsimp only at q1
      rw [← q1, n3]
      rfl
    · rcases List.mem_cons.mp m with rfl | m
      · exact ⟨key_nk I sm _ _ _ _ r1 q2 n1, n2⟩
      · exact all x m
theorem KvX.keys : ∀ {kvs : List (D × D)} {xs : List Rw}, KvX kvs xs → (kvs.map fun p => nkOf p.1) = (xs.map (·.1)).map some
  | _, _, .nil => rfl
  | _, _, .cons h t => by rw [List.map_cons, List.map_cons, List.map_cons, h, KvX.keys t]
theorem nodup_some {α : Type} : ∀ {l : List α}, (l.map some).Nodup → l.Nodup
  | [], _ => List.nodup_nil
  | a :: l, h => by
    obtain ⟨h1, h2⟩ := List.nodup_cons.mp (show (some a :: l.map some).Nodup from h)
    exact List.nodup_cons.mpr ⟨fun m => h1 (List.mem_map.mpr ⟨a, m, rfl⟩), nodup_some h2⟩
/-- the dict that stands at a -/
theorem dict_nk (I : Inv X pins σ H s) (sm : Same F H) {w : World} {a : Addr} {o : Obj} {es : List (Int × V × V)} {kvs : List (D × D)} (ha : H a = some (ObjO a o)) (k : DctOk a o es) (r : RepD X.K F w es kvs) (nd : (kvs.map fun p => nkOf p.1).Nodup) :
    ∃ xs : List Rw, DictN w s.heap a xs ∧ xs.length ≤ sizeLine ∧ EsX es xs ∧ KvX kvs xs := by
  obtain ⟨ys, ep, hd, pr⟩ := k.at_
  obtain ⟨xs, e, all, p1, p2⟩ := rows_nk I sm r pr
  refine ⟨xs, ⟨o, ys, ep, objO_at I.hok ha, k.ex, hd, e, fun x m => (all x m).1, fun x m => (all x m).2, ?_⟩, ?_, p1, p2⟩
  · rw [p2.keys] at nd
    exact nodup_some nd
  · rw [← Paired.length p1]
    exact k.few
end
/-! ### tables -/
def dFind (k : NestedKey) : List (D × D) → Option D
  | [] => none
  | (a, b) :: r => if nkOf a = some k then some b else dFind k r
def dPut (k : NestedKey) (d e : D) : List (D × D) → List (D × D)
  | [] => [(d, e)]
  | (a, b) :: r => if nkOf a = some k then (a, e) :: r else (a, b) :: dPut k d e r
def putR (k : NestedKey) (key v : Value) : List Rw → List Rw
  | [] => [(k, key, v)]
  | x :: r => if x.1 = k then (x.1, x.2.1, v) :: r else x :: putR k key v r
def putE (k : NestedKey) (i : Int) (v u : V) : List (D × D) → List (Int × V × V) → List (Int × V × V)
  | (a, _) :: r, e :: es => if nkOf a = some k then (e.1, e.2.1, u) :: es else e :: putE k i v u r es
  | _, es => es ++ [(i, v, u)]
theorem putN_putR {k : NestedKey} {key v : Value} : ∀ {xs : List Rw}, (xs.map (·.1)).Nodup → putN xs k key v = putR k key v xs
  | [], _ => rfl
  | x :: xs, nd => by
    obtain ⟨n1, n2⟩ := List.nodup_cons.mp (show (x.1 :: xs.map (·.1)).Nodup from nd)
    have ih := putN_putR (k := k) (key := key) (v := v) n2
    unfold putN at ih ⊢
    rw [putR]
    by_cases e : x.1 = k
    · rw [if_pos e, if_pos (by simp [e]), List.map_cons, chgN, if_pos e]
      have rest : xs.map (chgN k v) = xs := by
        refine (List.map_congr_left fun z m => ?_).trans (List.map_id _)
        unfold chgN
        rw [if_neg fun q => n1 (by rw [e, ← q]; exact List.mem_map.mpr ⟨z, m, rfl⟩)]
        rfl
      rw [rest]
    · rw [if_neg e, ← ih]
      by_cases h : (xs.any fun x => decide (x.1 = k)) = true
      · rw [if_pos h, if_pos (by rw [List.any_cons, h, Bool.or_true]), List.map_cons, chgN, if_neg e]
      · rw [if_neg h, if_neg (by rw [List.any_cons, decide_eq_false e, Bool.false_or]; exact h)]
        rfl
section
variable {K : PySem.W.Frag} {F : Hp} {w : World}
theorem find_rel {k : NestedKey} : ∀ {es : List (Int × V × V)} {kvs : List (D × D)} {xs : List Rw}, RepD K F w es kvs → EsX es xs → KvX kvs xs →
    (∀ e, dFind k kvs = some e → ∃ u v, atN xs k = some u ∧ RelV v u ∧ Rep K F v e) ∧ (dFind k kvs = none → atN xs k = none)
  | _, _, _, .nil, .nil, .nil => ⟨fun e h => (by cases h), fun _ => rfl⟩
  | _, (a, b) :: kvs, x :: xs, .cons n1 n2 n3 r1 r2 rs, .cons q qs, .cons h hs => by
    obtain ⟨f1, f2⟩ := find_rel (k := k) rs qs hs
    have h : nkOf a = some x.1 := h
    by_cases e : x.1 = k
    · have c : nkOf a = some k := by rw [h, e]
      rw [dFind, if_pos c]
      have at_ : atN (x :: xs) k = some x.2.2 := by simp [atN, e]
      exact ⟨fun e' he => by cases he; exact ⟨x.2.2, _, at_, q.2, r2⟩, fun z => by cases z⟩
    · have c : ¬ nkOf a = some k := by rw [h]; simpa using e
      rw [dFind, if_neg c]
      have at_ : atN (x :: xs) k = atN xs k := by simp [atN, e]
      rw [at_]
      exact ⟨f1, f2⟩
theorem put_rel {k : NestedKey} {v u : V} {d e : D} {key val : Value} (hk : nkOf d = some k) (h8 : k.depth ≤ 8) (rd : Rep K F v d) (re : Rep K F u e) (qk : RelV v key) (qv : RelV u val) :
    ∀ {es : List (Int × V × V)} {kvs : List (D × D)} {xs : List Rw}, RepD K F w es kvs → EsX es xs → KvX kvs xs →
      RepD K F w (putE k (k.hash w) v u kvs es) (dPut k d e kvs) ∧ EsX (putE k (k.hash w) v u kvs es) (putR k key val xs) ∧ KvX (dPut k d e kvs) (putR k key val xs) ∧
      (Paired (fun (e : Int × V × V) (x : DictEntry) => e.1 = x.hash ∧ RelV e.2.1 x.key ∧ RelV e.2.2 x.val) es (xs.map (entN w)) →
        Paired (fun (e : Int × V × V) (x : DictEntry) => e.1 = x.hash ∧ RelV e.2.1 x.key ∧ RelV e.2.2 x.val) (putE k (k.hash w) v u kvs es) ((putR k key val xs).map (entN w)))
  | _, _, _, .nil, .nil, .nil => ⟨.cons hk h8 rfl rd re .nil, .cons ⟨qk, qv⟩ .nil, .cons hk .nil, fun _ => .cons ⟨rfl, qk, qv⟩ .nil⟩
  | (i, a', b') :: es, (a, b) :: kvs, x :: xs, .cons n1 n2 n3 r1 r2 rs, .cons q qs, .cons h hs => by
    obtain ⟨p1, p2, p3, p4⟩ := put_rel hk h8 rd re qk qv rs qs hs
    have h : nkOf a = some x.1 := h
    by_cases c : x.1 = k
    · have ca : nkOf a = some k := by rw [h, c]
      rw [putE, dPut, putR, if_pos ca, if_pos ca, if_pos c]
      refine ⟨.cons n1 n2 n3 r1 re rs, .cons ⟨q.1, qv⟩ qs, .cons h hs, fun z => ?_⟩
      rw [List.map_cons] at z ⊢
      cases z with
      | cons z zs => exact .cons ⟨z.1, z.2.1, qv⟩ zs
    · have ca : ¬ nkOf a = some k := by rw [h]; simpa using c
      rw [putE, dPut, putR, if_neg ca, if_neg ca, if_neg c]
      refine ⟨.cons n1 n2 n3 r1 r2 p1, .cons q p2, .cons h p3, fun z => ?_⟩
      rw [List.map_cons] at z ⊢
      cases z with
      | cons z zs => exact .cons z (p4 zs)
end
theorem length_putE {k : NestedKey} {i : Int} {v u : V} : ∀ (kvs : List (D × D)) (es : List (Int × V × V)), (putE k i v u kvs es).length ≤ es.length + 1
  | [], es => by simp [putE]
  | (_, _) :: _, [] => by simp [putE]
  | (a, b) :: kvs, e :: es => by
    rw [putE]
    split
    · simp
    · have := length_putE (k := k) (i := i) (v := v) (u := u) kvs es
      rw [List.length_cons, List.length_cons]
      omega
/-! ### rules by values -/
/-- the key d of the dict c -/
noncomputable def dixD (w : World) : D → D → Option D
  | .dict w' kvs, d => open Classical in if w' = w then (nkOf d).bind fun k => if k.depth ≤ 8 then dFind k kvs else none else none
  | c, d => ixD c d
section
variable {X : Cx}
def rIxN (X : Cx) : R2 := fun x y H Q => ∃ F w kvs d k e, Same F H ∧ w = X.w ∧ Rep X.K F x (.dict w kvs) ∧ Rep X.K F y d ∧ nkOf d = some k ∧ k.depth ≤ 8 ∧ dFind k kvs = some e ∧ ∀ v, Rep X.K F v e → Q v H
theorem in1_room (hr : X.A.units + 64 < cLine) : X.A.in1.units + 8 < cLine := by
  rw [Around.in1_units]
  omega
theorem ix_dct (hr : X.A.units + 64 < cLine) : IxR X (rIxN X) := by
  intro value slice pins s σ H x y v u Q I rx ry h hs
  obtain ⟨F, w, kvs, d, k, e, sm, rfl, rp, rd, hk, h8, hf, q⟩ := h
  cases rp with
  | @dict a o es _ _ ha ok r nd =>
    cases rx
    obtain ⟨xs, dn, few, p1, p2⟩ := dict_nk I sm (sm _ _ ha) ok r nd
    obtain ⟨z, v', hz, rz, re⟩ := (find_rel r p1 p2).1 e hf
    exact subscriptTail_builtinR (x := z) dn.typeIs slot_dict_getitem.lookup
      (item_nk (in1_room hr) (key_nk I sm d _ _ k rd ry hk) h8 dn hz ⟨rfl, v', H, I.tok _, rz, q v' re⟩) hs
theorem op_dinD {K : PySem.W.Frag} {w : World} (eK : X.K = K) (ew : X.w = w) (hr : X.A.units + 64 < cLine) (neg : Bool) : OpR X (compareOp (if neg = true then .NotIn else .In)) (rD2 K fun d c => match c with
    | .dict w' kvs => open Classical in if w' = w then (nkOf d).bind fun k => if k.depth ≤ 8 then some (.bl ((dFind k kvs).isSome != neg)) else none else none
    | _ => none) := by
  subst eK ew
  intro pins s σ H x y v u Q I rx ry h
  obtain ⟨F, d, c, r, sm, rd, rc, hf, q⟩ := h
  cases c with
  | dict w' kvs =>
    dsimp only at hf
    split at hf
    · rename_i ew
      subst ew
      obtain ⟨k, hk, hf⟩ := Option.bind_eq_some_iff.mp hf
      split at hf
      · rename_i h8
        cases hf
        cases rc with
        | @dict a o es _ _ ha ok rr nd =>
          cases ry
          obtain ⟨xs, dn, few, p1, p2⟩ := dict_nk I sm (sm _ _ ha) ok rr nd
          have same : (atN xs k).isSome = (dFind k kvs).isSome := by
            cases hd : dFind k kvs with
            | none => rw [(find_rel rr p1 p2).2 hd]; rfl
            | some e =>
              obtain ⟨z, v', hz, _⟩ := (find_rel rr p1 p2).1 e hd
              rw [hz]; rfl
          have key := key_nk I sm d _ _ k rd rx hk
          have fin := q (.bl ((dFind k kvs).isSome != neg)) F H (Nw.refl sm) (.bl _)
          cases neg with
          | false =>
            refine in_nk (in1_room hr) key h8 ok.sys dn ⟨_, H, I.tok _, ?_, fin⟩
            rw [same, Bool.bne_false]
            rfl
          | true =>
            refine nin_nk (in1_room hr) key h8 ok.sys dn ⟨_, H, I.tok _, ?_, fin⟩
            rw [same, Bool.bne_true]
            rfl
      · cases hf
    · cases hf
  | _ => cases hf
end
end Sb

set_option maxHeartbeats 1000000
/-! Sb, part D2: dicts on the mirror road: the rules of expressions and statements. -/
namespace Sb
open PySem PySem.Spec PyProof.Rows L2

/-! ### d[k], k in d -/
noncomputable def dinD (w : World) (neg : Bool) : D → D → Option D := fun d c => match c with
  | .dict w' kvs => open Classical in if w' = w then (nkOf d).bind fun k => if k.depth ≤ 8 then some (.bl ((dFind k kvs).isSome != neg)) else none else none
  | _ => none
section
variable {X : Cx} {M : MC} {E : L2.St → XK} {a b e : Expr} {ga gb : ME} {gl : ML} {pos p : Pos} {w : World}
theorem me_dix (eK : X.K = M.K) (ew : X.w = w) (hr : X.A.units + 64 < cLine) (ha : PE X a (mE M E ga)) (hb : PE X b (mE M E gb)) (hs : PlainIx b := by exact fun _ _ => rfl) : PE X (.Subscript a b pos) (mE M E (bin2 (dixD w) ga gb)) :=
  pe_imp (pe_ix (IxR.or ix_seq (ix_dct hr)) ha hb hs) fun σ H Q z => by
    subst ew
    obtain ⟨F, l, st, w⟩ := z
    refine ⟨F, l, st, (wR.bind w).mono fun d l1 F1 H1 g1 st1 w1 v rv => ?_⟩
    refine ⟨F1, l1, st1, (wR.bind w1).mono fun e l2 F2 H2 g2 st2 w2 u ru => ?_⟩
    have rv2 := rv.up g2.ext
    cases hf : dixD X.w d e with
    | none => rw [hf] at w2; exact w2.elim
    | some r =>
      rw [hf] at w2
      have fin : ∀ v, Rep M.K F2 v r → Q v H2 := fun v rv => w2 F2 H2 (Gr.refl _ _ _ _) st2 v rv
      cases d with
      | dict w' kvs =>
        have hf : (open Classical in if w' = X.w then (nkOf e).bind fun k => if k.depth ≤ 8 then dFind k kvs else none else none) = some r := hf
        split at hf
        · rename_i ew
          obtain ⟨k, hk, hf⟩ := Option.bind_eq_some_iff.mp hf
          split at hf
          · rename_i h8
            exact .inr ⟨F2, w', kvs, e, k, r, st2.sub, ew, by rw [eK]; exact rv2, by rw [eK]; exact ru, hk, h8, hf, by rw [eK]; exact fin⟩
          · cases hf
        · cases hf
      | _ => exact .inl (by rw [eK]; exact ixD_ok st2.sub rv2 ru hf fin)
theorem op_dinW (eK : X.K = M.K) (ew : X.w = w) (hr : X.A.units + 64 < cLine) : OpR X (compareOp .In) (rD2 M.K (dinD w false)) := op_dinD eK ew hr false
theorem op_dninW (eK : X.K = M.K) (ew : X.w = w) (hr : X.A.units + 64 < cLine) : OpR X (compareOp .NotIn) (rD2 M.K (dinD w true)) := op_dinD eK ew hr true
end

/-! ### len(d), list(d) -/
def lenBD : List D → Option D
  | [.dict _ kvs] => some (.int kvs.length)
  | ds => lenB ds
def listBD : List D → Option (List D)
  | [.dict _ kvs] => some (kvs.map (·.1))
  | ds => listB ds
section
variable {X : Cx} {K : PySem.W.Frag}
theorem dct_raw {pins : List (Addr × Obj)} {σ : L2.St} {H : Hp} {s : Shared} {a : Addr} {o : Obj} {es : List (Int × V × V)} (I : Inv X pins σ H s) (ha : H a = some (ObjO a o)) (k : DctOk a o es) :
    ∃ xs ep, s.heap.DictRaw a xs ep ∧ xs.size = es.length ∧ ∀ (i : Nat) (e : Int × V × V), es[i]? = some e → ∃ x, xs[i]? = some x ∧ RelV e.2.1 x.key := by
  obtain ⟨xs, ep, hd, pr⟩ := k.at_
  refine ⟨xs, ep, ⟨o, objO_at I.hok ha, k.ex, hd⟩, by rw [Paired.length pr, Array.length_toList], fun i e h => ?_⟩
  have g : ∀ {es : List (Int × V × V)} {ys : List DictEntry} {i : Nat} {e : Int × V × V}, Paired (fun (e : Int × V × V) (x : DictEntry) => e.1 = x.hash ∧ RelV e.2.1 x.key ∧ RelV e.2.2 x.val) es ys → es[i]? = some e → ∃ y, ys[i]? = some y ∧ RelV e.2.1 y.key := by
    intro es ys i e p
    induction p generalizing i with
    | nil => intro z; simp at z
    | cons r t ih =>
      intro z
      cases i with
      | zero => cases z; exact ⟨_, rfl, r.2.1⟩
      | succ i => simpa using ih (by simpa using z)
  obtain ⟨y, hy, ry⟩ := g pr h
  exact ⟨y, by rw [← Array.getElem?_toList]; exact hy, ry⟩
theorem call_lenDD (eK : X.K = K) : CallR X (.builtin "len") (rDn K lenBD) := by
  intro pins s σ H xs us Q I r h
  obtain ⟨F, ds, r', sm, rs, hf, q⟩ := id h
  match ds, rs, hf with
  | [.dict w kvs], .cons (.dict (a := a) (o := o) (es := es) ha k rr nd) .nil, hf =>
    cases hf
    obtain ⟨u, rfl, ru⟩ := vals1 r
    cases ru
    obtain ⟨ys, ep, raw, sz, _⟩ := dct_raw I (sm _ _ ha) k
    have n : (ys.size : Int) = kvs.length := by rw [sz, rr.length]
    have few : ys.size ≤ sizeLine := by rw [sz]; exact k.few
    refine PyProof.Rows.call_len_slot (n := ys.size) raw.typeIs PySem.F.slot_dict_len (fun Q' hq => call_len_raw k.sys raw hq) (by omega) (by rw [sizeLine_eq] at few; omega) ?_
    refine ⟨.int kvs.length, H, I.tok _, ⟨_, by rw [n]⟩, q _ F H (Nw.refl sm) (.int _)⟩
  | [.non], rs, hf | [.bl _], rs, hf | [.int _], rs, hf | [.str _], rs, hf | [.scr _], rs, hf | [.list _], rs, hf | [.tup _], rs, hf | [.ins _ _], rs, hf | [.cls _], rs, hf | [], rs, hf =>
    exact call_lenD' eK pins s σ H xs us Q I r ⟨F, _, r', sm, rs, hf, q⟩
  | a :: b :: c, rs, hf => cases a <;> cases hf
theorem call_listDD (eK : X.K = K) (hc : X.calm = true) : CallR X (.type "list") (rDnL K listBD) := by
  intro pins s σ H xs us Q I r h
  obtain ⟨F, ds, r', sm, rs, hf, q⟩ := id h
  match ds, rs, hf with
  | [.dict w kvs], .cons (.dict (a := a) (o := o) (es := es) ha k rr nd) .nil, hf =>
    cases hf
    obtain ⟨u, rfl, ru⟩ := vals1 r
    cases ru
    obtain ⟨ys, ep, raw, sz, at_⟩ := dct_raw I (sm _ _ ha) k
    refine PySem.W.kdl_call (KdlSrc.rawDict (es := ys) (ep := ep) k.sys) (I.ok.hd hc) raw (by rw [sz]; exact k.few) fun h' tk acc c kp hl hi => ?_
    have rv : Vals (es.map fun e => e.2.1) acc.toList := by
      have len : acc.toList.length = es.length := by rw [Array.length_toList, hi.1, sz]
      have gen : ∀ (es : List (Int × V × V)) (us : List Value), us.length = es.length → (∀ (i : Nat) e, es[i]? = some e → ∃ u, us[i]? = some u ∧ RelV e.2.1 u) → Vals (es.map fun e => e.2.1) us := by
        intro es
        induction es with
        | nil => intro us h _; cases us with | nil => exact .nil | cons _ _ => simp at h
        | cons e es ih =>
          intro us h f
          cases us with
          | nil => simp at h
          | cons u us =>
            obtain ⟨u', hu, ru⟩ := f 0 e rfl
            cases hu
            exact .cons ru (ih us (by simpa using h) fun i e' he => by simpa using f (i + 1) e' (by simpa using he))
      refine gen es acc.toList len fun i e he => ?_
      obtain ⟨x, hx, rx⟩ := at_ i e he
      have lt : i < acc.size := by rw [hi.1, sz]; exact get_lt he
      refine ⟨acc[i], by rw [Array.getElem?_toList]; exact Array.getElem?_eq_getElem lt, ?_⟩
      obtain ⟨hlt, hv⟩ := hi.2 i acc[i] (Array.getElem?_eq_getElem lt)
      rw [hv]
      rw [Array.getElem?_eq_getElem hlt] at hx
      cases hx
      exact rx
    have reps : Reps X.K F (es.map fun e => e.2.1) (kvs.map (·.1)) := by
      have gen : ∀ {es : List (Int × V × V)} {kvs : List (D × D)}, RepD K F w es kvs → Reps X.K F (es.map fun e => e.2.1) (kvs.map (·.1)) := by
        intro es
        induction es with
        | nil => intro kvs h; cases h; exact .nil
        | cons e es ih => intro kvs h; cases h with | cons _ _ _ r1 _ t => exact .cons (by rw [eK]; exact r1) (ih t)
      exact gen rr
    have lst : ObjOk X.prog X.w (upd H s.heap.objs.size (.lst (es.map fun e => e.2.1))) h' s.heap.objs.size (.lst (es.map fun e => e.2.1)) :=
      ⟨by rw [List.length_map]; exact k.few, acc.toList, c, rv, by simpa using hl⟩
    exact ⟨.ref s.heap.objs.size, _, I.laid (t' := tk) kp (Nat.le_refl _) lst, rfl, q _ _ (I.hok.fresh (Nat.le_refl _)) (by rw [← eK]; exact reps)⟩
  | [.non], rs, hf | [.bl _], rs, hf | [.int _], rs, hf | [.str _], rs, hf | [.scr _], rs, hf | [.list _], rs, hf | [.tup _], rs, hf | [.ins _ _], rs, hf | [.cls _], rs, hf | [], rs, hf =>
    exact call_listD eK pins s σ H xs us Q I r ⟨F, _, r', sm, rs, hf, q⟩
  | a :: b :: c, rs, hf => cases a <;> cases hf
end

/-! ### d[k] = v -/
section
variable {X : Cx}
def rSetN (X : Cx) : TSet := fun o i v H Q => ∃ F p ob es kvs d k e, Same F H ∧ o = .ref p ∧ H p = some (ObjO p ob) ∧ DctOk p ob es ∧ RepD X.K F X.w es kvs ∧ (kvs.map fun p => nkOf p.1).Nodup ∧
  Rep X.K F i d ∧ nkOf d = some k ∧ k.depth ≤ 8 ∧ Rep X.K F v e ∧ es.length < sizeLine ∧ ∀ ob' es', DctOk p ob' es' → RepD X.K F X.w es' (dPut k d e kvs) → Q (upd H p (ObjO p ob'))
theorem objO_ok {P : Program} {w : World} {H : Hp} {h : Heap} {a : Addr} {o : Obj} (e : h.get? a = some o) : ObjOk P w H h a (ObjO a o) :=
  ⟨e, ⟨o, e⟩, fun _ _ h1 k => k _ h1⟩
/-- the dict's object behind a store -/
theorem put_ok {w : World} {h' : Heap} {a : Addr} {es : List (Int × V × V)} {kvs : List (D × D)} {xs : List Rw} {K : PySem.W.Frag} {F : Hp} {k : NestedKey} {v u : V} {d e : D} {key val : Value} {o : Obj}
    (ok : DctOk a o es) (r : RepD K F w es kvs) (p1 : EsX es xs) (p2 : KvX kvs xs) (nd : (xs.map (·.1)).Nodup) (ents : Paired (fun (e : Int × V × V) (x : DictEntry) => e.1 = x.hash ∧ RelV e.2.1 x.key ∧ RelV e.2.2 x.val) es (xs.map (entN w)))
    (hk : nkOf d = some k) (h8 : k.depth ≤ 8) (rd : Rep K F v d) (re : Rep K F u e) (qk : RelV v key) (qv : RelV u val) (few : es.length < sizeLine) (dn : DictN w h' a (putN xs k key val)) :
    ∃ ob, h'.get? a = some ob ∧ DctOk a ob (putE k (k.hash w) v u kvs es) ∧ RepD K F w (putE k (k.hash w) v u kvs es) (dPut k d e kvs) ∧ EsX (putE k (k.hash w) v u kvs es) (putR k key val xs) ∧ KvX (dPut k d e kvs) (putR k key val xs) ∧
      DictN w h' a (putR k key val xs) ∧ Paired (fun (e : Int × V × V) (x : DictEntry) => e.1 = x.hash ∧ RelV e.2.1 x.key ∧ RelV e.2.2 x.val) (putE k (k.hash w) v u kvs es) ((putR k key val xs).map (entN w)) := by
  obtain ⟨q1, q2, q3, q4⟩ := put_rel hk h8 rd re qk qv r p1 p2
  rw [putN_putR nd] at dn
  obtain ⟨ob, ys, ep, ho, hc, hd, kd⟩ := id dn
  have len := length_putE (k := k) (i := k.hash w) (v := v) (u := u) kvs es
  exact ⟨ob, ho, ⟨by omega, ok.sys, hc, ys, ep, hd, by rw [kd.ents]; exact q4 ents⟩, q1, q2, q3, dn, q4 ents⟩
theorem ents_of {w : World} {h : Heap} {a : Addr} {o : Obj} {es : List (Int × V × V)} {xs : List Rw} (ok : DctOk a o es) (ho : h.get? a = some o) (dn : DictN w h a xs) :
    Paired (fun (e : Int × V × V) (x : DictEntry) => e.1 = x.hash ∧ RelV e.2.1 x.key ∧ RelV e.2.2 x.val) es (xs.map (entN w)) := by
  obtain ⟨ys, ep, hd, pr⟩ := ok.at_
  obtain ⟨o', ys', ep', ho', _, hd', kd⟩ := dn
  rw [ho] at ho'
  cases ho'
  rw [hd] at hd'
  cases hd'
  rw [← kd.ents]
  exact pr
theorem DictN.nd {w : World} {h : Heap} {a : Addr} {xs : List Rw} (dn : DictN w h a xs) : (xs.map (·.1)).Nodup := let ⟨_, _, _, _, _, _, kd⟩ := dn; kd.nd
theorem set_dct (hr : X.A.units + 64 < cLine) : PSet X (rSetN X) := by
  intro pins s σ H o i v ov iv u Q I ro ri rv h
  obtain ⟨F, p, ob, es, kvs, d, k, e, sm, rfl, hp, ok, r, nd, rd, hk, h8, re, few, q⟩ := h
  cases ro
  obtain ⟨xs, dn, fx, p1, p2⟩ := dict_nk I sm hp ok r nd
  have ho := objO_at I.hok hp
  refine store_nk (in1_room hr) (key_nk I sm d _ _ k rd ri hk) h8 dn fx fun h' dn' hs => ?_
  obtain ⟨ob', ho', ok', r', _⟩ := put_ok ok r p1 p2 dn.nd (ents_of ok ho dn) hk h8 rd re ri rv few dn'
  exact ⟨_, d_write I (by rw [hp]; exact True.intro) hs ⟨ob', ho'⟩ (objO_ok ho'), q ob' _ ok' r'⟩
end
theorem dPut_keys {k : NestedKey} {d e : D} (hk : nkOf d = some k) : ∀ {kvs : List (D × D)}, (kvs.map fun p => nkOf p.1).Nodup → ((dPut k d e kvs).map fun p => nkOf p.1).Nodup := by
  have mem : ∀ {kvs : List (D × D)} {x : Option NestedKey}, x ∈ (dPut k d e kvs).map (fun p => nkOf p.1) → x = some k ∨ x ∈ kvs.map fun p => nkOf p.1 := by
    intro kvs
    induction kvs with
    | nil => intro x m; rw [dPut] at m; simp only [List.map_cons, List.map_nil, List.mem_singleton] at m; exact .inl (by rw [m, hk])
    | cons p kvs ih =>
      intro x m
      obtain ⟨a, b⟩ := p
      rw [dPut] at m
      split at m
      · exact .inr m
      · rcases List.mem_cons.mp (show x ∈ nkOf a :: (dPut k d e kvs).map _ from m) with rfl | m
        · exact .inr List.mem_cons_self
        · exact (ih m).imp id (List.mem_cons_of_mem _)
  intro kvs
  induction kvs with
  | nil => intro _; simp [dPut]
  | cons p kvs ih =>
    intro nd
    obtain ⟨a, b⟩ := p
    obtain ⟨n1, n2⟩ := List.nodup_cons.mp (show (nkOf a :: kvs.map fun p => nkOf p.1).Nodup from nd)
    rw [dPut]
    split
    · exact nd
    · rename_i ne
      refine List.nodup_cons.mpr ⟨fun m => ?_, ih n2⟩
      rcases mem m with h | h
      · exact ne h
      · exact n1 h
/-- x[b] = e, x a dict of the body's own -/
noncomputable def sDPut (w : World) (i : Nat) (gb ge : ME) : MS := fun l => (ge l).thn fun d l1 => if has? i l1 = true then (gb l1).thn fun e l2 => match l2[i]? with
  | some (some (.ow (.dct w' kvs))) => open Classical in if w' = w ∧ kvs.length < sizeLine then (match nkOf e with | some k => if k.depth ≤ 8 then .nx (l2.set i (some (.ow (.dct w (dPut k e d kvs))))) else .stuck | none => .stuck) else .stuck
  | _ => .stuck else .stuck
section
variable {X : Cx} {M : MC} {E : L2.St → XK} {b e : Expr} {gb ge : ME} {pos pos' p p' : Pos} {i : Nat} {x : Str} {w : World}
theorem ms_dput (eK : X.K = M.K) (ew : X.w = w) (hr : X.A.units + 64 < cLine) (hN : X.N[i]? = some x) (hv : Vis X.env.scope x) (hb : PE X b (mE M E gb)) (he : PE X e (mE M E ge)) (hd : (x == ("__debug__" : Str)) = false := by decide) (hcd : (x == ("__classdict__" : Str)) = false := by decide)
    (ha : ∀ v, assign (.Subscript (.Name x p) b p') X.env v = (do
      let ov ← holding [v] (eval (.Name x p) X.env)
      let iv ← holding [v, ov] (eval b X.env)
      standAt p'
      holding [v, ov, iv] (setItem ov iv v)
      release [v, ov, iv] []) := by intro _; rfl)
    (hs : swapsWithSole [.Subscript (.Name x p) b p'] e pos.line X.env = pure false := by rfl) (hw : swappedStores [.Subscript (.Name x p) b p'] e X.env = pure none := by rfl) (h1 : (assignEach [.Subscript (.Name x p) b p'] X.env).map (·.2) = [assign (.Subscript (.Name x p) b p') X.env] := by rfl) :
    PS X (.Assign [.Subscript (.Name x p) b p'] e pos) (mS M E (sDPut w i gb ge)) :=
  ps_imp (ps_asg he (pg_sub (pe_var hN hv hd hcd) hb (set_dct hr) ha) hs hw h1) fun Dn σ H z => by
    subst ew
    obtain ⟨F, l, st, w⟩ := z
    refine ⟨F, l, st, (wS.thn st w).mono fun d l1 F1 H1 g1 st1 w1 v rv => ?_⟩
    split at w1
    · rename_i hh
      obtain ⟨s, hl⟩ := has_some hh
      obtain ⟨o, eo, _⟩ := st1.slot i s hl
      refine ⟨o, eo, F1, l1, st1, (wS.thn st1 w1).mono fun e l2 F2 H2 g2 st2 w2 y ry => ?_⟩
      split at w2
      · rename_i w' kvs hl2
        split at w2
        · rename_i hc
          obtain ⟨rfl, few⟩ := hc
          split at w2
          · rename_i k hk
            split at w2
            · rename_i h8
              obtain ⟨o', eo', q, _, rfl, hq, fq, ⟨ob, es, rfl, ok, r, nd⟩, _⟩ := st2.slot i _ hl2
              rw [eo] at eo'
              cases eo'
              refine ⟨F2, q, ob, es, kvs, e, k, d, st2.sub, rfl, hq, ok, by rw [eK]; exact r, nd, by rw [eK]; exact ry, hk, h8, by rw [eK]; exact rv.up g2.ext, by rw [r.length]; exact few, fun ob' es' ok' r' => ?_⟩
              rw [eK] at r'
              obtain ⟨st3, _⟩ := st2.put (ys := .dct _ _) hl2 eo ⟨ob', es', rfl, ok', r', dPut_keys hk nd⟩
              exact w2 σ F2 _ (Same.refl _) st3
            · exact w2.elim
          · exact w2.elim
        · exact w2.elim
      · exact w2.elim
    · exact w1.elim
end
end Sb

set_option maxHeartbeats 1000000
/-! Sb, part D3: new objects of any kind; displays of dicts. -/
namespace Sb
open PySem PySem.Spec PyProof.Rows L2

/-! ### a new object, not yet data -/
abbrev MN := Ld → Res O
def mN (M : MC) (E : L2.St → XK) (g : MN) : TE := fun σ H Q => ∃ F l, StM M F σ H l ∧ wR M E σ F H l (fun o l' F' H' => ∀ p h, H' p = some h → F' p = none → M.H0 p = none → H p = none → ¬ Own σ l' p → OwH M.K F' p h o → Q (.ref p) H') (g l)
def frzN (g : MN) : ME := fun l => (g l).bind fun o l1 => .ok o.toD l1
def sSetN (i : Nat) (g : MN) : MS := fun l => (g l).thn fun o l1 => .nx (l1.set i (some (.ow o)))
def sRetO (g : MN) : MS := fun l => (g l).thn fun o l1 => .rt (.ow o) l1
section
variable {X : Cx} {M : MC} {E : L2.St → XK} {e : Expr} {g : MN} {pos pos' : Pos} {i : Nat} {x : Str}
theorem mE_frzN {σ : L2.St} {H : Hp} {Q : VK} (h : mE M E (frzN g) σ H Q) : mN M E g σ H Q := by
  obtain ⟨F, l, st, w⟩ := h
  refine ⟨F, l, st, ?_⟩
  unfold frzN at w
  cases hg : g l with
  | stuck => rw [hg] at w; exact w
  | err c f d l' => rw [hg] at w; exact w
  | ok o l1 =>
    rw [hg] at w
    intro F1 H1 g1 st1 p h hp fp h0 hH no ow
    have ext : Same F1 (upd F1 p h) := new_same fp
    refine w (upd F1 p h) H1 ⟨g1.ext.trans ext, g1.own, fun q o h' f n => ?_, g1.dom⟩ (st1.adopt hp fp h0 no) _ ((ow.up ext).rep upd_same)
    obtain ⟨a, b⟩ := g1.frn q o h' f n
    rw [upd_ne (ne_of_none h' hH)]
    exact ⟨a, b⟩
theorem me_frzN (h : PE X e (mN M E g)) : PE X e (mE M E (frzN g)) := pe_imp h fun _ _ _ z => mE_frzN z
theorem ms_setN (np : NoPar M i) (hN : X.N.Nodup) (hi : X.N[i]? = some x) (hx : Loc X.env.scope x) (he : PE X e (mN M E g)) (hs : swapsWith e (some (.Name x pos')) pos.line X.env = pure false := by rfl) (hf : X.fn x = true ∨ X.env.scope.names.lookup x = some .local := by first | exact .inl rfl | exact .inr rfl | assumption) :
    PS X (.Assign [.Name x pos'] e pos) (mS M E (sSetN i g)) := ps_imp (ps_set hN hi hx he hs hf) fun Dn σ H z => by
  obtain ⟨F, l, st, w⟩ := z
  exact ⟨F, l, st, (wS.thn st w).mono fun d l1 F1 H1 g1 st1 w1 p h hp fp h0 _ no ow => w1 _ F1 H1 (Same.refl _) (st1.setOw' np hp fp h0 no ow)⟩
theorem ms_retO (he : PE X e (mN M E g)) : PS X (.Return (some e) pos) (mS M E (sRetO g)) := ps_imp (ps_ret he) fun Dn σ H z => by
  obtain ⟨F, l, st, w⟩ := z
  exact ⟨F, l, st, (wS.thn st w).mono fun d l1 F1 H1 g1 st1 w1 p h hp fp h0 _ no ow => w1 _ σ F1 H1 (Same.refl _) st1 ⟨p, _, rfl, hp, fp, h0, ow⟩⟩
end

/-! ### {k: v, ..} -/
def evPairs : List (ME × ME) → Ld → Res (List (D × D))
  | [], l => .ok [] l
  | g :: r, l => (g.1 l).bind fun d l1 => (g.2 l1).bind fun e l2 => (evPairs r l2).bind fun ps l3 => .ok ((d, e) :: ps) l3
/-- the pairs one after another -/
def dPuts : List (D × D) → List (D × D) → Option (List (D × D))
  | [], acc => some acc
  | (d, e) :: r, acc => match nkOf d with
    | some k => if k.depth ≤ 8 then dPuts r (dPut k d e acc) else none
    | none => none
def dispN (w : World) (gs : List (ME × ME)) : MN := fun l => (evPairs gs l).bind fun ps l1 => match dPuts ps [] with
  | some kvs => .ok (.dct w kvs) l1
  | none => .stuck
abbrev VD (K : PySem.W.Frag) (F : Hp) : List (V × V) → List (D × D) → Prop := Paired fun v d => Rep K F v.1 d.1 ∧ Rep K F v.2 d.2
section
variable {X : Cx} {M : MC} {E : L2.St → XK} {σ : L2.St}
def trsOf (M : MC) (E : L2.St → XK) (gs : List (ME × ME)) : List (TE × TE) := gs.map fun g => (mE M E g.1, mE M E g.2)
theorem pairs_wR : ∀ (gs : List (ME × ME)) {F H : Hp} {l : Ld} {Q : List (V × V) → Hp → Prop}, StM M F σ H l →
    wR M E σ F H l (fun ps _ F' H' => ∀ vs, VD M.K F' vs ps → Q vs H') (evPairs gs l) → tPairs (trsOf M E gs) σ H Q
  | [], F, H, l, Q, st, w => w F H (Gr.refl _ _ _ _) st [] .nil
  | g :: gs, F, H, l, Q, st, w => by
    refine ⟨F, l, st, (wR.bind w).mono fun d l1 F1 H1 g1 st1 w1 v rv => ?_⟩
    refine ⟨F1, l1, st1, (wR.bind w1).mono fun e l2 F2 H2 g2 st2 w2 u ru => ?_⟩
    refine pairs_wR gs st2 ((wR.bind w2).mono fun ps l3 F3 H3 g3 st3 w3 vs rs => ?_)
    exact w3 F3 H3 (Gr.refl _ _ _ _) st3 _ (.cons ⟨(rv.up g2.ext).up g3.ext, ru.up g3.ext⟩ rs)
theorem StM.chg {F H : Hp} {l : Ld} {p : Addr} {o : HO} (st : StM M F σ H l) (fp : F p = none) (h0 : M.H0 p = none) (no : ¬ Own σ l p) : StM M F σ (upd H p o) l := by
  refine ⟨fun b x z => ?_, st.len, fun i s e => ?_, st.inj, st.keepF, st.newF, fun a x h n => ?_, fun a h => ?_, st.pars⟩
  · rw [upd_ne (ne_of_none z fp)]
    exact st.sub _ _ z
  · obtain ⟨v, e1, ok⟩ := st.slot i s e
    refine ⟨v, e1, ?_⟩
    cases s with
    | fr d => exact ok
    | ow ys =>
      obtain ⟨q, h, rfl, h1, h2⟩ := ok
      have ne : q ≠ p := by
        rintro rfl
        exact no ⟨i, ys, e, e1⟩
      exact ⟨q, h, rfl, by rw [upd_ne ne]; exact h1, h2⟩
  · rw [upd_ne (by rintro rfl; rw [h0] at h; cases h)]
    exact st.keepH a x h n
  · by_cases z : a = p
    · subst z; rw [upd_same] at h; cases h
    · rw [upd_ne z] at h
      exact st.domH a h
end
/-- what is asked of a display -/
def tDispN (X : Cx) (trs : List (TE × TE)) : TE := fun σ H Q => ∀ p ob, H p = none → DctOk p ob [] → tPairs trs σ (upd H p (ObjO p ob)) fun vs H2 => H2 p = some (ObjO p ob) ∧ ∃ F ps kvs, Same F H2 ∧ F p = none ∧ VD X.K F vs ps ∧ dPuts ps [] = some kvs ∧ ps.length ≤ 15 ∧
  ∀ ob' es', DctOk p ob' es' → RepD X.K F X.w es' kvs → (kvs.map fun p => nkOf p.1).Nodup → Q (.ref p) (upd H2 p (ObjO p ob'))
section
variable {X : Cx} {pins : List (Addr × Obj)} {σ : L2.St} {F : Hp}
/-- the stores of a display -/
theorem puts_nk (hr : X.A.units + 64 < cLine) {a : Addr} {Q : PUnit → Shared → Prop} {E : Value → Shared → Prop} : ∀ {vs : List (V × V)} {ps : List (D × D)} {us : List (Value × Value)} {H : Hp} {s : Shared} {ob : Obj} {es : List (Int × V × V)} {acc kvs : List (D × D)},
    Inv X pins σ H s → Same F H → F a = none → H a = some (ObjO a ob) → DctOk a ob es → RepD X.K F X.w es acc → (acc.map fun p => nkOf p.1).Nodup → VD X.K F vs ps → VV vs us → dPuts ps acc = some kvs → es.length + ps.length < sizeLine →
    (∀ s' ob' es', Inv X pins σ (upd H a (ObjO a ob')) s' → DctOk a ob' es' → RepD X.K F X.w es' kvs → (kvs.map fun p => nkOf p.1).Nodup → Q PUnit.unit s') →
    wpAny (model X.prog X.w) X.A (forIn us PUnit.unit fun x r => do dictSet a x.1 x.2; pure PUnit.unit; pure (ForInStep.yield PUnit.unit)) Q E s
  | _, _, _, H, s, ob, es, acc, kvs, I, sm, fa, ha, ok, r, nd, .nil, .nil, hp, few, q => by
    rw [List.forIn_nil]
    cases hp
    have same : upd H a (ObjO a ob) = H := by
      funext b
      by_cases e : b = a
      · subst e; rw [upd_same, ha]
      · rw [upd_ne e]
    exact wpAny_pure (q s ob es (by rw [same]; exact I) ok r nd)
  | _, _, _, H, s, ob, es, acc, kvs, I, sm, fa, ha, ok, r, nd, .cons (b := d) rv rvs, .cons (b := u) rw rws, hp, few, q => by
    obtain ⟨d, e⟩ := d
    rw [dPuts] at hp
    split at hp
    · rename_i k hk
      split at hp
      · rename_i h8
        obtain ⟨xs, dn, fx, p1, p2⟩ := dict_nk I sm ha ok r nd
        have ho := objO_at I.hok ha
        rw [List.length_cons] at few
        rw [List.forIn_cons]
        refine wpAny_bind (wpAny_bind (set_nk (by omega) (key_nk I sm d _ _ k rv.1 rw.1 hk) h8 dn fx fun h' dn' hs => ?_))
        obtain ⟨ob', ho', ok', r', _⟩ := put_ok ok r p1 p2 dn.nd (ents_of ok ho dn) hk h8 rv.1 rv.2 rw.1 rw.2 (by omega) dn'
        have I2 := d_write (t' := s.toks + k.draws) (ob := ObjO a ob') I (by rw [ha]; exact True.intro) hs ⟨ob', ho'⟩ (objO_ok ho')
        refine wpAny_bind (wpAny_pure (wpAny_pure ?_))
        refine puts_nk hr I2 (fun b o z => ?_) fa upd_same ok' r' (dPut_keys hk nd) rvs rws hp ?_ fun s' ob2 es2 I3 => ?_
        · rw [upd_ne (ne_of_none z fa)]
          exact sm _ _ z
        · exact Nat.lt_of_le_of_lt (Nat.add_le_add_right (length_putE acc es) _) (by omega)
        · rw [upd_upd] at I3
          exact q s' ob2 es2 I3
      · cases hp
    · cases hp
/-- an empty dict's object -/
theorem dct_new {h : Heap} (hb : sysModules < h.objs.size) : DctOk h.objs.size { cls := .type "dict", data := .dict #[] } [] :=
  ⟨Nat.zero_le _, beq_eq_false_iff_ne.mpr (Ne.symm (Nat.ne_of_lt hb)), ⟨rfl, rfl, rfl⟩, #[], 0, rfl, .nil⟩
theorem pe_dispN {pos : Pos} {keys : List (Option Expr)} {values : List Expr} {trs : List (TE × TE)} (hr : X.A.units + 64 < cLine) (h : PPs X pos keys values trs) (hall : keys.all (·.isSome) = true) (hl : keys.length = values.length) (h0 : keys ≠ [])
    (h15 : keys.length ≤ 15) : PE X (.Dict keys values pos) (tDispN X trs) := by
  refine ⟨fun pins s σ H Q I q => ?_⟩
  have hn := I.hok.fresh (Nat.le_refl s.heap.objs.size)
  have new : (s.heap.push { cls := .type "dict", data := .dict #[] }).get? s.heap.objs.size = some { cls := .type "dict", data := .dict #[] } := Heap.get?_push_size _ rfl
  have I1 := I.laid (a := s.heap.objs.size) (o := ObjO s.heap.objs.size { cls := .type "dict", data := .dict #[] }) (h' := s.heap.push { cls := .type "dict", data := .dict #[] }) (t' := s.toks) (fun _ _ q => Heap.get?_push_of_some _ q) (Nat.le_refl _) (objO_ok new)
  have lenp := pairTrees_length keys values X.env pos hall hl
  have ne : pairTrees keys values X.env pos ≠ [] := by
    intro z
    rw [z] at lenp
    exact h0 (List.length_eq_zero_iff.mp lenp.symm)
  rw [arm_eval_Dict, zip_pairTrees keys values X.env pos hall hl, dictDisplay_pairs _ ne (by omega)]
  refine wpAny_bind (wpAny_standAt (wpAny_bind ?_))
  unfold subDict
  refine wpAny_bind (wpAny_alloc ?_)
  refine wpAny_bind (wpAny_holding ?_)
  rw [if_pos (by omega)]
  refine wpAny_bind (wpAny_mono (wpAny_evalPairs_len (h.run pins _ σ _ _ I1 (q _ _ hn (dct_new I.big)))) (fun us s2 z => ?_) fun _ _ z => z)
  obtain ⟨_, vs, H2, I2, rel, ha, F, ps, kvs, sm, fp, vd, hp, few, q2⟩ := z
  refine wpAny_holding ?_
  refine wpAny_bind (puts_nk hr I2 sm fp ha (dct_new I.big) .nil List.nodup_nil vd rel hp (by rw [sizeLine_eq]; simp; omega) fun s' ob' es' I3 ok3 r3 nd3 => ?_)
  exact wpAny_pure (wpAny_pure (wpAny_pure ⟨.ref s.heap.objs.size, _, I3, rfl, q2 ob' es' ok3 r3 nd3⟩))
end
section
variable {X : Cx} {M : MC} {E : L2.St → XK} {pos : Pos} {keys : List (Option Expr)} {values : List Expr} {gs : List (ME × ME)} {w : World} {k v : Expr} {ks : List (Option Expr)} {vs : List Expr} {ga gb : ME}
/-- the pairs of a display -/
abbrev MPs (X : Cx) (M : MC) (E : L2.St → XK) (pos : Pos) (keys : List (Option Expr)) (values : List Expr) (gs : List (ME × ME)) : Prop := PPs X pos keys values (trsOf M E gs)
theorem mp_nil : MPs X M E pos [] [] [] := pps_nil
theorem mp_cons (hk : PE X k (mE M E ga)) (hv : PE X v (mE M E gb)) (h : MPs X M E pos ks vs gs) : MPs X M E pos (some k :: ks) (v :: vs) ((ga, gb) :: gs) := pps_cons hk hv h
theorem evPairs_len : ∀ (gs : List (ME × ME)) {l l1 : Ld} {ps : List (D × D)}, evPairs gs l = .ok ps l1 → ps.length = gs.length
  | [], _, _, _, h => by cases h; rfl
  | g :: gs, _, _, _, h => by
    rw [evPairs] at h
    obtain ⟨d, l1, _, h⟩ := bind_ok h
    obtain ⟨e, l2, _, h⟩ := bind_ok h
    obtain ⟨ps, l3, h3, h⟩ := bind_ok h
    cases h
    exact congrArg (· + 1) (evPairs_len gs h3)
theorem mn_disp (eK : X.K = M.K) (ew : X.w = w) (hr : X.A.units + 64 < cLine) (h : MPs X M E pos keys values gs) (hall : keys.all (·.isSome) = true) (hl : keys.length = values.length) (h0 : keys ≠ []) (h15 : keys.length ≤ 15) (hg : gs.length ≤ 15) : PE X (.Dict keys values pos) (mN M E (dispN w gs)) :=
  pe_imp (pe_dispN hr h hall hl h0 h15) fun σ H Q z => by
    subst ew
    obtain ⟨F, l, st, w⟩ := z
    intro p ob np ok
    have nw := Nw.beside (o := ObjO p ob) st.sub np
    have st0 := st.new nw
    have noO : ¬ Own σ l p := fun o => by
      obtain ⟨⟨ws, z⟩, _⟩ := st.ownH o
      rw [np] at z
      cases z
    have fp0 : F p = none := st.sub.free np
    refine pairs_wR gs st0 ?_
    have later : wR M E σ F (upd H p (ObjO p ob)) l _ (dispN X.w gs l) := wR.later (st.gr nw) w
    unfold dispN at w later
    cases he : evPairs gs l with
    | stuck => rw [he] at later; exact later
    | err c f d l' => rw [he] at later; exact later
    | ok ps l1 =>
      rw [he] at w
      intro F1 H1 g1 st1 vs vd
      have w2 : wR M E σ F H l _ (match dPuts ps [] with | some kvs => Res.ok (O.dct X.w kvs) l1 | none => .stuck) := w
      obtain ⟨fp1, hp1⟩ := g1.frn p _ upd_same fp0 noO
      cases hk : dPuts ps [] with
      | none => rw [hk] at w2; exact w2.elim
      | some kvs =>
        rw [hk] at w2
        refine ⟨hp1, F1, ps, kvs, st1.sub, fp1, by rw [eK]; exact vd, hk, by rw [evPairs_len gs he]; exact hg, fun ob' es' ok' r' nd' => ?_⟩
        rw [eK] at r'
        have no1 : ¬ Own σ l1 p := fun o => noO (g1.own _ o)
        have st2 : StM M F1 σ (upd H1 p (ObjO p ob')) l1 := st1.chg fp1 (st.domH p np) no1
        have g2 := (st.gr nw).trans g1
        refine w2 F1 _ ⟨g2.ext, g2.own, fun q o h f n => ?_, fun a h => ?_⟩ st2 p _ upd_same fp1 (st.domH p np) np no1 ⟨ob', es', rfl, ok', r', nd'⟩
        · obtain ⟨a, b⟩ := g2.frn q o h f n
          rw [upd_ne (ne_of_none h np)]
          exact ⟨a, b⟩
        · by_cases e : a = p
          · subst e; rw [upd_same] at h; cases h
          · rw [upd_ne e] at h
            exact g2.dom a h
def dict0 (w : World) : MN := fun l => .ok (.dct w []) l
theorem pe_dict0 : PE X (.Dict [] [] pos) (fun _ H Q => ∀ p ob, H p = none → DctOk p ob [] → Q (.ref p) (upd H p (ObjO p ob))) := ⟨fun pins s σ H Q I h => by
  have new : (s.heap.push { cls := .type "dict", data := .dict #[] }).get? s.heap.objs.size = some { cls := .type "dict", data := .dict #[] } := Heap.get?_push_size _ rfl
  exact wpAny_Dict_empty ⟨.ref s.heap.objs.size, _, I.laid (a := s.heap.objs.size) (o := ObjO s.heap.objs.size { cls := .type "dict", data := .dict #[] }) (t' := s.toks) (fun _ _ q => Heap.get?_push_of_some _ q) (Nat.le_refl _) (objO_ok new), rfl, h _ _ (I.hok.fresh (Nat.le_refl _)) (dct_new I.big)⟩⟩
theorem mn_dict0 : PE X (.Dict [] [] pos) (mN M E (dict0 w)) :=
  pe_imp pe_dict0 fun σ H Q z => by
    obtain ⟨F, l, st, w1⟩ := z
    intro p ob np ok
    have nw := Nw.beside (o := ObjO p ob) st.sub np
    refine w1 F _ (st.gr nw) (st.new nw) p _ upd_same (st.sub.free np) (st.domH p np) np (fun o => ?_) ⟨ob, [], rfl, ok, .nil, List.nodup_nil⟩
    obtain ⟨⟨ws, z⟩, _⟩ := st.ownH o
    rw [np] at z
    cases z
end
end Sb

set_option maxHeartbeats 2000000
/-! Sb, part D4: sorted(xs, key=f), f a def whose mirror gives tuples of whole numbers. -/
namespace Sb
open PySem PySem.Spec PyProof.Rows L2

def intsD : List D → Option (List Int)
  | [] => some []
  | .int i :: r => (intsD r).map (i :: ·)
  | _ => none
theorem intsD_ok : ∀ {ds : List D} {ns : List Int}, intsD ds = some ns → ds = ns.map .int
  | [], _, h => by cases h; rfl
  | d :: ds, ns, h => by
    cases d with
    | int i =>
      obtain ⟨r, e, rfl⟩ := Option.map_eq_some_iff.mp (show (intsD ds).map (i :: ·) = some ns from h)
      rw [intsD_ok e]
      rfl
    | _ => cases h
def keyI (m : MF) (d : D) : Option (List Int) := match m [.fr d] with
  | .ok (.fr (.tup ks)) _ => intsD ks
  | _ => none
def keysI (m : MF) : List D → Option (List (List Int))
  | [] => some []
  | d :: ds => (keyI m d).bind fun k => (keysI m ds).map (k :: ·)
abbrev kOf (b : D × List Int) : PyData := .tuple (b.2.map .int)
noncomputable def sortKD (m : MF) (ds : List D) : Option (List D) := (keysI m ds).bind fun kz =>
  if (kz.all fun k => !k.isEmpty) = true then some (((ds.zip kz).mergeSort (PySem.W.dataLe false kOf)).map (·.1)) else none
theorem keysI_len {m : MF} : ∀ {ds : List D} {kz : List (List Int)}, keysI m ds = some kz → kz.length = ds.length
  | [], _, h => by cases h; rfl
  | d :: ds, _, h => by
    obtain ⟨k, _, h⟩ := Option.bind_eq_some_iff.mp (show (keyI m d).bind (fun k => (keysI m ds).map (k :: ·)) = _ from h)
    obtain ⟨r, e, rfl⟩ := Option.map_eq_some_iff.mp h
    exact congrArg (· + 1) (keysI_len e)
theorem keysI_at {m : MF} : ∀ {ds : List D} {kz : List (List Int)} {i : Nat} {d : D} {k : List Int}, keysI m ds = some kz → ds[i]? = some d → kz[i]? = some k → keyI m d = some k
  | [], _, _, _, _, _, h, _ => by simp at h
  | d :: ds, _, i, d', k', h, a, b => by
    obtain ⟨k, hk, h⟩ := Option.bind_eq_some_iff.mp (show (keyI m d).bind (fun k => (keysI m ds).map (k :: ·)) = _ from h)
    obtain ⟨r, e, rfl⟩ := Option.map_eq_some_iff.mp h
    cases i with
    | zero => cases a; cases b; exact hk
    | succ i => exact keysI_at (i := i) e (by simpa using a) (by simpa using b)

/-- data grows; what is not data stays -/
structure Aft (F H F' H' : Hp) : Prop where
  ext : Same F F'
  sub : Same F' H'
  frn : ∀ p o, H p = some o → F p = none → F' p = none ∧ H' p = some o
  dom : ∀ a, H' a = none → H a = none
theorem Aft.refl {F H : Hp} (s : Same F H) : Aft F H F H := ⟨Same.refl _, s, fun _ _ h f => ⟨f, h⟩, fun _ h => h⟩
theorem Aft.trans {F H F1 H1 F2 H2 : Hp} (a : Aft F H F1 H1) (b : Aft F1 H1 F2 H2) : Aft F H F2 H2 :=
  ⟨a.ext.trans b.ext, b.sub, fun p o h f => by obtain ⟨f1, h1⟩ := a.frn p o h f; exact b.frn p o h1 f1, fun p h => a.dom p (b.dom p h)⟩
section
variable {X : Cx} {pins : List (Addr × Obj)} {σ : L2.St} {H F : Hp} {s : Shared}
theorem reads_ints (I : Inv X pins σ H s) (sm : Same F H) {v : V} {u : Value} {ns : List Int} (r : Rep X.K F v (.tup (ns.map .int))) (ru : RelV v u) : Reads s.heap u (.tuple (ns.map .int)) [] := by
  cases r with
  | @tup a vs ds h rs =>
    cases (show u = Value.ref a from ru)
    obtain ⟨its, rv, ⟨o, h1, h2, n, h3⟩, _⟩ := I.tuple (seqT_same sm h)
    refine .tuple h1 h2 h3 ?_
    have gen : ∀ (ns : List Int) (vs : List V) (us : List Value), Reps X.K F vs (ns.map .int) → Vals vs us → ReadsAll s.heap us (ns.map .int) [] := by
      intro ns
      induction ns with
      | nil => intro vs us r q; cases r; cases q; exact .nil
      | cons n ns ih =>
        intro vs us r q
        cases r with
        | cons r rs =>
          cases r
          cases q with
          | cons q qs =>
            obtain ⟨t, rfl⟩ := q
            exact .cons (as := []) (bs := []) (.int n t) (ih _ _ rs qs)
    simpa using gen ns vs its rs rv
/-- a call of the key function -/
theorem key_call {k : Nat} {f : Addr} {fd : FuncData} {ps : List Str} {m : MF} {A : Around} {E : Value → Shared → Prop} {d : D} {ns : List Int} {v : V} {u : Value} {Q : Value → Shared → Prop} (C : FnG X.prog X.w X.K X.mg X.base (L2.CX X.prog X.w) k f fd ps (spM X.K 1 m)) (bnd : Binds X.K fd ps [])
    (sl : Still A) (sb : Sub X k A) (I : Inv X pins σ H s) (sm : Same F H) (rv : Rep X.K F v d) (ru : RelV v u) (hk : keyI m d = some ns)
    (q : ∀ u' v' F' H' s', Aft F H F' H' → Inv X pins σ H' s' → RelV v' u' → Rep X.K F' v' (.tup (ns.map .int)) → (∀ b o, s.heap.get? b = some o → H b = none → b ∉ frs X.stack → s'.heap.get? b = some o ∧ H' b = none) → Q u' s') :
    wpAny (model X.prog X.w) A (call (.ref f) [u]) Q E s := by
  have sp : spM X.K 1 m [v] H (fun v' H' => ∃ F', Aft F H F' H' ∧ Rep X.K F' v' (.tup (ns.map .int))) (fun _ _ _ => False) := by
    refine ⟨F, [.fr d], rfl, sm, ⟨rfl, fun i s e => ?_, fun i j xs ys v x => ?_⟩, ?_⟩
    · cases i with
      | zero => cases e; exact ⟨_, rfl, rv⟩
      | succ i => simp at e
    · cases i with
      | zero => cases x
      | succ i => simp at x
    · unfold keyI at hk
      split at hk
      · rename_i ks ss hm
        rw [hm]
        rw [intsD_ok hk]
        intro v' F' H' af rv'
        exact ⟨F', ⟨af.ext, af.sub, fun p o h f => af.frn p o h f (by
          rintro ⟨i, xs, a, _⟩
          cases i with
          | zero => cases a
          | succ i => simp at a), af.dom⟩, rv'⟩
      · cases hk
  have n : ([u] ++ ([] : List Value)).length = ps.length := by
    have e := C.many _ _ _ _ sp
    simpa using e
  refine wpAny_call (codeAny_mono (C.does A X.stack s H ⟨[u], []⟩ [u] [v] _ (fun _ _ _ => False) sl sb.room (env0_sub I sb) (by simpa using bnd s [u] I.kIn n) (.cons ru .nil) sp) ?_)
  intro r s' z
  match r, z with
  | .error e, z => exact (no_cx z).elim
  | .ok .next, z => exact z.elim
  | .ok .brk, z => exact z.elim
  | .ok .cont, z => exact z.elim
  | .ok (.ret u'), z =>
    obtain ⟨v', H', os, bare, un, hok, r', F', af, rv'⟩ := z
    have J := I.call' os un hok bare (fun b z => absurd z (by simp))
    exact q u' v' F' H' s' af J r' rv' fun b o e hb hn => ⟨un.keep b o e hb hn (by simp), un.free b o e hb (by simp)⟩
/-- a and b may change: a becomes o', b is not tracked -/
theorem Inv.write2 {a b : Addr} {o' : HO} {h' : Heap} {t' : Nat} (I : Inv X pins σ H s) (mu : Mut (H a)) (hb : FpOk X pins H b) (k : ∀ c o, c ≠ a → c ≠ b → s.heap.get? c = some o → h'.get? c = some o) (ta : ∃ o, h'.get? a = some o)
    (new : ObjOk X.prog X.w (upd H a o') h' a o') : Inv X pins σ (upd H a o') { s with heap := h', toks := t' } := by
  have nown : ∀ c y, H c = some (.own y) → c ≠ a := fun c y r z => by subst z; rw [r] at mu; exact mu
  have ntup : ∀ c xs, H c = some (.tup xs) → c ≠ a := fun c xs r z => by subst z; rw [r] at mu; exact mu
  have nfrz : ∀ c o u, H c = some (.frz o u) → c ≠ a := fun c o u r z => by subst z; rw [r] at mu; exact mu
  have ntbl : ∀ c p, H c = some (.tbl p) → c ≠ a := fun c p r z => by subst z; rw [r] at mu; exact mu
  have na : H a ≠ none := fun z => by rw [z] at mu; exact mu
  obtain ⟨f0, f1, f2, f3, f4, f5⟩ := hb
  have nb : ∀ c u, H c = some u → c ≠ b := fun c u e z => by subst z; rw [f0] at e; cases e
  refine I.call (ch := [b]) (h' := h') (g' := s.gens) (d' := s.drawn) (t' := t') ⟨?_, ?_, ?_, ?_, ?_, ?_, ?_⟩ ?_ I.bare ?_
  · intro c o e n _ hc
    exact k c o (fun z => na (by rw [← z]; exact n)) (by simpa using hc) e
  · intro c o e n _ hc
    exact ⟨o.slots, k c o (fun z => na (by rw [← z]; exact n)) (by simpa using hc) e⟩
  · intro c o e n hc
    rw [upd_ne (fun z => na (by rw [← z]; exact n))]
    exact n
  · intro c o e hc
    by_cases z : c = a
    · rw [z]; exact ta
    · exact ⟨o, k c o z (by simpa using hc) e⟩
  · intro c xs e
    rw [upd_ne (ntup c xs e)]
    exact e
  · intro c o u e
    rw [upd_ne (nfrz c o u e)]
    exact e
  · intro c p e
    exact ⟨#[], by rw [upd_ne (ntbl c p e), e]; simp⟩
  · intro c u q
    by_cases z : c = a
    · subst z
      rw [upd_same] at q
      cases q
      exact new
    · rw [upd_ne z] at q
      refine (I.hok c u q).stay (fun x v hx r => ?_) (fun x r => by rw [upd_ne (nown x c r)]; exact r) fun x xs r => by rw [upd_ne (ntup x xs r)]; exact r
      rcases hx with rfl | hx
      · exact k x v z (nb x u q) r
      · exact k x v (nown x c hx) (nb x _ hx) r
  · intro c hc
    have e : c = b := by simpa using hc
    subst e
    exact ⟨f3, f1, f4, f5⟩
theorem fp_notin {b : Addr} (I : Inv X pins σ H s) (h : FpOk X pins H b) : b ∉ frs X.stack := fun z => (List.mem_cons.mp (I.stkSub b z)).elim h.2.1 h.2.2.1
open PySem.W in
/-- the items, as values and as data with their keys -/
def RItem (X : Cx) (F : Hp) (u : Value) (b : D × List Int) : Prop := ∃ v, RelV v u ∧ Rep X.K F v b.1
open PySem.W in
/-- the keys have been made: the sort itself -/
theorem sort_end {a kS : Addr} {e e1 : Nat} {kA : Array Value} {its : List Value} {ds : List D} {kz : List (List Int)} {vs ks : List V} {A : Around} {E : Value → Shared → Prop} {P : PySem.Fin → Shared → Prop}
    (I : Inv X pins σ H s) (sm : Same F H) (fa : F a = none) (ha : H a = some (ObjO a (seqObj "list" #[] e1))) (hb : FpOk X pins H kS) (hka : kS ≠ a) (nk : s.heap.get? kS = some (seqObj "list" kA e))
    (rv : Vals vs its) (rs : Reps X.K F vs ds) (qk : Vals ks kA.toList) (rk : Reps X.K F ks (kz.map fun ns => D.tup (ns.map .int))) (lk : kz.length = its.length) (hZ : its.length ≤ sizeLine) (ne : (kz.all fun k => !k.isEmpty) = true) (hu : A.units + 2 < cLine)
    (h : ∀ s' us, Inv X pins σ (upd H a (.lst us)) s' → Reps X.K F us (((ds.zip kz).mergeSort (PySem.W.dataLe false kOf)).map (·.1)) → P (.done (.ret .none)) s') :
    wpAny (model X.prog X.w) A (ksk_end a false its.toArray e1 (.ref kS) kA) P E s := by
  have na := objO_at I.hok ha
  have lz : ds.length = kz.length := by rw [lk, ← rv.length, rs.length]
  have keys : EachIs (fun v k => ∃ as, Reads s.heap v k as) kA.toList (kz.map fun ns => PyData.tuple (ns.map .int)) := by
    have gen : ∀ (kz : List (List Int)) (ks : List V) (us : List Value), Reps X.K F ks (kz.map fun ns => D.tup (ns.map .int)) → Vals ks us → EachIs (fun v k => ∃ as, Reads s.heap v k as) us (kz.map fun ns => PyData.tuple (ns.map .int)) := by
      intro kz
      induction kz with
      | nil => intro ks us r q; cases r; cases q; exact EachIs.nil
      | cons n kz ih =>
        intro ks us r q
        cases r with
        | cons r rs =>
          cases q with
          | cons q qs => exact EachIs.cons ⟨[], reads_ints I sm r q⟩ (ih _ _ rs qs)
    exact gen kz ks kA.toList rk qk
  have hal : AllAlike (kz.map fun ns => PyData.tuple (ns.map .int)) := AllAlike.of fun x y => by
    show alikeAll (x.map .int) (y.map .int) = true
    exact alike_ints x y
  have hsk : Sortable (kz.map fun ns => PyData.tuple (ns.map .int)) := .inl fun d hd => by
    obtain ⟨ns, m, rfl⟩ := List.mem_map.mp hd
    have := List.all_eq_true.mp ne ns m
    cases ns with
    | nil => cases this
    | cons n ns => exact ⟨_, _, rfl⟩
  have hsz : kA.size = its.length := by
    have e := keys.length
    rw [Array.length_toList, List.length_map] at e
    omega
  have hdep : ∀ d, d ∈ (kz.map fun ns => PyData.tuple (ns.map .int)) → A.units + d.depth < cLine := fun d hd => by
    obtain ⟨ns, m, rfl⟩ := List.mem_map.mp hd
    have : (PyData.tuple (ns.map .int)).depth = 1 := by
      show PyData.depthAll (ns.map .int) + 1 = 1
      rw [depth_ints]
    omega
  obtain ⟨G, g1, g2⟩ := restrict s.heap fun b => decide (b ≠ kS)
  have gk : KeepsBut a G s.heap := fun b o hb e => by
    by_cases z : b = kS
    · rw [g2 b (by simp [z])] at e; cases e
    · rw [← g1 b (by simpa using z)]; exact e
  refine keyH_end (κ := dataKind s.heap (kz.map fun ns => PyData.tuple (ns.map .int))) (h₁ := G) gk (g2 kS (by simp)) nk na hka (SortsAt.data keys hal hsk hdep) hsz hZ fun h3 tk c k3 n3 => ?_
  have kept : ∀ b o, b ≠ a → b ≠ kS → s.heap.get? b = some o → h3.get? b = some o := fun b o h1 h2 e => k3 b o h1 (by rw [g1 b (by simpa using h2)]; exact e)
  -- what the list holds
  have ko : KeyedOut false ((ds.zip kz).map kOf) its (sortVals (dataKind s.heap (kz.map fun ns => PyData.tuple (ns.map .int))) false kA.toList its) := by
    have e : (ds.zip kz).map kOf = kz.map fun ns => PyData.tuple (ns.map .int) := by
      have : (ds.zip kz).map kOf = ((ds.zip kz).map (·.2)).map fun ns => PyData.tuple (ns.map .int) := by rw [List.map_map]; rfl
      rw [this, List.map_snd_zip (by omega)]
    rw [e]
    exact ⟨s.heap, kA.toList, hal, rfl, keys⟩
  have items : EachIs (RItem X F) its (ds.zip kz) := by
    have gen : ∀ (ds : List D) (kz : List (List Int)) (vs : List V) (us : List Value), ds.length = kz.length → Reps X.K F vs ds → Vals vs us → EachIs (RItem X F) us (ds.zip kz) := by
      intro ds
      induction ds with
      | nil => intro kz vs us _ r q; cases r; cases q; exact EachIs.nil
      | cons d ds ih =>
        intro kz vs us hl r q
        cases kz with
        | nil => simp at hl
        | cons k kz =>
          cases r with
          | cons r rs =>
            cases q with
            | cons q qs => exact EachIs.cons ⟨_, q, r⟩ (ih kz _ _ (by simpa using hl) rs qs)
    exact gen ds kz vs its lz rs rv
  have out := keyedOut_each kOf ko items
  obtain ⟨us, qu, ru⟩ : ∃ us, Vals us (sortVals (dataKind s.heap (kz.map fun ns => PyData.tuple (ns.map .int))) false kA.toList its) ∧ Reps X.K F us (((ds.zip kz).mergeSort (PySem.W.dataLe false kOf)).map (·.1)) := by
    have gen : ∀ (bs : List (D × List Int)) (ws : List Value), EachIs (RItem X F) ws bs → ∃ us, Vals us ws ∧ Reps X.K F us (bs.map (·.1)) := by
      intro bs
      induction bs with
      | nil => intro ws e; cases e; exact ⟨[], .nil, .nil⟩
      | cons b bs ih =>
        intro ws e
        cases e with
        | cons h t =>
          obtain ⟨us, a1, a2⟩ := ih _ t
          obtain ⟨v, b1, b2⟩ := h
          exact ⟨v :: us, .cons b1 a1, .cons b2 a2⟩
    exact gen _ _ out
  have lo := ko.length (by rw [List.length_map, List.length_zip]; omega)
  refine h _ us (Inv.write2 (t' := tk) I (by rw [ha]; exact True.intro) hb kept ⟨_, n3⟩ ?_) ru
  exact ⟨by rw [qu.length, lo]; exact hZ, _, c, qu, n3⟩
open PySem.W in
/-- the loop over the items, then the sort -/
theorem sort_rest {k : Nat} {f a kS : Addr} {fd : FuncData} {ps : List Str} {m : MF} {e1 : Nat} {its : List Value} {vs : List V} {ds : List D} {kz : List (List Int)} {A : Around} {E : Value → Shared → Prop} {P : PySem.Fin → Shared → Prop}
    (C : FnG X.prog X.w X.K X.mg X.base (L2.CX X.prog X.w) k f fd ps (spM X.K 1 m)) (bnd : Binds X.K fd ps []) (sl : Still A) (sb : Sub X k A)
    (I : Inv X pins σ H s) (sm : Same F H) (fa : F a = none) (ha : H a = some (ObjO a (seqObj "list" #[] e1))) (hb : FpOk X pins H kS) (hka : kS ≠ a) (nk : s.heap.get? kS = some (seqObj "list" #[] 0))
    (rv : Vals vs its) (rs : Reps X.K F vs ds) (hk : keysI m ds = some kz) (hZ : its.length ≤ sizeLine) (ne : (kz.all fun k => !k.isEmpty) = true)
    (h : ∀ F' H' s' us, Aft F H F' H' → Inv X pins σ (upd H' a (.lst us)) s' → Reps X.K F' us (((ds.zip kz).mergeSort (PySem.W.dataLe false kOf)).map (·.1)) → P (.done (.ret .none)) s') :
    wpAny (model X.prog X.w) A (ksk_rest a (.ref f) false its.toArray e1 (.ref kS)) P E s := by
  have lx : its.length = ds.length := by rw [← rv.length, rs.length]
  have lk : kz.length = its.length := by rw [keysI_len hk, lx]
  unfold ksk_rest
  refine wpAny_bind (wpAny_rule ?_)
  first
    | rw [List.forIn_toArray]
    | (rw [← Array.forIn_toList]; simp only [List.toList_toArray])
    | rw [← Array.forIn_toList]
  refine wpAny_bind (ksk_fold (fun i s' => ∃ F' H' kA e ks, Aft F H F' H' ∧ Inv X pins σ H' s' ∧ H' kS = none ∧ s'.heap.get? kS = some (seqObj "list" kA e) ∧ Vals ks kA.toList ∧ Reps X.K F' ks ((kz.take i).map fun ns => D.tup (ns.map .int))) its 0 s
    ⟨F, H, #[], 0, [], Aft.refl sm, I, hb.1, nk, .nil, by rw [List.take_zero]; exact .nil⟩ ?step ?done)
  case step =>
    rintro j x s' hx ⟨F', H', kA, e, ks, af, I', fk, nk', qk, rk⟩
    simp only [Nat.zero_add] at rk ⊢
    have hj : j < its.length := (List.getElem?_eq_some_iff.mp hx).1
    obtain ⟨d, hd⟩ : ∃ d, ds[j]? = some d := ⟨_, List.getElem?_eq_getElem (by omega)⟩
    obtain ⟨ns, hn⟩ : ∃ ns, kz[j]? = some ns := ⟨_, List.getElem?_eq_getElem (by omega)⟩
    obtain ⟨v, hv, rd⟩ := rs.get hd
    obtain ⟨x', hx', rx⟩ := rv.get hv
    rw [hx] at hx'
    cases hx'
    have hb' : FpOk X pins H' kS := ⟨fk, hb.2⟩
    refine wpAny_bind (wpAny_attempt (key_call C bnd sl sb I' af.sub (rd.up af.ext) rx (keysI_at hk hd hn) fun u v' F2 H2 s2 af2 I2 ru rv2 keep => ?_))
    try dsimp only
    obtain ⟨nk2, fk2⟩ := keep kS _ nk' fk (fp_notin I' hb')
    have hb2 : FpOk X pins H2 kS := ⟨fk2, hb.2⟩
    have sz : kA.size ≤ its.length := by
      have e3 : kA.size = min j kz.length := by rw [← Array.length_toList, ← qk.length, rk.length, List.length_map, List.length_take]
      rw [e3]
      exact Nat.le_trans (Nat.min_le_left _ _) (Nat.le_of_lt hj)
    have up := Heap.SameBut.update s2.heap kS (Obj.mapSeq (·.push u))
    obtain ⟨c2, hc2⟩ : ∃ c2, (s2.heap.update kS (Obj.mapSeq (·.push u))).get? kS = some (seqObj "list" (kA.push u) c2) := ⟨_, get?_update_seq nk2 (·.push u)⟩
    refine wpAny_bind (listUpdate_at nk2 rfl ?_ (Nat.le_trans sz hZ) (by show (kA.push u).size ≤ _; rw [Array.size_push]; omega))
    obtain ⟨f0, f1, f2, f3, f4, f5⟩ := hb2
    have I3 : Inv X pins σ H2 { s2 with heap := s2.heap.update kS (Obj.mapSeq (·.push u)) } := I2.turned (t' := s2.toks) (fun b o hb e => (up.2 b hb).trans e) f0 f1 f3 f4 f5
    have ek : kz.take (j + 1) = kz.take j ++ [ns] := by rw [List.take_add_one, hn]; simp
    refine wpAny_pure ⟨rfl, F2, H2, kA.push u, c2, ks ++ [v'], af.trans af2, I3, fk2, hc2, ?_, ?_⟩
    · have ea : (kA.push u).toList = kA.toList ++ [u] := by simp
      rw [ea]
      exact qk.append (.cons ru .nil)
    · rw [ek, List.map_append]
      exact (rk.up af2.ext).append (.cons rv2 .nil)
  case done =>
    rintro s' ⟨F', H', kA, e, ks, af, I', fk, nk', qk, rk⟩
    have e3 : kz.take (0 + its.length) = kz := List.take_of_length_le (by omega)
    rw [e3] at rk
    obtain ⟨fa', ha'⟩ := af.frn a _ ha fa
    try dsimp only
    refine wpAny_bind (listItems_at nk' rfl ?_)
    have hu : A.units + 2 < cLine := by have := sb.room.un; omega
    exact sort_end I' af.sub fa' ha' ⟨fk, hb.2⟩ hka nk' rv (rs.up af.ext) qk rk lk hZ ne hu fun s2 us I2 r2 => h F' H' s2 us af I2 r2
open PySem.W in
theorem sorted_run {k : Nat} {f l : Addr} {fd : FuncData} {ps : List Str} {m : MF} {xs : List V} {ds : List D} {kz : List (List Int)} {Q : VK} (C : FnG X.prog X.w X.K X.mg X.base (L2.CX X.prog X.w) k f fd ps (spM X.K 1 m)) (bnd : Binds X.K fd ps [])
    (sl : Still X.A) (room : Room (k + 2) X.A) (I : Inv X pins σ H s) (sm : Same F H) (hl : SqL X.K H l xs) (rs : Reps X.K F xs ds) (hk : keysI m ds = some kz) (ne : (kz.all fun k => !k.isEmpty) = true)
    (q : ∀ p vs F' H', Aft F H F' H' → H p = none → H' p = none → Reps X.K F' vs (((ds.zip kz).mergeSort (PySem.W.dataLe false kOf)).map (·.1)) → Q (.ref p) (upd H' p (.lst vs))) :
    wpAny (model X.prog X.w) X.A (call (.builtin "sorted") [.ref l] [(Str.ofString "key", .ref f)]) (EP X pins σ Q) X.xe s := by
  obtain ⟨its, rv, pl, hz⟩ := I.list hl
  have lx : its.length = ds.length := by rw [← rv.length, rs.length]
  have lk : kz.length = its.length := by rw [keysI_len hk, lx]
  have hZ : its.length ≤ sizeLine := by rw [← rv.length]; exact hz
  have sb2 : Sub X k X.A.in1.in1 := (Sub.in1 (Sub.in1 ⟨room, rfl⟩))
  refine sorted_of_sort pl.isList hZ (ksk_s1 _ _) (fun x => ksk_l1 _ _) fun E' => ?_
  rw [ksk_t1]
  -- the copy is tracked to the sign
  have hcp := copyHeap_at s.heap its
  have I0 : Inv X pins σ (upd H (s.heap.objs.size + 1) (ObjO (s.heap.objs.size + 1) (seqObj "list" its.toArray 0))) { s with heap := copyHeap s.heap its } :=
    I.laid (t' := s.toks) (fun b o e => copyHeap_old e) (Nat.le_succ _) (objO_ok hcp)
  have fresh : H (s.heap.objs.size + 1) = none := I.hok.fresh (Nat.le_succ _)
  have f0 : F (s.heap.objs.size + 1) = none := sm.free fresh
  have ho1 : ∃ e1, ((copyHeap s.heap its).update (s.heap.objs.size + 1) (Obj.mapSeq fun _ => (#[] : Array Value))).get? (s.heap.objs.size + 1) = some (seqObj "list" #[] e1) := ⟨_, get?_update_seq hcp fun _ => #[]⟩
  obtain ⟨e1, ho1⟩ := ho1
  have szc : (copyHeap s.heap its).objs.size = s.heap.objs.size + 1 + 1 := by
    unfold copyHeap
    rw [size_push', Heap.size_update, size_push']
  have up1 := Heap.SameBut.update (copyHeap s.heap its) (s.heap.objs.size + 1) (Obj.mapSeq fun _ => (#[] : Array Value))
  have I1 : Inv X pins σ (upd H (s.heap.objs.size + 1) (ObjO (s.heap.objs.size + 1) (seqObj "list" #[] e1))) { s with heap := (copyHeap s.heap its).update (s.heap.objs.size + 1) (Obj.mapSeq fun _ => (#[] : Array Value)) } := by
    have w := d_write (t' := s.toks) (ob := ObjO (s.heap.objs.size + 1) (seqObj "list" #[] e1)) I0 (by rw [upd_same]; exact True.intro) up1 ⟨_, ho1⟩ (objO_ok ho1)
    rw [upd_upd] at w
    exact w
  unfold ksk_tree
  refine wpAny_bind (listItems_at hcp rfl ?_)
  refine wpAny_bind (listUpdate_at hcp rfl ?_ (by rw [List.size_toArray]; exact hZ) (Nat.zero_le _))
  refine wpAny_bind (seqEpoch_at ho1 rfl ?_)
  refine wpAny_bind (wpAny_newTuple ?_ (by show its.length ≤ _; exact hZ))
  refine wpAny_bind (wpAny_newList ?_ (Nat.zero_le _))
  refine wpAny_holding ?_
  generalize hT : ((copyHeap s.heap its).update (s.heap.objs.size + 1) (Obj.mapSeq fun _ => (#[] : Array Value))) = h1 at *
  have sz1 : h1.objs.size = s.heap.objs.size + 1 + 1 := by rw [← hT, Heap.size_update, szc]
  have grow : ∀ b o, h1.get? b = some o → ((h1.push (seqObj "tuple" its.toArray 0)).push (seqObj "list" #[] 0)).get? b = some o := fun b o e => Heap.get?_push_of_some _ (Heap.get?_push_of_some _ e)
  have I2 : Inv X pins σ (upd H (s.heap.objs.size + 1) (ObjO (s.heap.objs.size + 1) (seqObj "list" #[] e1))) { s with heap := (h1.push (seqObj "tuple" its.toArray 0)).push (seqObj "list" #[] 0) } := I1.kept (t' := s.toks) grow
  have le : h1.objs.size ≤ (h1.push (seqObj "tuple" its.toArray 0)).objs.size := by rw [size_push']; exact Nat.le_succ _
  have fk : upd H (s.heap.objs.size + 1) (ObjO (s.heap.objs.size + 1) (seqObj "list" #[] e1)) (h1.push (seqObj "tuple" its.toArray 0)).objs.size = none := I1.hok.fresh le
  have fp : FpOk X pins (upd H (s.heap.objs.size + 1) (ObjO (s.heap.objs.size + 1) (seqObj "list" #[] e1))) (h1.push (seqObj "tuple" its.toArray 0)).objs.size := I1.fpOk le fk
  refine sort_rest C bnd (in1_still (in1_still sl)) sb2 (P := fun f s' => f = .done (.ret .none) ∧ EP X pins σ Q (.ref (s.heap.objs.size + 1)) s') I2 (fun b o e => ?_) f0 upd_same fp (by rw [size_push', sz1]; exact Nat.ne_of_gt (by omega)) (Heap.get?_push_size _ rfl) rv rs hk hZ ne fun F' H' s' us af I3 r3 => ?_
  · rw [upd_ne (ne_of_none e f0)]
    exact sm _ _ e
  · obtain ⟨fa, ha⟩ := af.frn _ _ upd_same f0
    have same : upd H' (s.heap.objs.size + 1) (.lst us) = upd (fun b => if b = s.heap.objs.size + 1 then none else H' b) (s.heap.objs.size + 1) (.lst us) := by
      funext b
      unfold upd
      split
      · rfl
      · rename_i z
        exact (if_neg z).symm
    rw [same] at I3
    refine ⟨rfl, .ref (s.heap.objs.size + 1), _, I3, rfl, q _ us F' _ ⟨af.ext, fun b o z => ?_, fun p o h f => ?_, fun b z => ?_⟩ fresh (if_pos rfl) r3⟩
    · show (if b = s.heap.objs.size + 1 then none else H' b) = some o
      rw [if_neg (ne_of_none z fa)]
      exact af.sub _ _ z
    · have np : p ≠ s.heap.objs.size + 1 := ne_of_none h fresh
      obtain ⟨a1, a2⟩ := af.frn p o (by rw [upd_ne np]; exact h) f
      refine ⟨a1, ?_⟩
      show (if p = s.heap.objs.size + 1 then none else H' p) = some o
      rw [if_neg np]
      exact a2
    · by_cases e : b = s.heap.objs.size + 1
      · rw [e]; exact fresh
      · have z : (if b = s.heap.objs.size + 1 then none else H' b) = none := z
        rw [if_neg e] at z
        have := af.dom b z
        rwa [upd_ne e] at this
end
/-! ### the rule -/
theorem StM.after {M : MC} {σ : L2.St} {F H F' H' : Hp} {l : Ld} (st : StM M F σ H l) (af : Aft F H F' H') : StM M F' σ H' l ∧ Gr σ l l F H F' H' := by
  have a : After M.K F H F' H' [] [] [] := ⟨af.ext, af.sub, fun p o h f _ => af.frn p o h f, af.dom, fun i s xs e => by simp at e, fun i d e => by simp at e⟩
  have z := after_ok (as := []) (ss := []) (ss' := []) st .nil rfl List.nodup_nil rfl a
  have e : putA [] ([] : List Sl) l = l := by
    rw [putA]
    all_goals intros; contradiction
  rw [e] at z
  exact z
noncomputable def sortKE (m : MF) (g : ME) : ML := fun l => (g l).bind fun d l1 => match d with
  | .list ds => Res.lift (sortKD m ds) l1
  | _ => .stuck
section
variable {X : Cx} {M : MC} {E : L2.St → XK} {e : Expr} {ga : ME} {pos p p2 kp : Pos} {x : Str} {k : Nat} {ps : List Str} {m : MF}
def rSortK (X : Cx) (f : V) (m : MF) : List V → List V → Hp → VK → Prop := fun xs zs H Q => ∃ F l vs ds kz, xs = [.ref l] ∧ zs = [f] ∧ Same F H ∧ F l = some (.lst vs) ∧ Reps X.K F vs ds ∧ keysI m ds = some kz ∧ (kz.all fun k => !k.isEmpty) = true ∧
  ∀ p us F' H', Aft F H F' H' → H p = none → H' p = none → Reps X.K F' us (((ds.zip kz).mergeSort (PySem.W.dataLe false kOf)).map (·.1)) → Q (.ref p) (upd H' p (.lst us))
theorem cr_sortK {f : Addr} {fd : FuncData} (C : FnG X.prog X.w X.K X.mg X.base (L2.CX X.prog X.w) k f fd ps (spM X.K 1 m)) (bnd : Binds X.K fd ps []) (sl : Still X.A) (room : Room (k + 2) X.A) :
    CallRK X (.builtin "sorted") [Str.ofString "key"] (rSortK X (.ref f) m) := by
  intro pins s σ H xs zs us ws Q I r1 r2 h
  obtain ⟨F, l, vs, ds, kz, rfl, rfl, sm, hl, rs, hk, ne, q⟩ := h
  obtain ⟨u, rfl, ru⟩ := vals1 r1
  obtain ⟨w, rfl, rw⟩ := vals1 r2
  cases ru
  cases rw
  exact sorted_run C bnd sl room I sm (SqL.of (sm _ _ hl)) rs hk ne q
theorem ml_sortK (C : Has X.prog X.w X.K X.mg X.base (L2.CX X.prog X.w) k x ps [] (spM X.K 1 m)) (eK : X.K = M.K) (sl : Still X.A) (room : Room (k + 2) X.A) (gs : Gl X "sorted") (hm : X.mg "sorted" = none) (gl : Gl X x) (he : PE X e (mE M E ga))
    (nd : (x == ("__debug__" : Str)) = false := by decide) (s1 : starEach [e] X.env = (false, eval e X.env) :: starEach [] X.env := by rfl)
    (b1 : backTo pos (starEach [e] X.env) = (false, eval e X.env) :: backTo pos (starEach [] X.env) := by rfl) (b2 : (backTo pos (starEach [e] X.env)).any (·.1) = false := by rfl)
    (b3 : (backToKw pos (keywordEach [⟨some "key", .Name x p2, kp⟩] X.env)).all (·.1.isSome) = true := by rfl) (b4 : (backToKw pos (keywordEach [⟨some "key", .Name x p2, kp⟩] X.env)).any (·.1.isNone) = false := by rfl)
    (b5 : (backToKw pos (keywordEach [⟨some "key", .Name x p2, kp⟩] X.env)).filterMap (·.1) = [Str.ofString "key"] := by rfl) :
    PE X (.Call (.Name "sorted" p) [e] [⟨some "key", .Name x p2, kp⟩] pos) (mL M E (sortKE m ga)) := by
  obtain ⟨f, fd, dsv, F, isf, kpp, bnd, dv⟩ := C
  cases dv
  refine pe_imp (pe_callBK (cr_sortK F bnd sl room) gs hm (by decide +kernel) (pa_cons he pa_nil s1) (pk_cons (pe_glob (v := .ref f) gl isf rfl nd) pk_nil) (by decide) (by decide) b1 b2 b3 b4 b5) fun σ H Q z => ?_
  obtain ⟨F0, l, st, w⟩ := z
  refine ⟨F0, l, st, (wR.bind w).mono fun d l1 F1 H1 g1 st1 w1 v rv => ?_⟩
  cases d with
  | list ds =>
    dsimp only at w1
    cases hs : sortKD m ds with
    | none => rw [hs] at w1; exact w1.elim
    | some rds =>
      rw [hs] at w1
      obtain ⟨kz, hk, hs⟩ := Option.bind_eq_some_iff.mp hs
      split at hs
      · rename_i ne
        cases hs
        cases rv with
        | list hl rs =>
          refine ⟨F1, _, _, ds, kz, rfl, rfl, st1.sub, hl, by rw [eK]; exact rs, hk, ne, fun p us F' H' af np np' ru => ?_⟩
          rw [eK] at ru
          obtain ⟨st2, g2⟩ := st1.after af
          have nw := Nw.beside (o := .lst us) st2.sub np'
          refine w1 F' _ (g2.trans (st2.gr nw)) (st2.new nw) p us upd_same (af.sub.free np') (st1.domH p np) (g1.dom _ np) (fun o => ?_) ru
          obtain ⟨⟨ws, z⟩, _⟩ := st2.ownH o
          rw [np'] at z
          cases z
      · cases hs
  | _ => exact w1.elim
end
end Sb

set_option maxHeartbeats 1000000
/-! Sb, part D5: try .. except C as e on the mirror road. -/
namespace Sb
open PySem PySem.Spec PyProof.Rows L2

/-- around a suite: the data with the error's field, the error's slot -/
def MC.exc (M : MC) (F1 : Hp) (i : Nat) (a : Addr) : MC := { M with F0 := F1, ps := (i, a) :: M.ps }
def E0s : L2.St → XK := fun _ _ _ _ => False
/-- what the written part says of the package's errors (class, field) -/
def ErrsF (K : PySem.W.Frag) (es : List (Str × Str)) : Prop := ∀ p ∈ es, ErrC K (He.ga K p.1) ∧ PySem.W.findIn K (.ref (He.ga K p.1)) p.2 = some none
/-- which errors a clause takes -/
def ExF (K : PySem.W.Frag) (c : Value) (tab : List (Str × Bool)) : Prop := ∀ p ∈ tab, PySem.W.exmOne K (.ref (He.ga K p.1)) c = some p.2
/-- which errors are of a class -/
def IsxF (K : PySem.W.Frag) (c : Value) (tab : List (Str × Bool)) : Prop := ∀ p ∈ tab, PySem.W.kitOne K (.ref (He.ga K p.1)) c = some p.2
theorem errsFB_ok {K : PySem.W.Frag} {es : List (Str × Str)} (h : errsFB K es = true) : ErrsF K es := fun p m => by
  have := List.all_eq_true.mp h p m
  rw [Bool.and_eq_true] at this
  exact ⟨errB_ok this.1, of_decide_eq_true this.2⟩
theorem exFB_ok {K : PySem.W.Frag} {c : Value} {tab : List (Str × Bool)} (h : exFB K c tab = true) : ExF K c tab := fun p m => of_decide_eq_true (List.all_eq_true.mp h p m)
theorem isxFB_ok {K : PySem.W.Frag} {c : Value} {tab : List (Str × Bool)} (h : isxFB K c tab = true) : IsxF K c tab := fun p m => of_decide_eq_true (List.all_eq_true.mp h p m)

/-! ### mirrors -/
structure ClM where
  tab : List (Str × Bool)
  es : List (Str × Str)
  i : Nat
  h : Str → Str → D → MS
def SRes.less (i : Nat) : SRes → SRes
  | .nx l => .nx (l.set i none)
  | .rt s l => .rt s (l.set i none)
  | .bk l => .bk (l.set i none)
  | .ct l => .ct (l.set i none)
  | .err _ _ _ _ => .stuck
  | .stuck => .stuck
def sCls : List ClM → Str → Str → D → MS
  | [], c, f, d => fun l => .err c f d l
  | k :: r, c, f, d => fun l => match k.tab.lookup c with
    | some true => if (c, f) ∈ k.es ∧ k.i < l.length then (k.h c f d (l.set k.i none)).less k.i else .stuck
    | some false => sCls r c f d l
    | none => .stuck
def sTry (b : MS) (cs : List ClM) : MS := fun l => match b l with
  | .err c f d l' => sCls cs c f d l'
  | r => r

/-! ### the state in a suite -/
section
variable {M : MC} {σ : L2.St} {F H : Hp} {l : Ld} {i : Nat} {a dd : Addr} {f : Str} {u : V}
theorem not_own_xd (st : StM M F σ H l) (hd : H dd = some (.xd [(f, u)])) : ¬ Own σ l dd := by
  rintro ⟨j, o, e, es⟩
  obtain ⟨v, ev, p, h, rfl, hp, _, ow, _⟩ := st.slot j _ e
  rw [es] at ev
  cases ev
  rw [hd] at hp
  cases hp
  cases o with
  | lst xs => obtain ⟨_, z, _⟩ := ow; cases z
  | ins c fs => obtain ⟨_, _, z, _⟩ := ow; cases z
  | dct w kvs => obtain ⟨_, _, z, _⟩ := ow; cases z
theorem StM.into (st : StM M F σ H l) (hi : i < σ.length) (np : NoPar M i) (hd : H dd = some (.xd [(f, u)])) (fd : F dd = none) (h0 : M.H0 dd = none) (na : H a = none) :
    StM (M.exc (upd F dd (.xd [(f, u)])) i a) (upd F dd (.xd [(f, u)])) (σ.set i (some (.ref a))) H (l.set i none) := by
  have st1 := st.adopt hd fd h0 (not_own_xd st hd)
  have h0a : M.H0 a = none := st.domH a na
  refine ⟨st1.sub, by rw [List.length_set, List.length_set]; exact st.len, fun j s e => ?_, fun j k xs ys v a1 b1 c1 d1 => ?_, Same.refl _, fun b o hb fb nb => fb, fun b o hb nb => ?_, st.domH, fun q m => ?_⟩
  · rcases get_set e with ⟨_, z⟩ | ⟨ne, z⟩
    · cases z
    · obtain ⟨v, e1, ok⟩ := st1.slot j s z
      refine ⟨v, by rw [List.getElem?_set_ne ne]; exact e1, ?_⟩
      cases s with
      | fr d => exact ok
      | ow o =>
        obtain ⟨p, h, rfl, h1, h2, h3, h4⟩ := ok
        exact ⟨p, h, rfl, h1, h2, h3, h4.imp id (List.mem_cons_of_mem _)⟩
  · rcases get_set a1 with ⟨_, z⟩ | ⟨n1, z1⟩
    · cases z
    · rcases get_set b1 with ⟨_, z⟩ | ⟨n2, z2⟩
      · cases z
      · rw [List.getElem?_set_ne n1] at c1
        rw [List.getElem?_set_ne n2] at d1
        exact st.inj j k xs ys v z1 z2 c1 d1
  · have nb : b ∉ M.ps.map (·.2) := fun z => nb (List.mem_cons_of_mem _ z)
    exact st.keepH b o hb nb
  · rcases List.mem_cons.mp m with rfl | m
    · rw [List.getElem?_set_self hi]
    · rw [List.getElem?_set_ne (Ne.symm (np q m))]
      exact st.pars q m
theorem StM.outof {σ1 : L2.St} {F1 H1 : Hp} {l1 : Ld} {σ2 : L2.St} {F2 H2 : Hp} {l2 : Ld} (st : StM M F1 σ1 H1 l1) (na : M.H0 a = none) (np : NoPar M i) (st2 : StM (M.exc F1 i a) F2 σ2 H2 l2) : StM M F2 (σ2.set i none) H2 (l2.set i none) := by
  have ex : ∀ b o, M.H0 b = some o → b ∉ M.ps.map (·.2) → b ∉ (M.exc F1 i a).ps.map (·.2) := fun b o hb nb z => by
    rcases List.mem_cons.mp (show b ∈ a :: M.ps.map (·.2) from z) with rfl | z
    · rw [na] at hb; cases hb
    · exact nb z
  refine ⟨st2.sub, by rw [List.length_set, List.length_set]; exact st2.len, fun j s e => ?_, fun j k xs ys v a1 b1 c1 d1 => ?_, st.keepF.trans st2.keepF, fun b o hb fb nb => ?_, fun b o hb nb => st2.keepH b o hb (ex b o hb nb), st2.domH, fun q m => ?_⟩
  · rcases get_set e with ⟨_, z⟩ | ⟨ne, z⟩
    · cases z
    · obtain ⟨v, e1, ok⟩ := st2.slot j s z
      refine ⟨v, by rw [List.getElem?_set_ne ne]; exact e1, ?_⟩
      cases s with
      | fr d => exact ok
      | ow o =>
        obtain ⟨p, h, rfl, h1, h2, h3, h4⟩ := ok
        refine ⟨p, h, rfl, h1, h2, h3, h4.imp id fun z => ?_⟩
        rcases List.mem_cons.mp (show (j, p) ∈ (i, a) :: M.ps from z) with z | z
        · cases z; exact (ne rfl).elim
        · exact z
  · rcases get_set a1 with ⟨_, z⟩ | ⟨n1, z1⟩
    · cases z
    · rcases get_set b1 with ⟨_, z⟩ | ⟨n2, z2⟩
      · cases z
      · rw [List.getElem?_set_ne n1] at c1
        rw [List.getElem?_set_ne n2] at d1
        exact st2.inj j k xs ys v z1 z2 c1 d1
  · exact st2.newF b o hb (st.newF b o hb fb nb) (ex b o hb nb)
  · rw [List.getElem?_set_ne (Ne.symm (np q m))]
    exact st2.pars q (List.mem_cons_of_mem _ m)
/-- what a suite is to reach, from what the statement is to reach -/
theorem wS.suite {E : L2.St → XK} {Dn : Ends} {r : SRes} (st : StM M F σ H l) (na : M.H0 a = none) (np : NoPar M i) {F0 : Hp} (e0 : Same F0 F) (w : wS M E F0 Dn (r.less i)) : wS (M.exc F i a) E0s F (Ends.less Dn i) r := by
  cases r with
  | nx l1 => exact fun σ' F' H' e s => w _ F' H' (e0.trans e) (st.outof na np s)
  | bk l1 => exact fun σ' F' H' e s => w _ F' H' (e0.trans e) (st.outof na np s)
  | ct l1 => exact fun σ' F' H' e s => w _ F' H' (e0.trans e) (st.outof na np s)
  | rt s l1 =>
    intro v σ' F' H' e st' rv
    refine w v _ F' H' (e0.trans e) (st.outof na np st') ?_
    cases s with
    | fr d => exact rv
    | ow o => exact rv
  | err c f d l1 => exact w.elim
  | stuck => exact w.elim
end

/-! ### rules -/
/-- what a suite's walk may use -/
structure XH (M : MC) (i : Nat) (a : Addr) (oe : Obj) (dd : Addr) (c f : Str) (d : D) (F1 : Hp) (es : List (Str × Str)) : Prop where
  z : Zc (.ref (He.ga M.K c)) (some dd) oe
  fl : ∃ vs, oe.data = .fields vs
  cf : (c, f) ∈ es
  x : ∃ u, F1 dd = some (.xd [(f, u)]) ∧ Rep M.K F1 u d
inductive ClsM (X : Cx) (M : MC) : List ExceptHandler → List ClM → Prop
  | nil : ClsM X M [] []
  | cons (c : Value) (k : ClM) {x n : Str} {st : Stmt} {su : List Stmt} {np pos : Pos} {hs : List ExceptHandler} {l : List ClM} (slot : X.N[k.i]? = some n) (loc : X.env.kindOf n = some .local) (nm : Names X x c) (ex : ExF M.K c k.tab) (nop : NoPar M k.i)
      (run : ∀ (a : Addr) (oe : Obj) (dd : Addr) (c f : Str) (d : D) (F1 : Hp) (pn : List (Addr × Obj)), XH M k.i a oe dd c f d F1 k.es → PSs (X.suite a ((a, oe) :: pn)) (st :: su) (mS (M.exc F1 k.i a) E0s (k.h c f d)))
      (r : ClsM X M hs l) : ClsM X M (.ExceptHandler (some (.Name x np)) (some n) (st :: su) pos :: hs) (k :: l)
/-- the clause as the layer below has it -/
def ClM.cl (M : MC) (k : ClM) (c : Value) : Cl := ⟨c, k.i, fun a cls d => fun Dn σ H => ∃ (c f : Str) (dat : D) (dd : Addr) (oeX : Prop) (F1 : Hp), cls = .ref (He.ga M.K c) ∧ d = some dd ∧ (c, f) ∈ k.es ∧ (∃ u, F1 dd = some (.xd [(f, u)]) ∧ Rep M.K F1 u dat) ∧ mS (M.exc F1 k.i a) E0s (k.h c f dat) Dn σ H⟩
theorem ClsM.down {X : Cx} {M : MC} (eK : X.K = M.K) (Wout : WX) : ∀ {hs : List ExceptHandler} {cs : List ClM}, ClsM X M hs cs → ∃ ls : List Cl, Cls_ X hs ls ∧
    ∀ (Dn : Ends) (F : Hp) (c f : Str) (d : D) (l : Ld), wS M (WE Wout) F Dn (sCls cs c f d l) → ∀ v dd σ F' H', Same F F' → StM M F' σ H' l → H' dd = some (.xd [(f, v)]) → F' dd = none → M.H0 dd = none → Rep M.K F' v d → wCl X.K Wout Dn ls (.ref (He.ga M.K c)) (some dd) σ H'
  | _, _, .nil => ⟨[], .nil, fun Dn F c f d l w v dd σ F' H' e st hd fd h0 r => w v dd σ F' H' e st hd fd h0 r⟩
  | _, _, .cons c0 k slot loc nm ex nop run r => by
    obtain ⟨ls, hl, hw⟩ := ClsM.down eK Wout r
    refine ⟨k.cl M c0 :: ls, .cons c0 k.i slot loc nm (fun a oe cls d pn hz hfl => ⟨fun pins s σ H Dn I z => ?_⟩) hl, fun Dn F c f d l w v dd σ F' H' e st hd fd h0 rv => ?_⟩
    · obtain ⟨c, f, dat, dd, _, F1, rfl, rfl, cf, x, z⟩ := z
      exact (run a oe dd c f dat F1 pn ⟨hz, hfl, cf, x⟩).run pins s σ H Dn I z
    · rw [sCls] at w
      cases hk : k.tab.lookup c with
      | none => rw [hk] at w; exact w.elim
      | some b =>
        rw [hk] at w
        refine ⟨b, by rw [eK]; exact ex _ (lookup_mem hk), fun hb a na => ?_, fun hb => ?_⟩
        · subst hb
          dsimp only at w
          split at w
          · rename_i cf
            have np := nop
            obtain ⟨cf, hi⟩ := cf
            rw [← st.len] at hi
            have st1 := st.into hi np hd fd h0 na
            have ext : Same F' (upd F' dd (.xd [(f, v)])) := new_same fd
            refine ⟨c, f, d, dd, True, upd F' dd (.xd [(f, v)]), rfl, rfl, cf, ⟨v, upd_same, rv.up ext⟩, upd F' dd (.xd [(f, v)]), _, st1, ?_⟩
            exact wS.suite (st.adopt hd fd h0 (not_own_xd st hd)) (st.domH a na) np (e.trans ext) w
          · exact w.elim
        · subst hb
          exact hw Dn F c f d l w v dd σ F' H' e st hd fd h0 rv
section
variable {X : Cx} {M : MC} {body : List Stmt} {h0 : ExceptHandler} {hds : List ExceptHandler} {cs : List ClM} {g : MS} {pos : Pos} {Wout : WX}
theorem ms_try (eK : X.K = M.K) (hs : X.stack = X.env :: X.outer) (hf : X.env.frame = some X.env.locals) (nd : X.N.Nodup) (tk : Takes X Wout)
    (hb : ∀ (W : WX) (pn : List (Addr × Obj)) (xe : Value → Shared → Prop), Takes (X.tr pn xe) W → PassesOwn (model X.prog X.w) X.A X.env xe → PSs (X.tr pn xe) body (mS M (WE W) g))
    (cl : ClsM X M (h0 :: hds) cs) : PS X (.Try body (h0 :: hds) [] [] pos) (mS M (WE Wout) (sTry g cs)) := by
  obtain ⟨ls, hl, hw⟩ := cl.down eK Wout
  refine ps_imp (ps_try_cl (tb := fun W => mS M (WE W) g) hs hf nd tk hb hl) fun Dn σ H z => ?_
  obtain ⟨F, l, st, w⟩ := z
  refine ⟨F, l, st, ?_⟩
  unfold sTry at w
  cases hg : g l with
  | err c f d l' =>
    rw [hg] at w
    exact fun v dd σ' F' H' e st' hd fd h0 rv => hw Dn F c f d l' w v dd σ' F' H' e st' hd fd h0 rv
  | nx l1 => rw [hg] at w; exact w
  | rt s l1 => rw [hg] at w; exact w
  | bk l1 => rw [hg] at w; exact w
  | ct l1 => rw [hg] at w; exact w
  | stuck => rw [hg] at w; exact w
/-! e.f, isinstance(e, C) in a suite -/
def xfE (f : Str) (d : D) (fld : Str) : ME := fun l => if f = fld then .ok d l else .stuck
def isxE (c : Str) (tab : List (Str × Bool)) : ME := fun l => match tab.lookup c with
  | some b => .ok (.bl b) l
  | none => .stuck
end
section
variable {X : Cx} {M : MC} {E : L2.St → XK} {i : Nat} {a : Addr} {oe : Obj} {dd : Addr} {c f : Str} {d : D} {F1 : Hp} {es : List (Str × Str)} {pn : List (Addr × Obj)} {p pos p2 : Pos} {n fld : Str}
theorem me_xf (eK : X.K = M.K) (x : XH M i a oe dd c f d F1 es) (T : ErrsF M.K es) (hN : X.N[i]? = some n) (hv : Vis X.env.scope n) (hd : (n == ("__debug__" : Str)) = false := by decide) (hcd : (n == ("__classdict__" : Str)) = false := by decide)
    (hb : attributeBase (.Name n p) fld X.env (eval (.Name n p) X.env) = eval (.Name n p) X.env := by rfl) : PE (X.suite a ((a, oe) :: pn)) (.Attribute (.Name n p) fld pos) (mE (M.exc F1 i a) E (xfE f d fld)) := by
  by_cases hf : f = fld
  · subst hf
    obtain ⟨T1, T2⟩ := T _ x.cf
    refine pe_imp (pe_xfK (K := M.K) (C := He.ga M.K c) T1.xf T2 x.z x.fl (pe_var (X := X.suite a ((a, oe) :: pn)) hN hv hd hcd) eK hb) fun σ H Q z => ?_
    obtain ⟨F, l, st, w⟩ := z
    rw [xfE, if_pos rfl] at w
    obtain ⟨u, hx, ru⟩ := x.x
    have ext : Same F1 F := st.keepF
    have pr : σ[i]? = some (some (.ref a)) := st.pars (i, a) List.mem_cons_self
    exact ⟨.ref a, pr, rfl, rfl, dd, _, u, rfl, st.sub _ _ (ext _ _ hx), by simp [List.lookup], w F H (Gr.refl _ _ _ _) st u (ru.up ext)⟩
  · refine ⟨fun pins s σ H Q I z => ?_⟩
    obtain ⟨F, l, st, w⟩ := z
    rw [xfE, if_neg hf] at w
    exact w.elim
theorem me_isx {ce : Expr} {cv : V} {cu : Value} {tab : List (Str × Bool)} (eK : X.K = M.K) (x : XH M i a oe dd c f d F1 es) (T : ErrsF M.K es) (I : IsxF M.K cu tab) (hg : Gl X "isinstance") (hm : X.mg "isinstance" = none) (hN : X.N[i]? = some n) (hv : Vis X.env.scope n) (hcl : PE (X.suite a ((a, oe) :: pn)) ce (tC cv)) (cl : ClsV cv cu)
    (hd : (n == ("__debug__" : Str)) = false := by decide) (hcd : (n == ("__classdict__" : Str)) = false := by decide)
    (hs : starEach [.Name n p, ce] X.env = (false, eval (.Name n p) X.env) :: starEach [ce] X.env := by rfl) (hs2 : starEach [ce] X.env = (false, eval ce X.env) :: starEach [] X.env := by rfl) (hpl : (backTo pos (starEach [ce] X.env)).any (·.1) = false := by rfl) :
    PE (X.suite a ((a, oe) :: pn)) (.Call (.Name "isinstance" p2) [.Name n p, ce] [] pos) (mE (M.exc F1 i a) E (isxE c tab)) := by
  refine pe_imp (pe_callB (X := X.suite a ((a, oe) :: pn)) (call_isX x.z x.fl) hg hm (by decide +kernel) (pa_cons (pe_var (X := X.suite a ((a, oe) :: pn)) hN hv hd hcd) (pa_cons hcl pa_nil hs2) hs) (by decide) (by decide) hs hpl) fun σ H Q z => ?_
  obtain ⟨F, l, st, w⟩ := z
  obtain ⟨u, hx, ru⟩ := x.x
  have ext : Same F1 F := st.keepF
  have pr : σ[i]? = some (some (.ref a)) := st.pars (i, a) List.mem_cons_self
  unfold isxE at w
  split at w
  · rename_i b hb
    refine ⟨.ref a, pr, He.ga M.K c, dd, _, cv, cu, b, rfl, rfl, rfl, st.sub _ _ (ext _ _ hx), by rw [eK]; exact (T _ x.cf).1, cl, by rw [eK]; exact I _ (lookup_mem hb), w F H (Gr.refl _ _ _ _) st _ (.bl b)⟩
  · exact w.elim
end
end Sb

set_option maxHeartbeats 1000000
/-! Sb, part D6: xs * n. -/
namespace Sb
open PySem PySem.Spec PyProof.Rows L2
def repL (xs : List D) (n : Int) : List D := (List.replicate n.toNat xs).flatten
/-- products of numbers, and of a list and a number -/
def mulDL : D → D → Option D
  | .list xs, .int n => if xs.length * n.toNat ≤ sizeLine ∧ -(2 ^ 62) ≤ n ∧ n < 2 ^ 62 then some (.list (repL xs n)) else none
  | d, e => mulD d e
section
variable {X : Cx} {K : PySem.W.Frag}
theorem reps_rep {F : Hp} {vs : List V} {ds : List D} (r : Reps K F vs ds) : ∀ n : Nat, Reps K F (List.replicate n vs).flatten (List.replicate n ds).flatten
  | 0 => .nil
  | n + 1 => by
    rw [List.replicate_succ, List.replicate_succ, List.flatten_cons, List.flatten_cons]
    exact r.append (reps_rep r n)
theorem op_mulDL : OpR X (binaryOp .Mult) (rD2 K mulDL) := by
  refine opr_imp (op_mulD (K := K) |>.or op_rep) fun x y H Q h => ?_
  obtain ⟨F, d, e, r, s, rx, ry, hf, q⟩ := h
  cases rx with
  | list h1 r1 =>
    cases ry with
    | int n =>
      rename_i a vs ds
      have hf : (if ds.length * n.toNat ≤ sizeLine ∧ -(2 ^ 62) ≤ n ∧ n < 2 ^ 62 then some (D.list (repL ds n)) else none) = some r := hf
      split at hf
      · rename_i hz
        cases hf
        refine .inr ⟨a, n, vs, rfl, rfl, s _ _ h1, by omega, by omega, by rw [r1.length]; exact hz.1, fun p np => ?_⟩
        have nw := Nw.add (o := .lst (List.replicate n.toNat vs).flatten) s np
        exact q _ _ _ nw (.list upd_same ((reps_rep r1 _).up nw.f))
      · cases hf
    | _ => cases hf
  | int i => exact .inl ⟨F, _, e, r, s, .int i, ry, hf, q⟩
  | _ => cases ry <;> cases hf
end
/-! ### a, b = a list -/
def tLstl (n : Nat) (r : List D → Ld → Option Ld) : MG
  | .list ds, l => if ds.length = n then r ds l else none
  | _, _ => none
theorem mg_lst {X : Cx} {M : MC} {pos : Pos} {es : List Expr} {k n : Nat} {ts : List Nat} {r : List D → Ld → Option Ld} (hc : X.calm = true) (h : PGs X es (mGs M ts r))
    (hn : (assignEach es X.env).length = n := by rfl) (hst : (assignEach es X.env).findIdx? (·.1) = none := by rfl) : PG X (.Tuple es k pos) (mG M ts (tLstl n r)) := pg_imp (pg_lst hc h hn hst) fun v σ H Q z => by
  obtain ⟨F, l, d, st, rv, l', e, q⟩ := z
  cases rv with
  | list ht rs =>
    have e : (if _ then _ else _) = some l' := e
    split at e
    · rename_i hl
      refine ⟨_, _, rfl, SqL.of (st.sub _ _ ht), by rw [rs.length]; exact hl, F, l, _, st, rs, l', e, q⟩
    · cases e
  | _ => cases e
end Sb

namespace Sb
open PySem PySem.Spec PyProof.Rows L2
noncomputable def b__law_bag : MS := (sSeq (sSet 2 (ifE (asB (bin2 ltD (rd 1) (lenSl 0))) (ixSl 0 (rd 1)) (cst (.int 0))))
  (sSeq (sSet 3 (ifE (asB (bin2 geD (calB absB (vCons (rd 2) vNil)) (bin2 powD (cst (.int 10)) (cst (.int 18))))) (calB absB (vCons (rd 2) vNil)) (cst (.int 0))))
  (sRetL (lstL (vCons (rd 3) (vCons (bin2 addD (bin2 addD (bin2 modD (calB intB (vCons (rd 2) vNil)) (cst (.int 2147483629))) (bin2 mulD (cst (.int 2147483648)) (rd 1))) (cst (.int 77))) (vCons (cst (.int 0)) vNil)))))))
noncomputable def m__law_bag : MF := runF b__law_bag 4 [2, 3]
noncomputable def b__law_take : MS := (sSeq (sIf (asB (bin2 gtD (ixSl 0 (cst (.int 0))) (cst (.int 0)))) (sSeq (sSet 2 (bin2 modD (calB intB (vCons (ixSl 0 (cst (.int 0))) vNil)) (rd 1)))
  (sSeq (sPut 0 (cst (.int 0)) (bin2 fdivD (ixSl 0 (cst (.int 0))) (rd 1)))
  (sRet (rd 2)))) sNil)
  (sSeq (sPut 0 (cst (.int 2)) (bin2 addD (ixSl 0 (cst (.int 2))) (cst (.int 1))))
  (sSeq (sSet 3 (bin2 addD (ixSl 0 (cst (.int 1))) (bin2 mulD (cst (.int 15485863)) (ixSl 0 (cst (.int 2))))))
  (sSeq (sSet 4 (bin2 modD (calB intB (vCons (bin2 addD (bin2 powD (rd 3) (cst (.int 3))) (bin2 mulD (cst (.int 104729)) (ixSl 0 (cst (.int 2))))) vNil)) (cst (.int 2305843009213693951))))
  (sSeq (sSet 4 (bin2 modD (calB intB (vCons (bin2 addD (bin2 addD (bin2 mulD (rd 4) (rd 4)) (bin2 mulD (cst (.int 48271)) (ixSl 0 (cst (.int 1))))) (cst (.int 7919))) vNil)) (cst (.int 2305843009213693921))))
  (sRet (bin2 modD (calB intB (vCons (bin2 fdivD (rd 4) (cst (.int 4096))) vNil)) (rd 1))))))))
noncomputable def m__law_take : MF := runF b__law_take 5 [2, 3, 4]
noncomputable def b__law_of : MS := (sRet (ixSl 1 (callE m__law_take [] (aSl 0 (aVal (lenSl 1) aNil)))))
noncomputable def m__law_of : MF := runF b__law_of 2 []
noncomputable def _law_number_b0 : MS := (sSet 2 (bin2 addD (bin2 mulD (rd 2) (cst (.int 256))) (callE m__law_take [] (aSl 0 (aVal (cst (.int 256)) aNil)))))
noncomputable def b__law_number : MS := (sSeq (sSet 1 (callE m__law_take [] (aSl 0 (aVal (cst (.int 4)) aNil))))
  (sSeq (sIf (asB (bin2 eqD (rd 1) (cst (.int 0)))) (sRet (callE m__law_of [] (aSl 0 (aVal (frz (lstL (vCons (cst (.int 0)) (vCons (cst (.int 1)) (vCons (cst (.int 190)) (vCons (cst (.int 191)) (vCons (cst (.int 192)) (vCons (cst (.int 193)) (vCons (cst (.int 255)) (vCons (cst (.int 256)) (vCons (cst (.int 257)) (vCons (cst (.int 65535)) (vCons (cst (.int 65536)) (vCons (bin2 powD (cst (.int 256)) (cst (.int 62))) (vCons (bin2 subD (bin2 powD (cst (.int 256)) (cst (.int 63))) (cst (.int 1))) vNil))))))))))))))) aNil)))) sNil)
  (sSeq (sIf (asB (bin2 eqD (rd 1) (cst (.int 1)))) (sRet (callE m__law_take [] (aSl 0 (aVal (cst (.int 400)) aNil)))) sNil)
  (sSeq (sSet 2 (cst (.int 0)))
  (sSeq (sForT (tName 3) (rng1 (vCons (bin2 addD (cst (.int 1)) (callE m__law_take [] (aSl 0 (aVal (bin2 ixD (frz (lstL (vCons (cst (.int 3)) (vCons (cst (.int 63)) vNil)))) (bin2 subD (rd 1) (cst (.int 2)))) aNil)))) vNil)) _law_number_b0)
  (sRet (rd 2)))))))
noncomputable def m__law_number : MF := runF b__law_number 4 [1, 2, 3]
noncomputable def _law_octets_e0 : ME := (callE m__law_of [] (aSl 0 (aVal (frz (lstL (vCons (cst (.int 0)) (vCons (cst (.int 255)) (vCons (callE m__law_take [] (aSl 0 (aVal (cst (.int 256)) aNil))) vNil))))) aNil)))
noncomputable def b__law_octets : MS := (sRet (calB tupleB (vCons (frz (lcL [2] (tName 2) yes _law_octets_e0 (rng1 (vCons (callE m__law_take [] (aSl 0 (aVal (bin2 addD (rd 1) (cst (.int 1))) aNil))) vNil)))) vNil)))
noncomputable def m__law_octets : MF := runF b__law_octets 3 [2]
noncomputable def _law_text_e0 : ME := (ixSl 2 (callE m__law_of [] (aSl 0 (aVal (frz (lstL (vCons (cst (.int 0)) (vCons (cst (.int 95)) (vCons (callE m__law_take [] (aSl 0 (aVal (cst (.int 96)) aNil))) vNil))))) aNil))))
noncomputable def b__law_text : MS := (sSeq (sSet 2 (cst (.str " !\"#$&'()*+,-./0123456789:;<=>?@ABCDEFGHIJKLMNOPQRSTUVWXYZ[\\]^_")))
  (sSeq (sSet 2 (bin2 addD (bin2 addD (cst (.str "\t\n")) (rd 2)) (cst (.str "`abcdefghijklmnopqrstuvwxyz{|}~"))))
  (sRet (joinE (cst (.str "")) (frz (lcL [3] (tName 3) yes _law_text_e0 (rng1 (vCons (callE m__law_take [] (aSl 0 (aVal (bin2 addD (rd 1) (cst (.int 1))) aNil))) vNil))))))))
noncomputable def m__law_text : MF := runF b__law_text 4 [2, 3]
noncomputable def b__law_integer : MS := (sSeq (sSet 1 (callE m__law_number [] (aSl 0 aNil)))
  (sRet (ifE (asB (bin2 eqD (callE m__law_take [] (aSl 0 (aVal (cst (.int 2)) aNil))) (cst (.int 0)))) (rd 1) (bin2 subD (un1 negD (cst (.int 1))) (rd 1)))))
noncomputable def m__law_integer : MF := runF b__law_integer 2 [1]
noncomputable def b_is_integer : MS := (sRet (andE (isiE tab_int (rd 0)) (notE (isiE tab_bool (rd 0)))))
noncomputable def m_is_integer : MF := runF b_is_integer 1 []
noncomputable def b_is_number : MS := (sRet (andE (callE m_is_integer [] (aSl 0 aNil)) (chn leD leD (cst (.int 0)) (rd 0) (cst (.int (256 ^ 63 - 1))))))
noncomputable def m_is_number : MF := runF b_is_number 1 []
noncomputable def b_is_byte : MS := (sRet (andE (callE m_is_integer [] (aSl 0 aNil)) (chn leD leD (cst (.int 0)) (rd 0) (cst (.int 255)))))
noncomputable def m_is_byte : MF := runF b_is_byte 1 []
noncomputable def base_bytes_c0 : MT := (asB (bin2 gtD (rd 0) (cst (.int 0))))
noncomputable def base_bytes_b1 : MS := (sSeq (sEx (mtS 1 fAppend (vCons (bin2 andD (rd 0) (cst (.int 255))) vNil)))
  (sSet 0 (bin2 shrD (rd 0) (cst (.int 8)))))
noncomputable def b_base_bytes : MS := (sSeq (sSetL 1 (lstL vNil))
  (sSeq (whileM base_bytes_c0 base_bytes_b1)
  (sSeq (sEx (mtS 1 fReverse vNil))
  (sRetS 1))))
noncomputable def m_base_bytes : MF := runF b_base_bytes 2 [0, 1]
noncomputable def b_plain_code : MS := (sSeq (sIf (asB (bin2 ltD (rd 0) (cst (.int 192)))) (sRet (frz (lstL (vCons (rd 0) vNil)))) sNil)
  (sSeq (sSet 1 (callE m_base_bytes [] (aSl 0 aNil)))
  (sRet (bin2 addD (frz (lstL (vCons (bin2 addD (cst (.int 191)) (lenSl 1)) vNil))) (rd 1)))))
noncomputable def m_plain_code : MF := runF b_plain_code 2 [1]
noncomputable def is_text_e0 : ME := (bin2 inD (rd 1) (cst (.str vCHARS)))
noncomputable def b_is_text : MS := (sRet (andE (isiE tab_str (rd 0)) (calB allB (vCons (frz (lcL [1] (tName 1) yes is_text_e0 (itE (rd 0)))) vNil))))
noncomputable def m_is_text : MF := runF b_is_text 2 [1]
noncomputable def is_octets_e0 : ME := (callE m_is_byte [] (aSl 1 aNil))
noncomputable def b_is_octets : MS := (sRet (andE (isiE tab_tuple (rd 0)) (calB allB (vCons (frz (lcL [1] (tName 1) yes is_octets_e0 (itE (rd 0)))) vNil))))
noncomputable def m_is_octets : MF := runF b_is_octets 2 [1]
noncomputable def b_is_key : MS := (sSeq (sIf (tru (callE m_is_integer [] (aSl 0 aNil))) (sRet (chn leD leD (un1 negD (cst (.int (256 ^ 63)))) (rd 0) (cst (.int (256 ^ 63 - 1))))) sNil)
  (sRet (orE (callE m_is_text [] (aSl 0 aNil)) (callE m_is_octets [] (aSl 0 aNil)))))
noncomputable def m_is_key : MF := runF b_is_key 1 []
noncomputable def b_is_plain : MS := (sRet (orE (bin2 isD (rd 0) (cst .non)) (isiE tab_bool (rd 0))))
noncomputable def m_is_plain : MF := runF b_is_plain 1 []
noncomputable def integer_row_e0 : ME := (bin2 subD (cst (.int 255)) (rd 1))
noncomputable def b_integer_row : MS := (sSeq (sIf (asB (bin2 geD (rd 0) (cst (.int 0)))) (sRet (bin2 addD (frz (lstL (vCons (cst (.int 5)) vNil))) (callE m_plain_code [] (aSl 0 aNil)))) sNil)
  (sRet (bin2 addD (frz (lstL (vCons (cst (.int 4)) vNil))) (frz (lcL [1] (tName 1) yes integer_row_e0 (itE (callE m_plain_code [] (aVal (bin2 subD (un1 negD (cst (.int 1))) (rd 0)) aNil))))))))
noncomputable def m_integer_row : MF := runF b_integer_row 2 [1]
noncomputable def scalar_row_e0 : ME := (calB ordB (vCons (rd 1) vNil))
noncomputable def b_scalar_row : MS := (sSeq (sIf (asB (bin2 isD (rd 0) (cst .non))) (sRet (frz (lstL (vCons (cst (.int 1)) vNil)))) sNil)
  (sSeq (sIf (tru (isiE tab_bool (rd 0))) (sRet (frz (lstL (vCons (bin2 addD (cst (.int 2)) (calB intB (vCons (rd 0) vNil))) vNil)))) sNil)
  (sSeq (sIf (tru (isiE tab_int (rd 0))) (sRet (callE m_integer_row [] (aSl 0 aNil))) sNil)
  (sSeq (sIf (tru (isiE tab_tuple (rd 0))) (sRet (bin2 addD (bin2 addD (frz (lstL (vCons (cst (.int 6)) vNil))) (callE m_plain_code [] (aVal (lenSl 0) aNil))) (frz (calL listB (vCons (rd 0) vNil))))) sNil)
  (sRet (bin2 addD (bin2 addD (frz (lstL (vCons (cst (.int 7)) vNil))) (callE m_plain_code [] (aVal (lenSl 0) aNil))) (frz (lcL [1] (tName 1) yes scalar_row_e0 (itE (rd 0))))))))))
noncomputable def m_scalar_row : MF := runF b_scalar_row 2 [1]
noncomputable def b_key_row : MS := (sRet (calB tupleB (vCons (callE m_scalar_row [] (aSl 0 aNil)) vNil)))
noncomputable def m_key_row : MF := runF b_key_row 1 []
noncomputable def b_sorted_keys : MS := (sRet (frz (sortKE m_key_row (frz (calL listBD (vCons (rd 0) vNil))))))
noncomputable def m_sorted_keys : MF := runF b_sorted_keys 1 []
noncomputable def steps_of_e0 (w : World) : ME := (tupE (vCons (rd 1) (vCons (rd 2) vNil)))
noncomputable def steps_of_e1 (w : World) : ME := (tupE (vCons (rd 3) (vCons (bin2 (dixD w) (rd 0) (rd 3)) vNil)))
noncomputable def b_steps_of (w : World) : MS := (sSeq (sIf (tru (isiE tab_list (rd 0))) (sRet (frz (lcL [1, 2] (tTupl 2 (tCons (tName 1) (tCons (tName 2) tNil))) yes (steps_of_e0 w) (enumerateL (vCons (rd 0) vNil))))) sNil)
  (sSeq (sIf (tru (isiE tab_dict (rd 0))) (sRet (frz (lcL [3] (tName 3) yes (steps_of_e1 w) (itE (callE m_sorted_keys [] (aSl 0 aNil)))))) sNil)
  sStuck))
noncomputable def m_steps_of (w : World) : MF := runF (b_steps_of w) 4 [1, 2, 3]
noncomputable def first_bad_e0 (w : World) (rec : MF) : ME := (callE m_is_key [] (aSl 2 aNil))
noncomputable def first_bad_b1 (w : World) (rec : MF) : MS := (sSeq (sSet 5 (callE rec [] (aSl 4 (aVal (bin2 subD (rd 1) (cst (.int 1))) aNil))))
  (sIf (asB (bin2 isNotD (rd 5) (cst .non))) (sRet (bin2 addD (tupE (vCons (rd 3) vNil)) (rd 5))) sNil))
noncomputable def b_first_bad (w : World) (rec : MF) : MS := (sSeq (sIf (orT (tru (callE m_is_plain [] (aSl 0 aNil))) (tru (callE m_is_key [] (aSl 0 aNil)))) (sRet (cst .non)) sNil)
  (sSeq (sIf (andT (notT (tru (isiTE [tab_list, tab_dict] (rd 0)))) (notT (tru (isiE tab_Tag (rd 0))))) (sRet (tupE vNil)) sNil)
  (sSeq (sIf (asB (bin2 eqD (rd 1) (cst (.int 0)))) (sRet (tupE vNil)) sNil)
  (sSeq (sIf (andT (tru (isiE tab_dict (rd 0))) (notT (tru (calB allB (vCons (frz (lcL [2] (tName 2) yes (first_bad_e0 w rec) (itE (rd 0)))) vNil))))) (sRet (tupE vNil)) sNil)
  (sSeq (sForT (tTupl 2 (tCons (tName 3) (tCons (tName 4) tNil))) (itE (callE (m_steps_of w) [] (aSl 0 aNil))) (first_bad_b1 w rec))
  (sRet (cst .non)))))))
noncomputable def m_first_bad (w : World) : Nat → MF
  | 0 => fun _ => .stuck
  | n + 1 => runF (b_first_bad w (m_first_bad w n)) 6 [2, 3, 4, 5]
noncomputable def b_is_value (w : World) : MS := (sRet (bin2 isD (callE (m_first_bad w 12) [] (aSl 0 (aVal (cst (.int (24))) aNil))) (cst .non)))
noncomputable def m_is_value (w : World) : MF := runF (b_is_value w) 1 []
noncomputable def encoded_b0 (w : World) (rec : MF) : MS := (sEx (mtS 1 fExtend (vCons (callE rec [] (aSl 2 aNil)) vNil)))
noncomputable def encoded_b1 (w : World) (rec : MF) : MS := (sSeq (sEx (mtS 1 fExtend (vCons (callE m_scalar_row [] (aSl 3 aNil)) vNil)))
  (sEx (mtS 1 fExtend (vCons (callE rec [] (aVal (bin2 (dixD w) (rd 0) (rd 3)) aNil)) vNil))))
noncomputable def b_encoded (w : World) (rec : MF) : MS := (sSeq (sIf (tru (isiE tab_list (rd 0))) (sSeq (sSetL 1 (bin2L catD (frz (lstL (vCons (cst (.int 8)) vNil))) (callE m_plain_code [] (aVal (calB lenBD (vCons (rd 0) vNil)) aNil))))
  (sSeq (sForT (tName 2) (itE (rd 0)) (encoded_b0 w rec))
  (sRetS 1))) sNil)
  (sSeq (sIf (tru (isiE tab_dict (rd 0))) (sSeq (sSetL 1 (bin2L catD (frz (lstL (vCons (cst (.int 9)) vNil))) (callE m_plain_code [] (aVal (calB lenBD (vCons (rd 0) vNil)) aNil))))
  (sSeq (sForT (tName 3) (itE (callE m_sorted_keys [] (aSl 0 aNil))) (encoded_b1 w rec))
  (sRetS 1))) sNil)
  (sSeq (sIf (tru (isiE tab_Tag (rd 0))) (sRet (bin2 addD (bin2 addD (frz (lstL (vCons (cst (.int 10)) vNil))) (callE m_plain_code [] (aVal (un1 (fldD "number" ["Tag"]) (rd 0)) aNil))) (frz (calL listB (vCons (un1 (fldD "content_row" ["Tag"]) (rd 0)) vNil))))) sNil)
  (sRet (callE m_scalar_row [] (aSl 0 aNil))))))
noncomputable def m_encoded (w : World) : Nat → MF
  | 0 => fun _ => .stuck
  | n + 1 => runF (b_encoded w (m_encoded w n)) 4 [1, 2, 3]
noncomputable def b_checked_row (w : World) : MS := (sSeq (sSet 1 (callE (m_first_bad w 12) [] (aSl 0 (aVal (cst (.int (24))) aNil))))
  (sSeq (sIf (asB (bin2 isNotD (rd 1) (cst .non))) (sRaise "BadValue" "path" (rd 1)) sNil)
  (sRet (calB tupleB (vCons (callE (m_encoded w 4) [] (aSl 0 aNil)) vNil)))))
noncomputable def m_checked_row (w : World) : MF := runF (b_checked_row w) 2 [1]
noncomputable def b_Tag___init__ (w : World) : MS := (sSeq (sIf (notT (tru (callE m_is_number [] (aSl 1 aNil)))) (sRaise "BadNumber" "number" (rd 1)) sNil)
  (sSeq (sFldM 0 "number" ["Tag"] (rd 1))
  (sSeq (sFldM 0 "content_row" ["Tag"] (rd 3))
  (sIf (asB (bin2 isD (rd 3) (cst .non))) (sFldM 0 "content_row" ["Tag"] (callE (m_checked_row w) [] (aSl 2 aNil))) sNil))))
noncomputable def m_Tag___init__ (w : World) : MF := runF (b_Tag___init__ w) 4 []
noncomputable def b_Document___init__ : MS := (sSeq (sFldM 0 "data" ["Document"] (rd 1))
  (sFldM 0 "kind" ["Document"] (bin2 ixD (cst (.tup (vKINDS.map .str))) (ixSl 1 (cst (.int 0))))))
noncomputable def m_Document___init__ : MF := runF b_Document___init__ 2 []
noncomputable def b_Document_of (w : World) : MS := (sRet (mkLE 0 "Document" m_Document___init__ [] (aVal (callE (m_checked_row w) [] (aSl 1 aNil)) aNil)))
noncomputable def m_Document_of (w : World) : MF := runF (b_Document_of w) 2 []
noncomputable def b__law_bad (w : World) : MS := (sSeq (sSet 1 (callE m__law_take [] (aSl 0 (aVal (cst (.int 4)) aNil))))
  (sSeq (sIf (asB (bin2 eqD (rd 1) (cst (.int 0)))) (sRet (callE m__law_of [] (aSl 0 (aVal (frz (lstL (vCons (bin2 addD (bin2 powD (cst (.int 256)) (cst (.int 63))) (callE m__law_number [] (aSl 0 aNil))) (vCons (bin2 subD (bin2 subD (un1 negD (cst (.int 1))) (bin2 powD (cst (.int 256)) (cst (.int 63)))) (callE m__law_number [] (aSl 0 aNil))) vNil)))) aNil)))) sNil)
  (sSeq (sIf (asB (bin2 eqD (rd 1) (cst (.int 1)))) (sRet (bin2 addD (bin2 addD (callE m__law_octets [] (aSl 0 (aVal (cst (.int 3)) aNil))) (tupE (vCons (callE m__law_of [] (aSl 0 (aVal (frz (lstL (vCons (cst (.int 256)) (vCons (un1 negD (cst (.int 1))) (vCons (cst .non) (vCons (cst (.bl true)) (vCons (cst (.str "a")) (vCons (tupE (vCons (cst (.int 1)) vNil)) vNil)))))))) aNil))) vNil))) (callE m__law_octets [] (aSl 0 (aVal (cst (.int 3)) aNil))))) sNil)
  (sSeq (sIf (asB (bin2 eqD (rd 1) (cst (.int 2)))) (sSeq (sSet 2 (frz (lstL (vCons (cmethE "Document" (m_Document_of w) [] (aVal (callE m__law_integer [] (aSl 0 aNil)) aNil)) (vCons (frzN (dispN w [((cst (.bl true)), (cst (.int 1)))])) (vCons (frzN (dispN w [((cst .non), (cst (.int 1))), ((cst (.int 2)), (cst (.int 3)))])) (vCons (frzN (dispN w [((tupE (vCons (cst (.int 5)) (vCons (cst (.int 256)) vNil))), (cst (.int 1)))])) (vCons (frzN (dispN w [((tupE (vCons (cst (.bl true)) vNil)), (cst (.int 1)))])) vNil))))))))
  (sRet (callE m__law_of [] (aSl 0 (aVal (bin2 addD (rd 2) (frz (lstL (vCons (frzN (dispN w [((cst (.int 5)), (tupE (vCons (cst (.int 256)) vNil))), ((cst (.bl true)), (cst (.int 1)))])) (vCons (frzN (dispN w [((cst (.str "a")), (frz (lstL (vCons (tupE (vCons (cst (.int 256)) vNil)) vNil)))), ((tupE vNil), (cst (.int 1))), ((cst .non), (cst (.int 2)))])) vNil))))) aNil))))) sNil)
  (sRet (frzN (dispN w [((callE m__law_of [] (aSl 0 (aVal (frz (lstL (vCons (cst (.bl false)) (vCons (bin2 powD (cst (.int 256)) (cst (.int 63))) (vCons (tupE (vCons (cst .non) vNil)) (vCons (bin2 subD (un1 negD (cst (.int 1))) (bin2 powD (cst (.int 256)) (cst (.int 63)))) vNil)))))) aNil))), (cst (.int 5))), ((callE m__law_integer [] (aSl 0 aNil)), (cst (.int 6)))])))))))
noncomputable def m__law_bad (w : World) : MF := runF (b__law_bad w) 3 [1, 2]
noncomputable def b__law_pair : MS := (sSeq (sPar 1 2 (vCons (callE m__law_take [] (aSl 0 (aVal (cst (.int 4)) aNil))) (vCons (bin2 fdivD (callE m__law_integer [] (aSl 0 aNil)) (cst (.int 2))) vNil)))
  (sSeq (sIf (asB (bin2 eqD (rd 1) (cst (.int 0)))) (sRet (frz (lstL (vCons (rd 2) (vCons (bin2 addD (bin2 addD (rd 2) (cst (.int 1))) (callE m__law_take [] (aSl 0 (aVal (cst (.int 300)) aNil)))) vNil))))) sNil)
  (sSeq (sIf (asB (bin2 eqD (rd 1) (cst (.int 1)))) (sRet (frz (lstL (vCons (rd 2) (vCons (callE m__law_of [] (aSl 0 (aVal (frz (lstL (vCons (callE m__law_text [] (aSl 0 (aVal (cst (.int 3)) aNil))) (vCons (callE m__law_octets [] (aSl 0 (aVal (cst (.int 3)) aNil))) vNil)))) aNil))) vNil))))) sNil)
  (sSeq (sIf (asB (bin2 eqD (rd 1) (cst (.int 2)))) (sRet (frz (lstL (vCons (callE m__law_octets [] (aSl 0 (aVal (cst (.int 3)) aNil))) (vCons (callE m__law_text [] (aSl 0 (aVal (cst (.int 3)) aNil))) vNil))))) sNil)
  (sSeq (sSet 3 (callE m__law_text [] (aSl 0 (aVal (cst (.int 4)) aNil))))
  (sRet (frz (lstL (vCons (rd 3) (vCons (bin2 addD (rd 3) (cst (.str "a"))) vNil))))))))))
noncomputable def m__law_pair : MF := runF b__law_pair 4 [1, 2, 3]
noncomputable def _law_round_e0 (w : World) : ME := (callE m__law_integer [] (aSl 0 aNil))
noncomputable def b__law_round (w : World) : MS := (sSeq (sIf (asB (bin2 eqD (callE m__law_take [] (aSl 0 (aVal (cst (.int 2)) aNil))) (cst (.int 0)))) (sSeq (sSet 4 (frz (lcL [3] (tName 3) yes (_law_round_e0 w) (rng1 (vCons (callE m__law_take [] (aSl 0 (aVal (cst (.int 4)) aNil))) vNil)))))
  (sRet (tupE (vCons (lenSl 4) (vCons (bin2 addD (bin2 addD (rd 4) (frz (lstL (vCons (rd 1) vNil)))) (bin2 mulDL (frz (lstL (vCons (rd 2) vNil))) (callE m__law_take [] (aSl 0 (aVal (cst (.int 2)) aNil))))) vNil))))) sNil)
  (sSeq (sAsg (callE m__law_pair [] (aSl 0 aNil)) (tLstl 2 (tCons (tName 5) (tCons (tName 6) tNil))))
  (sSeq (sIf (asB (bin2 eqD (callE m__law_take [] (aSl 0 (aVal (cst (.int 2)) aNil))) (cst (.int 0)))) (sRet (tupE (vCons (rd 5) (vCons (frzN (dispN w [((rd 6), (frz (lstL (vCons (rd 2) (vCons (rd 2) vNil))))), ((rd 5), (rd 1))])) vNil)))) sNil)
  (sRet (tupE (vCons (rd 6) (vCons (frzN (dispN w [((rd 6), (rd 1)), ((rd 5), (callE m__law_text [] (aSl 0 (aVal (cst (.int 2)) aNil))))])) vNil)))))))
noncomputable def m__law_round (w : World) : MF := runF (b__law_round w) 7 [3, 4, 5, 6]
noncomputable def b__law_path (w : World) : MS := (sSeq (sTry (sEx (cmethE "Document" (m_Document_of w) [] (aSl 0 aNil))) [(⟨xtab_ShortestBytesError, xerrs, 1, fun xc xf xd => (sSeq (sIf (orT (notT (tru (isxE xc xtab_BadValue))) (tru (isxE xc xtab_BadNumber))) (sRet (cst (.str "error"))) sNil)
  (sRet (xfE xf xd "path")))⟩ : ClM)])
  (sRet (cst .non)))
noncomputable def m__law_path (w : World) : MF := runF (b__law_path w) 2 [1]
noncomputable def b__law_tag_path (w : World) : MS := (sSeq (sTry (sEx (mkE "Tag" (m_Tag___init__ w) [.non] (aVal (cst (.int 5)) (aSl 0 aNil)))) [(⟨xtab_BadValue, xerrs, 1, fun xc xf xd => (sRet (xfE xf xd "path"))⟩ : ClM)])
  (sRet (cst .non)))
noncomputable def m__law_tag_path (w : World) : MF := runF (b__law_tag_path w) 2 [1]
noncomputable def law_b0 (w : World) : MS := (sSeq (sAsg (callE (m__law_round w) [] (aSl 2 (aSl 3 (aVal (callE m__law_of [] (aSl 2 (aVal (frz (lstL (vCons (tupE (vCons (cst (.int 256)) vNil)) (vCons (bin2 powD (cst (.int 256)) (cst (.int 63))) vNil)))) aNil))) aNil)))) (tTupl 2 (tCons (tName 7) (tCons (tName 3) tNil))))
  (sSet 5 (bin2 addD (tupE (vCons (rd 7) vNil)) (rd 5))))
noncomputable def law_b1 (w : World) : MS := (sSeq (sSetL 2 (callL m__law_bag [] (aSl 0 (aSl 1 aNil))))
  (sSeq (sPar3 3 4 5 (vCons (callE (m__law_bad w) [] (aSl 2 aNil)) (vCons (callE m__law_integer [] (aSl 2 aNil)) (vCons (tupE vNil) vNil))))
  (sSeq (sForT (tName 6) (rng1 (vCons (bin2 addD (cst (.int 1)) (callE m__law_take [] (aSl 2 (aVal (cst (.int 5)) aNil)))) vNil)) (law_b0 w))
  (sSeq (sIf (orT (notT (tru (isiE tab_tuple (callE (m__law_path w) [] (aSl 3 aNil))))) (asB (bin2 neD (calB reprB (vCons (callE (m__law_path w) [] (aSl 3 aNil)) vNil)) (calB reprB (vCons (rd 5) vNil))))) (sRet (cst (.bl false))) sNil)
  (sSeq (sIf (orT (asB (bin2 neD (calB reprB (vCons (callE (m__law_tag_path w) [] (aSl 3 aNil)) vNil)) (calB reprB (vCons (rd 5) vNil)))) (asB (bin2 isNotD (callE (m_is_value w) [] (aSl 3 aNil)) (cst (.bl false))))) (sRet (cst (.bl false))) sNil)
  (sSeq (sIf (orT (asB (bin2 isNotD (callE (m_is_value w) [] (aVal (frz (lstL (vCons (rd 4) vNil))) aNil)) (cst (.bl true)))) (asB (bin2 neD (calB reprB (vCons (callE (m__law_path w) [] (aVal (frz (lstL (vCons (rd 3) (vCons (rd 4) vNil)))) aNil)) vNil)) (calB reprB (vCons (bin2 addD (tupE (vCons (cst (.int 0)) vNil)) (rd 5)) vNil))))) (sRet (cst (.bl false))) sNil)
  (sSeq (sIf (orT (asB (bin2 isNotD (callE (m__law_path w) [] (aVal (frzN (dispN w [((rd 4), (rd 4))])) aNil)) (cst .non))) (asB (bin2 isNotD (callE (m__law_path w) [] (aVal (cst (.bl true)) aNil)) (cst .non)))) (sRet (cst (.bl false))) sNil)
  (sSeq (sSet 8 (cmethE "Document" (m_Document_of w) [] (aSl 4 aNil)))
  (sIf (asB (bin2 neD (calB reprB (vCons (frz (lstL (vCons (callE (m__law_path w) [] (aSl 8 aNil)) (vCons (callE (m__law_tag_path w) [] (aSl 8 aNil)) (vCons (callE (m_is_value w) [] (aSl 8 aNil)) vNil))))) vNil)) (cst (.str "[(), (), False]")))) (sRet (cst (.bl false))) sNil)))))))))
noncomputable def b_law (w : World) : MS := (sSeq (sForT (tName 1) (rng1 (vCons (calB max2 (vCons (cst (.int 1)) (vCons (calB lenB (vCons (slE (rd 0) oNone (oSome (cst (.int 8)))) vNil)) vNil))) vNil)) (law_b1 w))
  (sRet (cst (.bl true))))
noncomputable def m_law (w : World) : MF := runF (b_law w) 9 [1, 2, 3, 4, 5, 6, 7, 8]
end Sb
namespace Sb
open PySem PySem.Spec PyProof.Rows L2
/-! ### codes of numbers -/
/-- the digits in base 256, the greatest one first -/
def digs (n : Nat) : List Int := if h : n = 0 then [] else digs (n / 256) ++ [((n % 256 : Nat) : Int)]
termination_by n
decreasing_by omega
theorem digs_zero : digs 0 = [] := by rw [digs]; simp
theorem digs_pos {n : Nat} (h : n ≠ 0) : digs n = digs (n / 256) ++ [((n % 256 : Nat) : Int)] := by rw [digs]; simp [h]
/-- the code of a number -/
def codeN (n : Nat) : List Int := if n < 192 then [(n : Int)] else (191 + (digs n).length : Int) :: digs n
theorem digs_len : ∀ (k n : Nat), n < 256 ^ k → (digs n).length ≤ k
  | 0, n, h => by
    have e : n = 0 := by simp at h; omega
    rw [e, digs_zero]
    exact Nat.le_refl 0
  | k + 1, n, h => by
    by_cases e : n = 0
    · rw [e, digs_zero]
      exact Nat.zero_le _
    · rw [digs_pos e, List.length_append]
      have := digs_len k (n / 256) (by rw [Nat.pow_succ] at h; omega)
      simp only [List.length_cons, List.length_nil]
      omega
theorem digs_byte (n : Nat) : ∀ d ∈ digs n, 0 ≤ d ∧ d ≤ 255 := by
  induction n using Nat.strongRecOn with
  | ind n ih =>
    by_cases e : n = 0
    · rw [e, digs_zero]
      exact fun d h => (nomatch h)
    · rw [digs_pos e]
      intro d h
      rcases List.mem_append.mp h with h | h
      · exact ih (n / 256) (by omega) d h
      · have := List.mem_singleton.mp h
        omega
theorem codeN_len {n : Nat} (h : n < 256 ^ 63) : (codeN n).length ≤ 64 := by
  unfold codeN
  split
  · exact (by decide : 1 ≤ 64)
  · have := digs_len 63 n h
    simp only [List.length_cons]
    omega
theorem codeN_byte {n : Nat} (h : n < 256 ^ 63) : ∀ d ∈ codeN n, 0 ≤ d ∧ d ≤ 255 := by
  unfold codeN
  split
  · intro d m
    have := List.mem_singleton.mp m
    omega
  · intro d m
    have l := digs_len 63 n h
    rcases List.mem_cons.mp m with m | m
    · omega
    · exact digs_byte n d m
theorem and255 {n : Int} (h : 0 ≤ n) : Builtin.bitAnd n 255 = ((n.toNat % 256 : Nat) : Int) := by
  obtain ⟨k, rfl⟩ := Int.eq_ofNat_of_zero_le h
  show ((k &&& 255 : Nat) : Int) = _
  rw [show (255 : Nat) = 2 ^ 8 - 1 by decide, Nat.and_two_pow_sub_one_eq_mod]
  rfl

/-! ### codes in order -/
def vlO (ds : List Int) : Int := ds.foldl (fun n d => n * 256 + d) 0
/-! ### the order of codes -/
theorem vlO_app (a b : List Int) : ∀ s : Int, (a ++ b).foldl (fun n d => n * 256 + d) s = b.foldl (fun n d => n * 256 + d) (a.foldl (fun n d => n * 256 + d) s) := fun s => List.foldl_append
theorem fold_shift : ∀ (ds : List Int) (s : Int), ds.foldl (fun n d => n * 256 + d) s = s * 256 ^ ds.length + vlO ds
  | [], s => by
    show s = s * 256 ^ 0 + 0
    omega
  | d :: ds, s => by
    have e1 := fold_shift ds (s * 256 + d)
    have e2 := fold_shift ds (0 * 256 + d)
    show ds.foldl _ (s * 256 + d) = s * 256 ^ (ds.length + 1) + ds.foldl _ (0 * 256 + d)
    rw [e1, e2, Int.pow_succ, Int.add_mul, Int.add_mul, Int.mul_assoc, Int.mul_comm 256 (256 ^ ds.length)]
    omega
theorem vlO_cons (d : Int) (ds : List Int) : vlO (d :: ds) = d * 256 ^ ds.length + vlO ds := by
  show ds.foldl _ (0 * 256 + d) = _
  rw [fold_shift, show (0 : Int) * 256 + d = d by omega]
theorem vlO_snoc (ds : List Int) (d : Int) : vlO (ds ++ [d]) = vlO ds * 256 + d := by
  unfold vlO
  rw [List.foldl_append]
  rfl
theorem pow_pos256 (k : Nat) : (0 : Int) < 256 ^ k := Int.pow_pos (by decide)
theorem vlO_bounds : ∀ (ds : List Int), (∀ d ∈ ds, 0 ≤ d ∧ d ≤ 255) → 0 ≤ vlO ds ∧ vlO ds < 256 ^ ds.length
  | [], _ => ⟨Int.le_refl 0, by show (0 : Int) < 256 ^ 0; decide⟩
  | d :: ds, h => by
    obtain ⟨i1, i2⟩ := vlO_bounds ds fun x m => h x (List.mem_cons_of_mem _ m)
    obtain ⟨d0, d1⟩ := h d List.mem_cons_self
    have p := pow_pos256 ds.length
    rw [vlO_cons, List.length_cons, Int.pow_succ]
    have m1 : 0 ≤ d * 256 ^ ds.length := Int.mul_nonneg d0 (Int.le_of_lt p)
    have m2 : d * 256 ^ ds.length ≤ 255 * 256 ^ ds.length := Int.mul_le_mul_of_nonneg_right d1 (Int.le_of_lt p)
    omega
theorem vlO_digs (n : Nat) : vlO (digs n) = n := by
  induction n using Nat.strongRecOn with
  | ind n ih =>
    by_cases e : n = 0
    · rw [e, digs_zero]
      rfl
    · rw [digs_pos e, vlO_snoc, ih (n / 256) (by omega)]
      omega
/-- the first digit is not 0 -/
theorem digs_first (n : Nat) : ∀ d r, digs n = d :: r → 1 ≤ d := by
  induction n using Nat.strongRecOn with
  | ind n ih =>
    intro d r h
    by_cases e : n = 0
    · rw [e, digs_zero] at h
      cases h
    · rw [digs_pos e] at h
      cases q : digs (n / 256) with
      | nil =>
        rw [q] at h
        have hd : ((n % 256 : Nat) : Int) = d := (List.cons.inj h).1
        have z : n / 256 = 0 := by
          have v := vlO_digs (n / 256)
          rw [q] at v
          have v' : (0 : Int) = ((n / 256 : Nat) : Int) := v
          omega
        omega
      | cons x y =>
        rw [q] at h
        have hd : x = d := (List.cons.inj h).1
        have := ih (n / 256) (by omega) x y q
        omega
theorem digs_ne {n : Nat} (h : n ≠ 0) : digs n ≠ [] := by
  rw [digs_pos h]
  simp
/-- a number has its greatest digit's weight -/
theorem digs_low {n : Nat} (h : n ≠ 0) : ((256 ^ ((digs n).length - 1) : Nat) : Int) ≤ n := by
  cases q : digs n with
  | nil => exact (digs_ne h q).elim
  | cons d r =>
    have d1 := digs_first n d r q
    have v := vlO_digs n
    rw [q, vlO_cons] at v
    have b := vlO_bounds r fun x m => digs_byte n x (by rw [q]; exact List.mem_cons_of_mem _ m)
    have p := pow_pos256 r.length
    have m1 : 1 * 256 ^ r.length ≤ d * 256 ^ r.length := Int.mul_le_mul_of_nonneg_right d1 (Int.le_of_lt p)
    show ((256 ^ (r.length + 1 - 1) : Nat) : Int) ≤ n
    rw [Nat.add_sub_cancel]
    have e : ((256 ^ r.length : Nat) : Int) = (256 : Int) ^ r.length := by exact_mod_cast rfl
    omega
theorem digs_high (n : Nat) : (n : Int) < ((256 ^ (digs n).length : Nat) : Int) := by
  have b := vlO_bounds (digs n) (digs_byte n)
  rw [vlO_digs] at b
  have e : ((256 ^ (digs n).length : Nat) : Int) = (256 : Int) ^ (digs n).length := by exact_mod_cast rfl
  omega
/-- digits of one length are ordered as their numbers -/
theorem lex_digits : ∀ (xs ys : List Int), xs.length = ys.length → (∀ d ∈ xs, 0 ≤ d ∧ d ≤ 255) → (∀ d ∈ ys, 0 ≤ d ∧ d ≤ 255) → HT.lexLt xs ys = decide (vlO xs < vlO ys)
  | [], [], _, _, _ => rfl
  | [], _ :: _, e, _, _ => by cases e
  | _ :: _, [], e, _, _ => by cases e
  | x :: xs, y :: ys, e, hx, hy => by
    have el : xs.length = ys.length := by simpa using e
    have hx' : ∀ d ∈ xs, 0 ≤ d ∧ d ≤ 255 := fun d m => hx d (List.mem_cons_of_mem _ m)
    have hy' : ∀ d ∈ ys, 0 ≤ d ∧ d ≤ 255 := fun d m => hy d (List.mem_cons_of_mem _ m)
    obtain ⟨x0, x1⟩ := vlO_bounds xs hx'
    obtain ⟨y0, y1⟩ := vlO_bounds ys hy'
    rw [HT.lexLt_cons, vlO_cons, vlO_cons]
    rw [← el] at y1 ⊢
    have p := pow_pos256 xs.length
    by_cases c : x = y
    · rw [if_pos c, lex_digits xs ys el hx' hy', c]
      apply decide_eq_decide.mpr
      omega
    · rw [if_neg c]
      apply decide_eq_decide.mpr
      generalize (256 : Int) ^ xs.length = M at *
      constructor
      · intro lt
        have := Int.mul_le_mul_of_nonneg_right (show x + 1 ≤ y by omega) (Int.le_of_lt p)
        rw [Int.add_mul] at this
        omega
      · intro lt
        refine Int.not_le.mp fun ge => ?_
        have := Int.mul_le_mul_of_nonneg_right (show y + 1 ≤ x by omega) (Int.le_of_lt p)
        rw [Int.add_mul] at this
        omega
theorem lex_code (n m : Nat) : HT.lexLt (codeN n) (codeN m) = decide (n < m) := by
  unfold codeN
  by_cases a : n < 192
  · rw [if_pos a]
    by_cases b : m < 192
    · rw [if_pos b, HT.lexLt_cons]
      by_cases c : (n : Int) = m
      · rw [if_pos c, decide_eq_false (by omega)]
        rfl
      · rw [if_neg c]
        apply decide_eq_decide.mpr
        omega
    · have l : 1 ≤ (digs m).length := List.length_pos_iff.mpr (digs_ne (by omega))
      rw [if_neg b, HT.lexLt_cons, if_neg (by omega)]
      apply decide_eq_decide.mpr
      omega
  · rw [if_neg a]
    have ln : 1 ≤ (digs n).length := List.length_pos_iff.mpr (digs_ne (by omega))
    by_cases b : m < 192
    · rw [if_pos b, HT.lexLt_cons, if_neg (by omega)]
      apply decide_eq_decide.mpr
      omega
    · have lm : 1 ≤ (digs m).length := List.length_pos_iff.mpr (digs_ne (by omega))
      rw [if_neg b, HT.lexLt_cons]
      have hn := digs_high n
      have hm := digs_high m
      have gn := digs_low (n := n) (by omega)
      have gm := digs_low (n := m) (by omega)
      by_cases c : (digs n).length = (digs m).length
      · rw [if_pos (by omega), lex_digits _ _ c (digs_byte n) (digs_byte m), vlO_digs, vlO_digs]
        apply decide_eq_decide.mpr
        omega
      · rw [if_neg (by omega)]
        apply decide_eq_decide.mpr
        constructor
        · intro lt
          have le : (digs n).length ≤ (digs m).length - 1 := by omega
          have := Nat.pow_le_pow_right (n := 256) (by decide) le
          omega
        · intro lt
          refine Int.not_le.mp fun ge => ?_
          have le : (digs m).length ≤ (digs n).length - 1 := by omega
          have := Nat.pow_le_pow_right (n := 256) (by decide) le
          omega
theorem lex_irrefl : ∀ l : List Int, HT.lexLt l l = false
  | [] => rfl
  | x :: r => by
    rw [HT.lexLt_cons, if_pos rfl]
    exact lex_irrefl r

/-! ### numbers, by data -/
theorem size_1000 {n : Nat} (h : n ≤ 100000) : n ≤ sizeLine := Nat.le_trans h (by decide)
theorem lt_1000 {n : Nat} (h : n < 100000) : n < sizeLine := Nat.lt_of_lt_of_le h (by decide)
theorem e_is_integer_int (i : Int) : m_is_integer [.fr (.int i)] = .ok (.fr (.bl true)) [.fr (.int i)] := by rfl
theorem e_is_integer_non : m_is_integer [.fr .non] = .ok (.fr (.bl false)) [.fr .non] := by rfl
theorem e_is_integer_bl (b) : m_is_integer [.fr (.bl b)] = .ok (.fr (.bl false)) [.fr (.bl b)] := by rfl
theorem e_is_integer_str (i) : m_is_integer [.fr (.str i)] = .ok (.fr (.bl false)) [.fr (.str i)] := by rfl
theorem e_is_integer_tup (i) : m_is_integer [.fr (.tup i)] = .ok (.fr (.bl false)) [.fr (.tup i)] := by rfl
theorem e_is_integer_list (i) : m_is_integer [.fr (.list i)] = .ok (.fr (.bl false)) [.fr (.list i)] := by rfl
theorem e_is_byte_int (i : Int) : m_is_byte [.fr (.int i)] = .ok (.fr (.bl (decide (0 ≤ i ∧ i ≤ 255)))) [.fr (.int i)] := by
  by_cases h : 0 ≤ i
  · simp [m_is_byte, b_is_byte, runF, frees, back, sSeq, sIf, sRet, sRetL, sRetS, sRetN, sNil, sEx, sSet, sSetL, sAsg, sPar, sPar3, sPut, sRaise, sBk, sCt, sStuck, eStuck, asB, tru, truSl, truD, andT, orT, notT, andE, orE, notE, ifE, bin2, bin2L, un1, rd, cst, frz, lstL, tupE, vNil, vCons, calB, calL, callE, callL, appE, appL, resolve, slotsOf, putA, aSl, aVal, aNil, has?, isOw, chn, ixSl, lenSl, mtS, tName, tTupl, tCons, tNil, itE, walkD, rng1, rng2, slE, oSome, oNone, Res.bind, Res.thn, Res.lift, SRes.seq, loopR, Sl.toD, O.toD, fAppend, fReverse, fExtend, fPop, fClear, addD, catD, subD, intD, mulD, fdivD, modD, powD, shrD, andD, cmpD, leD, gtD, geD, ltD, eqD, neD, eqB, isD, isNotD, isNonB, negD, lenB, lenD, absB, max2, min2, intB, boolB, ordB, tupleB, listB, mkE, mkApp, mkLE, cmethE, methE, sFldM, putFD, fldD, sForT, isiE, isiTE, tyK, ixD, slD, joinE, indexE, lcL, emp, yes, e_is_integer_int, h]
  · simp [m_is_byte, b_is_byte, runF, frees, back, sSeq, sIf, sRet, sRetL, sRetS, sRetN, sNil, sEx, sSet, sSetL, sAsg, sPar, sPar3, sPut, sRaise, sBk, sCt, sStuck, eStuck, asB, tru, truSl, truD, andT, orT, notT, andE, orE, notE, ifE, bin2, bin2L, un1, rd, cst, frz, lstL, tupE, vNil, vCons, calB, calL, callE, callL, appE, appL, resolve, slotsOf, putA, aSl, aVal, aNil, has?, isOw, chn, ixSl, lenSl, mtS, tName, tTupl, tCons, tNil, itE, walkD, rng1, rng2, slE, oSome, oNone, Res.bind, Res.thn, Res.lift, SRes.seq, loopR, Sl.toD, O.toD, fAppend, fReverse, fExtend, fPop, fClear, addD, catD, subD, intD, mulD, fdivD, modD, powD, shrD, andD, cmpD, leD, gtD, geD, ltD, eqD, neD, eqB, isD, isNotD, isNonB, negD, lenB, lenD, absB, max2, min2, intB, boolB, ordB, tupleB, listB, mkE, mkApp, mkLE, cmethE, methE, sFldM, putFD, fldD, sForT, isiE, isiTE, tyK, ixD, slD, joinE, indexE, lcL, emp, yes, e_is_integer_int, h]
/-- base_bytes -/
theorem e_base_loop (N : Nat) : ∀ (n : Nat) (ds : List Int), ds.length + (digs n).length ≤ N → N ≤ 1000 →
    whileM base_bytes_c0 base_bytes_b1 [some (.fr (.int n)), some (.ow (.lst (ds.map .int)))] = .nx [some (.fr (.int 0)), some (.ow (.lst ((ds ++ (digs n).reverse).map .int)))] := by
  intro n
  induction n using Nat.strongRecOn with
  | ind n ih =>
    intro ds hl hN
    rw [whileM_eq]
    by_cases e : n = 0
    · subst e
      simp [base_bytes_c0, runF, frees, back, sSeq, sIf, sRet, sRetL, sRetS, sRetN, sNil, sEx, sSet, sSetL, sAsg, sPar, sPar3, sPut, sRaise, sBk, sCt, sStuck, eStuck, asB, tru, truSl, truD, andT, orT, notT, andE, orE, notE, ifE, bin2, bin2L, un1, rd, cst, frz, lstL, tupE, vNil, vCons, calB, calL, callE, callL, appE, appL, resolve, slotsOf, putA, aSl, aVal, aNil, has?, isOw, chn, ixSl, lenSl, mtS, tName, tTupl, tCons, tNil, itE, walkD, rng1, rng2, slE, oSome, oNone, Res.bind, Res.thn, Res.lift, SRes.seq, loopR, Sl.toD, O.toD, fAppend, fReverse, fExtend, fPop, fClear, addD, catD, subD, intD, mulD, fdivD, modD, powD, shrD, andD, cmpD, leD, gtD, geD, ltD, eqD, neD, eqB, isD, isNotD, isNonB, negD, lenB, lenD, absB, max2, min2, intB, boolB, ordB, tupleB, listB, mkE, mkApp, mkLE, cmethE, methE, sFldM, putFD, fldD, sForT, isiE, isiTE, tyK, ixD, slD, joinE, indexE, lcL, emp, yes, digs_zero]
    · have pos : (0 : Int) < n := by omega
      have hd := digs_pos e
      have l1 : (digs n).length = (digs (n / 256)).length + 1 := by rw [hd]; simp
      have a1 : Builtin.bitAnd (n : Int) 255 = ((n % 256 : Nat) : Int) := by rw [and255 (by omega)]; rfl
      have step := ih (n / 256) (by omega) (ds ++ [((n % 256 : Nat) : Int)]) (by rw [List.length_append]; simp only [List.length_cons, List.length_nil]; omega) hN
      have sz' : ds.length < sizeLine := lt_1000 (by omega)
      have c : base_bytes_c0 [some (.fr (.int n)), some (.ow (.lst (ds.map .int)))] = .ok true [some (.fr (.int n)), some (.ow (.lst (ds.map .int)))] := by
        simp [base_bytes_c0, runF, frees, back, sSeq, sIf, sRet, sRetL, sRetS, sRetN, sNil, sEx, sSet, sSetL, sAsg, sPar, sPar3, sPut, sRaise, sBk, sCt, sStuck, eStuck, asB, tru, truSl, truD, andT, orT, notT, andE, orE, notE, ifE, bin2, bin2L, un1, rd, cst, frz, lstL, tupE, vNil, vCons, calB, calL, callE, callL, appE, appL, resolve, slotsOf, putA, aSl, aVal, aNil, has?, isOw, chn, ixSl, lenSl, mtS, tName, tTupl, tCons, tNil, itE, walkD, rng1, rng2, slE, oSome, oNone, Res.bind, Res.thn, Res.lift, SRes.seq, loopR, Sl.toD, O.toD, fAppend, fReverse, fExtend, fPop, fClear, addD, catD, subD, intD, mulD, fdivD, modD, powD, shrD, andD, cmpD, leD, gtD, geD, ltD, eqD, neD, eqB, isD, isNotD, isNonB, negD, lenB, lenD, absB, max2, min2, intB, boolB, ordB, tupleB, listB, mkE, mkApp, mkLE, cmethE, methE, sFldM, putFD, fldD, sForT, isiE, isiTE, tyK, ixD, slD, joinE, indexE, lcL, emp, yes]
        omega
      have b : base_bytes_b1 [some (.fr (.int n)), some (.ow (.lst (ds.map .int)))] = .nx [some (.fr (.int ((n / 256 : Nat) : Int))), some (.ow (.lst ((ds ++ [((n % 256 : Nat) : Int)]).map .int)))] := by
        simp [base_bytes_b1, runF, frees, back, sSeq, sIf, sRet, sRetL, sRetS, sRetN, sNil, sEx, sSet, sSetL, sAsg, sPar, sPar3, sPut, sRaise, sBk, sCt, sStuck, eStuck, asB, tru, truSl, truD, andT, orT, notT, andE, orE, notE, ifE, bin2, bin2L, un1, rd, cst, frz, lstL, tupE, vNil, vCons, calB, calL, callE, callL, appE, appL, resolve, slotsOf, putA, aSl, aVal, aNil, has?, isOw, chn, ixSl, lenSl, mtS, tName, tTupl, tCons, tNil, itE, walkD, rng1, rng2, slE, oSome, oNone, Res.bind, Res.thn, Res.lift, SRes.seq, loopR, Sl.toD, O.toD, fAppend, fReverse, fExtend, fPop, fClear, addD, catD, subD, intD, mulD, fdivD, modD, powD, shrD, andD, cmpD, leD, gtD, geD, ltD, eqD, neD, eqB, isD, isNotD, isNonB, negD, lenB, lenD, absB, max2, min2, intB, boolB, ordB, tupleB, listB, mkE, mkApp, mkLE, cmethE, methE, sFldM, putFD, fldD, sForT, isiE, isiTE, tyK, ixD, slD, joinE, indexE, lcL, emp, yes, sz', a1]
      rw [c]
      show loopR (base_bytes_b1 _) _ = _
      rw [b]
      show whileM _ _ _ = _
      rw [step, hd]
      simp
theorem e_base_bytes {n : Nat} (h : n < 256 ^ 63) : m_base_bytes [.fr (.int n)] = .ok (.ow (.lst ((digs n).map .int))) [.fr (.int n)] := by
  have l := digs_len 63 n h
  have st := e_base_loop 63 n [] (by simpa using l) (by decide)
  simp only [List.map_nil, List.nil_append] at st
  simp [m_base_bytes, b_base_bytes, runF, frees, back, sSeq, sIf, sRet, sRetL, sRetS, sRetN, sNil, sEx, sSet, sSetL, sAsg, sPar, sPar3, sPut, sRaise, sBk, sCt, sStuck, eStuck, asB, tru, truSl, truD, andT, orT, notT, andE, orE, notE, ifE, bin2, bin2L, un1, rd, cst, frz, lstL, tupE, vNil, vCons, calB, calL, callE, callL, appE, appL, resolve, slotsOf, putA, aSl, aVal, aNil, has?, isOw, chn, ixSl, lenSl, mtS, tName, tTupl, tCons, tNil, itE, walkD, rng1, rng2, slE, oSome, oNone, Res.bind, Res.thn, Res.lift, SRes.seq, loopR, Sl.toD, O.toD, fAppend, fReverse, fExtend, fPop, fClear, addD, catD, subD, intD, mulD, fdivD, modD, powD, shrD, andD, cmpD, leD, gtD, geD, ltD, eqD, neD, eqB, isD, isNotD, isNonB, negD, lenB, lenD, absB, max2, min2, intB, boolB, ordB, tupleB, listB, mkE, mkApp, mkLE, cmethE, methE, sFldM, putFD, fldD, sForT, isiE, isiTE, tyK, ixD, slD, joinE, indexE, lcL, emp, yes, st]
theorem e_plain_code {n : Nat} (h : n < 256 ^ 63) : m_plain_code [.fr (.int n)] = .ok (.fr (.list ((codeN n).map .int))) [.fr (.int n)] := by
  have l := digs_len 63 n h
  have s1 : 1 ≤ sizeLine := by decide
  have s2 : 1 + (digs n).length ≤ sizeLine := size_1000 (by omega)
  by_cases c : n < 192
  · have c' : (n : Int) < 192 := by omega
    simp [m_plain_code, b_plain_code, runF, frees, back, sSeq, sIf, sRet, sRetL, sRetS, sRetN, sNil, sEx, sSet, sSetL, sAsg, sPar, sPar3, sPut, sRaise, sBk, sCt, sStuck, eStuck, asB, tru, truSl, truD, andT, orT, notT, andE, orE, notE, ifE, bin2, bin2L, un1, rd, cst, frz, lstL, tupE, vNil, vCons, calB, calL, callE, callL, appE, appL, resolve, slotsOf, putA, aSl, aVal, aNil, has?, isOw, chn, ixSl, lenSl, mtS, tName, tTupl, tCons, tNil, itE, walkD, rng1, rng2, slE, oSome, oNone, Res.bind, Res.thn, Res.lift, SRes.seq, loopR, Sl.toD, O.toD, fAppend, fReverse, fExtend, fPop, fClear, addD, catD, subD, intD, mulD, fdivD, modD, powD, shrD, andD, cmpD, leD, gtD, geD, ltD, eqD, neD, eqB, isD, isNotD, isNonB, negD, lenB, lenD, absB, max2, min2, intB, boolB, ordB, tupleB, listB, mkE, mkApp, mkLE, cmethE, methE, sFldM, putFD, fldD, sForT, isiE, isiTE, tyK, ixD, slD, joinE, indexE, lcL, emp, yes, c', codeN, c, s1]
  · have c' : ¬ (n : Int) < 192 := by omega
    simp [m_plain_code, b_plain_code, runF, frees, back, sSeq, sIf, sRet, sRetL, sRetS, sRetN, sNil, sEx, sSet, sSetL, sAsg, sPar, sPar3, sPut, sRaise, sBk, sCt, sStuck, eStuck, asB, tru, truSl, truD, andT, orT, notT, andE, orE, notE, ifE, bin2, bin2L, un1, rd, cst, frz, lstL, tupE, vNil, vCons, calB, calL, callE, callL, appE, appL, resolve, slotsOf, putA, aSl, aVal, aNil, has?, isOw, chn, ixSl, lenSl, mtS, tName, tTupl, tCons, tNil, itE, walkD, rng1, rng2, slE, oSome, oNone, Res.bind, Res.thn, Res.lift, SRes.seq, loopR, Sl.toD, O.toD, fAppend, fReverse, fExtend, fPop, fClear, addD, catD, subD, intD, mulD, fdivD, modD, powD, shrD, andD, cmpD, leD, gtD, geD, ltD, eqD, neD, eqB, isD, isNotD, isNonB, negD, lenB, lenD, absB, max2, min2, intB, boolB, ordB, tupleB, listB, mkE, mkApp, mkLE, cmethE, methE, sFldM, putFD, fldD, sForT, isiE, isiTE, tyK, ixD, slD, joinE, indexE, lcL, emp, yes, c', codeN, c, s1, s2, e_base_bytes h]

/-! ### loops and comprehensions, by data -/
theorem forT_inv {t : MG} {b : MS} (I : Nat → Ld → Prop) : ∀ (xs : List D) (k : Nat) (l : Ld), I k l → (∀ x k l, x ∈ xs → I k l → ∃ l1 l2, t x l = some l1 ∧ b l1 = .nx l2 ∧ I (k + 1) l2) →
    ∃ l', forT t b xs l = .nx l' ∧ I (k + xs.length) l'
  | [], k, l, h, _ => ⟨l, rfl, h⟩
  | x :: xs, k, l, h, step => by
    obtain ⟨l1, l2, e1, e2, i2⟩ := step x k l List.mem_cons_self h
    obtain ⟨l', e3, i3⟩ := forT_inv I xs (k + 1) l2 i2 fun y k l m => step y k l (List.mem_cons_of_mem _ m)
    refine ⟨l', ?_, ?_⟩
    · rw [forT, e1]
      show loopR (b l1) (forT t b xs) = _
      rw [e2]
      exact e3
    · rw [List.length_cons, show k + (xs.length + 1) = k + 1 + xs.length by omega]
      exact i3
theorem lcM_inv {vs : List Nat} {t : MG} {c : MT} {e : ME} (I : Nat → Ld → Prop) (P : D → Prop) : ∀ (xs acc : List D) (k : Nat) (l : Ld), I k l → acc.length + xs.length ≤ sizeLine →
    (∀ x k l, x ∈ xs → I k l → ∃ l1 l2 d l3, t x l = some l1 ∧ c l1 = .ok true l2 ∧ e l2 = .ok d l3 ∧ P d ∧ I (k + 1) (clr vs l3)) →
    ∃ ds l', lcM vs t c e xs acc l = .ok (acc ++ ds) l' ∧ ds.length = xs.length ∧ (∀ d ∈ ds, P d) ∧ I (k + xs.length) l'
  | [], acc, k, l, h, _, _ => ⟨[], l, by rw [lcM, List.append_nil], rfl, (fun d m => (nomatch m)), h⟩
  | x :: xs, acc, k, l, h, hl, step => by
    obtain ⟨l1, l2, d, l3, e1, e2, e3, pd, i2⟩ := step x k l List.mem_cons_self h
    rw [List.length_cons] at hl
    obtain ⟨ds, l', e4, n4, p4, i4⟩ := lcM_inv I P xs (acc ++ [d]) (k + 1) (clr vs l3) i2 (by rw [List.length_append]; simp only [List.length_cons, List.length_nil]; omega) fun y k l m => step y k l (List.mem_cons_of_mem _ m)
    refine ⟨d :: ds, l', ?_, by rw [List.length_cons, n4]; rfl, ?_, ?_⟩
    · rw [lcM, e1]
      dsimp only
      rw [e2]
      dsimp only
      rw [e3]
      dsimp only
      rw [if_pos (by omega), e4]
      simp
    · intro y m
      rcases List.mem_cons.mp m with rfl | m
      · exact pd
      · exact p4 y m
    · rw [List.length_cons, show k + (xs.length + 1) = k + 1 + xs.length by omega]
      exact i4
/-- a comprehension that maps -/
theorem lcM_map {vs : List Nat} {t : MG} {c : MT} {e : ME} (f : D → D) (l : Ld) : ∀ (xs acc : List D), acc.length + xs.length ≤ sizeLine →
    (∀ x ∈ xs, ∃ l1 l2 l3, t x l = some l1 ∧ c l1 = .ok true l2 ∧ e l2 = .ok (f x) l3 ∧ clr vs l3 = l) → lcM vs t c e xs acc l = .ok (acc ++ xs.map f) l
  | [], acc, _, _ => by rw [lcM, List.map_nil, List.append_nil]
  | x :: xs, acc, hl, step => by
    obtain ⟨l1, l2, l3, e1, e2, e3, e4⟩ := step x List.mem_cons_self
    rw [List.length_cons] at hl
    rw [lcM, e1]
    dsimp only
    rw [e2]
    dsimp only
    rw [e3]
    dsimp only
    rw [if_pos (by omega), e4, lcM_map f l xs (acc ++ [f x]) (by rw [List.length_append]; simp only [List.length_cons, List.length_nil]; omega) fun y m => step y (List.mem_cons_of_mem _ m)]
    simp
theorem forT_at {t : MG} {b : MS} {xs : List D} {l : Ld} (I : Nat → Ld → Prop) (h : I 0 l) (step : ∀ (j : Nat) (x : D) (l : Ld), xs[j]? = some x → I j l → ∃ l1 l2, t x l = some l1 ∧ b l1 = .nx l2 ∧ I (j + 1) l2) :
    ∃ l', forT t b xs l = .nx l' ∧ I xs.length l' := by
  have gen : ∀ (ys : List D) (k : Nat) (l : Ld), I k l → (∀ (j : Nat) (x : D), ys[j]? = some x → xs[k + j]? = some x) → ∃ l', forT t b ys l = .nx l' ∧ I (k + ys.length) l' := by
    intro ys
    induction ys with
    | nil => exact fun k l h _ => ⟨l, rfl, h⟩
    | cons y ys ih =>
      intro k l h at_
      obtain ⟨l1, l2, e1, e2, i2⟩ := step k y l (by simpa using at_ 0 y rfl) h
      obtain ⟨l', e3, i3⟩ := ih (k + 1) l2 i2 fun j x e => by
        have := at_ (j + 1) x (by simpa using e)
        rwa [show k + (j + 1) = k + 1 + j by omega] at this
      refine ⟨l', ?_, ?_⟩
      · rw [forT, e1]
        show loopR (b l1) (forT t b ys) = _
        rw [e2]
        exact e3
      · rw [List.length_cons, show k + (ys.length + 1) = k + 1 + ys.length by omega]
        exact i3
  have := gen xs 0 l h fun j x e => by simpa using e
  simpa using this
theorem lcM_at {vs : List Nat} {t : MG} {c : MT} {e : ME} {xs : List D} {l : Ld} (I : Nat → Ld → Prop) (P : D → Prop) (h : I 0 l) (hl : xs.length ≤ sizeLine)
    (step : ∀ (j : Nat) (x : D) (l : Ld), xs[j]? = some x → I j l → ∃ l1 l2 d l3, t x l = some l1 ∧ c l1 = .ok true l2 ∧ e l2 = .ok d l3 ∧ P d ∧ I (j + 1) (clr vs l3)) :
    ∃ ds l', lcM vs t c e xs [] l = .ok ds l' ∧ ds.length = xs.length ∧ (∀ d ∈ ds, P d) ∧ I xs.length l' := by
  have gen : ∀ (ys acc : List D) (k : Nat) (l : Ld), I k l → acc.length + ys.length ≤ sizeLine → (∀ (j : Nat) (x : D), ys[j]? = some x → xs[k + j]? = some x) → ∃ ds l', lcM vs t c e ys acc l = .ok (acc ++ ds) l' ∧ ds.length = ys.length ∧ (∀ d ∈ ds, P d) ∧ I (k + ys.length) l' := by
    intro ys
    induction ys with
    | nil => exact fun acc k l h _ _ => ⟨[], l, by rw [lcM, List.append_nil], rfl, (fun d m => (nomatch m)), h⟩
    | cons y ys ih =>
      intro acc k l h hl at_
      obtain ⟨l1, l2, d, l3, e1, e2, e3, pd, i2⟩ := step k y l (by simpa using at_ 0 y rfl) h
      rw [List.length_cons] at hl
      obtain ⟨ds, l', e4, n4, p4, i4⟩ := ih (acc ++ [d]) (k + 1) (clr vs l3) i2 (by rw [List.length_append]; simp only [List.length_cons, List.length_nil]; omega) fun j x e => by
        have := at_ (j + 1) x (by simpa using e)
        rwa [show k + (j + 1) = k + 1 + j by omega] at this
      refine ⟨d :: ds, l', ?_, by rw [List.length_cons, n4]; rfl, ?_, ?_⟩
      · rw [lcM, e1]
        dsimp only
        rw [e2]
        dsimp only
        rw [e3]
        dsimp only
        rw [if_pos (by omega), e4]
        simp
      · intro y m
        rcases List.mem_cons.mp m with rfl | m
        · exact pd
        · exact p4 y m
      · rw [List.length_cons, show k + (ys.length + 1) = k + 1 + ys.length by omega]
        exact i4
  have := gen xs [] 0 l h (by simpa using hl) fun j x e => by simpa using e
  simpa using this
theorem range_lt {n j : Nat} {x : D} {f : Nat → D} (h : ((List.range n).map f)[j]? = some x) : j < n ∧ x = f j := by
  have hj : j < n := by
    have := get_lt h
    simpa using this
  rw [List.getElem?_map, List.getElem?_range hj] at h
  cases h
  exact ⟨hj, rfl⟩
theorem while_go {c : MT} {b : MS} {l l1 l2 : Ld} (hc : c l = .ok true l1) (hb : b l1 = .nx l2) : whileM c b l = whileM c b l2 := by
  rw [whileM_eq, hc, Res.thn, if_pos rfl, hb]
  rfl
theorem while_end {c : MT} {b : MS} {l l1 : Ld} (hc : c l = .ok false l1) : whileM c b l = .nx l1 := by
  rw [whileM_eq, hc, Res.thn, if_neg (by decide)]
theorem while_rt {c : MT} {b : MS} {l l1 l2 : Ld} {s : Sl} (hc : c l = .ok true l1) (hb : b l1 = .rt s l2) : whileM c b l = .rt s l2 := by
  rw [whileM_eq, hc, Res.thn, if_pos rfl, hb]
  rfl
theorem while_err {c : MT} {b : MS} {l l1 l2 : Ld} {x f : Str} {d : D} (hc : c l = .ok true l1) (hb : b l1 = .err x f d l2) : whileM c b l = .err x f d l2 := by
  rw [whileM_eq, hc, Res.thn, if_pos rfl, hb]
  rfl

/-! ### the law's draws, by data -/
structure BagD (xs : List D) (m : Nat) : Prop where
  ex : ∃ d e c : Int, xs = [.int d, .int e, .int c] ∧ 0 ≤ d ∧ 0 ≤ e ∧ e < 1099511627776 ∧ 0 ≤ c ∧ c ≤ m
theorem BagD.more {xs : List D} {m n : Nat} (h : BagD xs m) (l : m ≤ n) : BagD xs n := by
  obtain ⟨d, e, c, h1, h2, h3, h4, h5, h6⟩ := h.ex
  exact ⟨d, e, c, h1, h2, h3, h4, h5, by omega⟩
theorem fmod_ge (a : Int) {b : Int} (h : 0 < b) : 0 ≤ a.fmod b := Int.fmod_nonneg_of_pos a h
theorem fmod_lt (a : Int) {b : Int} (h : 0 < b) : a.fmod b < b := Int.fmod_lt_of_pos a h
theorem fdiv_ge {a b : Int} (ha : 0 ≤ a) (hb : 0 ≤ b) : 0 ≤ a.fdiv b := Int.fdiv_nonneg ha hb
theorem e__law_bag {ns : List Int} {i : Int} (i0 : 0 ≤ i) (i1 : i < 64) : ∃ xs, m__law_bag [.fr (.scr ns), .fr (.int i)] = .ok (.ow (.lst xs)) [.fr (.scr ns), .fr (.int i)] ∧ BagD xs 0 := by
  have s3 : 3 ≤ sizeLine := by decide
  have cm : cMul 2147483648 i = true := by simp [cMul]
  have fin : ∀ (x y : Int), 0 ≤ y → BagD [.int y, .int (x.fmod 2147483629 + 2147483648 * i + 77), .int 0] 0 := fun x y y0 => by
    have k0 := fmod_ge x (b := 2147483629) (by decide)
    have k1 := fmod_lt x (b := 2147483629) (by decide)
    exact ⟨_, _, _, rfl, y0, by omega, by omega, by omega, by omega⟩
  have cp : cPow 10 18 = true := by decide
  by_cases h : i < (ns.length : Int)
  · have hj : i.toNat < ns.length := by omega
    have ha : atI ns i = some ns[i.toNat] := by
      have := atI_nat (xs := ns) (j := i.toNat) (v := ns[i.toNat]) (List.getElem?_eq_getElem hj)
      rwa [Int.toNat_of_nonneg i0] at this
    by_cases g : (1000000000000000000 : Int) ≤ (if ns[i.toNat] < 0 then -ns[i.toNat] else ns[i.toNat])
    · refine ⟨[.int (if ns[i.toNat] < 0 then -ns[i.toNat] else ns[i.toNat]), .int (ns[i.toNat].fmod 2147483629 + 2147483648 * i + 77), .int 0], ?_, fin _ _ (by omega)⟩
      simp [m__law_bag, b__law_bag, runF, frees, back, sSeq, sIf, sRet, sRetL, sRetS, sRetN, sNil, sEx, sSet, sSetL, sAsg, sPar, sPar3, sPut, sRaise, sBk, sCt, sStuck, eStuck, asB, tru, truSl, truD, andT, orT, notT, andE, orE, notE, ifE, bin2, bin2L, un1, rd, cst, frz, lstL, tupE, vNil, vCons, calB, calL, callE, callL, appE, appL, resolve, slotsOf, putA, aSl, aVal, aNil, has?, isOw, chn, ixSl, lenSl, mtS, tName, tTupl, tCons, tNil, itE, walkD, rng1, rng2, slE, oSome, oNone, Res.bind, Res.thn, Res.lift, SRes.seq, loopR, Sl.toD, O.toD, fAppend, fReverse, fExtend, fPop, fClear, addD, catD, subD, intD, mulD, fdivD, modD, powD, shrD, andD, cmpD, leD, gtD, geD, ltD, eqD, neD, eqB, isD, isNotD, isNonB, negD, lenB, lenD, absB, max2, min2, intB, boolB, ordB, tupleB, listB, mkE, mkApp, mkLE, cmethE, methE, sFldM, putFD, fldD, sForT, isiE, isiTE, tyK, ixD, slD, joinE, indexE, lcL, emp, yes, h, ha, g, s3, cm, cp]
    · refine ⟨[.int 0, .int (ns[i.toNat].fmod 2147483629 + 2147483648 * i + 77), .int 0], ?_, fin _ _ (by omega)⟩
      simp [m__law_bag, b__law_bag, runF, frees, back, sSeq, sIf, sRet, sRetL, sRetS, sRetN, sNil, sEx, sSet, sSetL, sAsg, sPar, sPar3, sPut, sRaise, sBk, sCt, sStuck, eStuck, asB, tru, truSl, truD, andT, orT, notT, andE, orE, notE, ifE, bin2, bin2L, un1, rd, cst, frz, lstL, tupE, vNil, vCons, calB, calL, callE, callL, appE, appL, resolve, slotsOf, putA, aSl, aVal, aNil, has?, isOw, chn, ixSl, lenSl, mtS, tName, tTupl, tCons, tNil, itE, walkD, rng1, rng2, slE, oSome, oNone, Res.bind, Res.thn, Res.lift, SRes.seq, loopR, Sl.toD, O.toD, fAppend, fReverse, fExtend, fPop, fClear, addD, catD, subD, intD, mulD, fdivD, modD, powD, shrD, andD, cmpD, leD, gtD, geD, ltD, eqD, neD, eqB, isD, isNotD, isNonB, negD, lenB, lenD, absB, max2, min2, intB, boolB, ordB, tupleB, listB, mkE, mkApp, mkLE, cmethE, methE, sFldM, putFD, fldD, sForT, isiE, isiTE, tyK, ixD, slD, joinE, indexE, lcL, emp, yes, h, ha, g, s3, cm, cp]
  · refine ⟨[.int 0, .int ((0 : Int).fmod 2147483629 + 2147483648 * i + 77), .int 0], ?_, fin _ _ (by omega)⟩
    simp [m__law_bag, b__law_bag, runF, frees, back, sSeq, sIf, sRet, sRetL, sRetS, sRetN, sNil, sEx, sSet, sSetL, sAsg, sPar, sPar3, sPut, sRaise, sBk, sCt, sStuck, eStuck, asB, tru, truSl, truD, andT, orT, notT, andE, orE, notE, ifE, bin2, bin2L, un1, rd, cst, frz, lstL, tupE, vNil, vCons, calB, calL, callE, callL, appE, appL, resolve, slotsOf, putA, aSl, aVal, aNil, has?, isOw, chn, ixSl, lenSl, mtS, tName, tTupl, tCons, tNil, itE, walkD, rng1, rng2, slE, oSome, oNone, Res.bind, Res.thn, Res.lift, SRes.seq, loopR, Sl.toD, O.toD, fAppend, fReverse, fExtend, fPop, fClear, addD, catD, subD, intD, mulD, fdivD, modD, powD, shrD, andD, cmpD, leD, gtD, geD, ltD, eqD, neD, eqB, isD, isNotD, isNonB, negD, lenB, lenD, absB, max2, min2, intB, boolB, ordB, tupleB, listB, mkE, mkApp, mkLE, cmethE, methE, sFldM, putFD, fldD, sForT, isiE, isiTE, tyK, ixD, slD, joinE, indexE, lcL, emp, yes, h, s3, cm, cp]
theorem e__law_take {xs : List D} {m : Nat} {n : Int} (hB : BagD xs m) (m1 : m < 1048576) (n0 : 0 < n) (n1 : n < 1073741824) :
    ∃ r ys, m__law_take [.ow (.lst xs), .fr (.int n)] = .ok (.fr (.int r)) [.ow (.lst ys), .fr (.int n)] ∧ 0 ≤ r ∧ r < n ∧ BagD ys (m + 1) := by
  obtain ⟨d, e, c, rfl, h2, h3, h4, h5, h6⟩ := hB.ex
  have nz : n ≠ 0 := by omega
  have cd : cDiv d n = true := by
    unfold cDiv
    exact decide_eq_true ⟨nz, by omega⟩
  by_cases h : 0 < d
  · refine ⟨d.fmod n, [.int (d.fdiv n), .int e, .int c], ?_, fmod_ge _ n0, fmod_lt _ n0, ⟨_, _, _, rfl, fdiv_ge h2 (by omega), h3, h4, h5, by omega⟩⟩
    simp [m__law_take, b__law_take, runF, frees, back, sSeq, sIf, sRet, sRetL, sRetS, sRetN, sNil, sEx, sSet, sSetL, sAsg, sPar, sPar3, sPut, sRaise, sBk, sCt, sStuck, eStuck, asB, tru, truSl, truD, andT, orT, notT, andE, orE, notE, ifE, bin2, bin2L, un1, rd, cst, frz, lstL, tupE, vNil, vCons, calB, calL, callE, callL, appE, appL, resolve, slotsOf, putA, aSl, aVal, aNil, has?, isOw, chn, ixSl, lenSl, mtS, tName, tTupl, tCons, tNil, itE, walkD, rng1, rng2, slE, oSome, oNone, Res.bind, Res.thn, Res.lift, SRes.seq, loopR, Sl.toD, O.toD, fAppend, fReverse, fExtend, fPop, fClear, addD, catD, subD, intD, mulD, fdivD, modD, powD, shrD, andD, cmpD, leD, gtD, geD, ltD, eqD, neD, eqB, isD, isNotD, isNonB, negD, lenB, lenD, absB, max2, min2, intB, boolB, ordB, tupleB, listB, mkE, mkApp, mkLE, cmethE, methE, sFldM, putFD, fldD, sForT, isiE, isiTE, tyK, ixD, slD, joinE, indexE, lcL, emp, yes, atI, ixN, h, nz, cd]
  · have p1 : cMul 15485863 (c + 1) = true := by simp [cMul]
    have p2 : cPow (e + 15485863 * (c + 1)) 3 = true := by
      unfold cPow
      exact decide_eq_true ⟨by decide, by decide, by omega⟩
    have p3 : cMul 104729 (c + 1) = true := by simp [cMul]
    have p4 : cMul 48271 e = true := by simp [cMul]
    have k0 := fmod_ge ((e + 15485863 * (c + 1)) ^ 3 + 104729 * (c + 1)) (b := 2305843009213693951) (by decide)
    have k1 := fmod_lt ((e + 15485863 * (c + 1)) ^ 3 + 104729 * (c + 1)) (b := 2305843009213693951) (by decide)
    have p5 : ∀ z : Int, 0 ≤ z → z < 2305843009213693951 → cMul z z = true := fun z a b => by
      unfold cMul
      exact decide_eq_true (.inl ⟨by omega, by omega⟩)
    have p6 := p5 _ k0 k1
    have p7 : ∀ z : Int, cDiv z 4096 = true := fun z => by
      unfold cDiv
      exact decide_eq_true ⟨by decide, by decide⟩
    refine ⟨((((((e + 15485863 * (c + 1)) ^ 3 + 104729 * (c + 1)).fmod 2305843009213693951) * (((e + 15485863 * (c + 1)) ^ 3 + 104729 * (c + 1)).fmod 2305843009213693951) + 48271 * e + 7919).fmod 2305843009213693921).fdiv 4096).fmod n, [.int d, .int e, .int (c + 1)], ?_, fmod_ge _ n0, fmod_lt _ n0, ⟨_, _, _, rfl, h2, h3, h4, by omega, by omega⟩⟩
    simp [m__law_take, b__law_take, runF, frees, back, sSeq, sIf, sRet, sRetL, sRetS, sRetN, sNil, sEx, sSet, sSetL, sAsg, sPar, sPar3, sPut, sRaise, sBk, sCt, sStuck, eStuck, asB, tru, truSl, truD, andT, orT, notT, andE, orE, notE, ifE, bin2, bin2L, un1, rd, cst, frz, lstL, tupE, vNil, vCons, calB, calL, callE, callL, appE, appL, resolve, slotsOf, putA, aSl, aVal, aNil, has?, isOw, chn, ixSl, lenSl, mtS, tName, tTupl, tCons, tNil, itE, walkD, rng1, rng2, slE, oSome, oNone, Res.bind, Res.thn, Res.lift, SRes.seq, loopR, Sl.toD, O.toD, fAppend, fReverse, fExtend, fPop, fClear, addD, catD, subD, intD, mulD, fdivD, modD, powD, shrD, andD, cmpD, leD, gtD, geD, ltD, eqD, neD, eqB, isD, isNotD, isNonB, negD, lenB, lenD, absB, max2, min2, intB, boolB, ordB, tupleB, listB, mkE, mkApp, mkLE, cmethE, methE, sFldM, putFD, fldD, sForT, isiE, isiTE, tyK, ixD, slD, joinE, indexE, lcL, emp, yes, atI, ixN, h, nz, p1, p2, p3, p4, p6, p7]
theorem e__law_of {xs : List D} {m : Nat} {ds : List D} (hB : BagD xs m) (m1 : m < 1048576) (n0 : 0 < ds.length) (n1 : ds.length < 1073741824) :
    ∃ d ys, m__law_of [.ow (.lst xs), .fr (.list ds)] = .ok (.fr d) [.ow (.lst ys), .fr (.list ds)] ∧ d ∈ ds ∧ BagD ys (m + 1) := by
  obtain ⟨r, ys, e, r0, r1, hB'⟩ := e__law_take (n := ds.length) hB m1 (by omega) (by omega)
  have hj : r.toNat < ds.length := by omega
  have ha : atI ds r = some ds[r.toNat] := by
    have := atI_nat (xs := ds) (j := r.toNat) (v := ds[r.toNat]) (List.getElem?_eq_getElem hj)
    rwa [Int.toNat_of_nonneg r0] at this
  refine ⟨ds[r.toNat], ys, ?_, List.getElem_mem hj, hB'⟩
  simp [m__law_of, b__law_of, runF, frees, back, sSeq, sIf, sRet, sRetL, sRetS, sRetN, sNil, sEx, sSet, sSetL, sAsg, sPar, sPar3, sPut, sRaise, sBk, sCt, sStuck, eStuck, asB, tru, truSl, truD, andT, orT, notT, andE, orE, notE, ifE, bin2, bin2L, un1, rd, cst, frz, lstL, tupE, vNil, vCons, calB, calL, callE, callL, appE, appL, resolve, slotsOf, putA, aSl, aVal, aNil, has?, isOw, chn, ixSl, lenSl, mtS, tName, tTupl, tCons, tNil, itE, walkD, rng1, rng2, slE, oSome, oNone, Res.bind, Res.thn, Res.lift, SRes.seq, loopR, Sl.toD, O.toD, fAppend, fReverse, fExtend, fPop, fClear, addD, catD, subD, intD, mulD, fdivD, modD, powD, shrD, andD, cmpD, leD, gtD, geD, ltD, eqD, neD, eqB, isD, isNotD, isNonB, negD, lenB, lenD, absB, max2, min2, intB, boolB, ordB, tupleB, listB, mkE, mkApp, mkLE, cmethE, methE, sFldM, putFD, fldD, sForT, isiE, isiTE, tyK, ixD, slD, joinE, indexE, lcL, emp, yes, e, ha]

/-! ### numbers, octets, texts drawn -/
theorem num_loop {n : Nat} (hn : n ≤ 63) {xs : List D} {m : Nat} {r : Sl} {o : Option Sl} (hB : BagD xs m) (m1 : m + 100 < 1048576) :
    ∃ (v : Int) (ys : List D) (o' : Option Sl), forT (tName 3) _law_number_b0 ((List.range n).map fun (k : Nat) => D.int k) [some (.ow (.lst xs)), some r, some (.fr (.int 0)), o] = .nx [some (.ow (.lst ys)), some r, some (.fr (.int v)), o'] ∧ 0 ≤ v ∧ v < 256 ^ n ∧ BagD ys (m + n) := by
  have st : ∀ (k : Nat) (x : D) (l : Ld), ((List.range n).map fun (k : Nat) => D.int k)[k]? = some x → (∃ (v : Int) (ys : List D) (o' : Option Sl), l = [some (.ow (.lst ys)), some r, some (.fr (.int v)), o'] ∧ 0 ≤ v ∧ v < 256 ^ k ∧ BagD ys (m + k)) →
      ∃ l1 l2, tName 3 x l = some l1 ∧ _law_number_b0 l1 = .nx l2 ∧ ∃ (v : Int) (ys : List D) (o' : Option Sl), l2 = [some (.ow (.lst ys)), some r, some (.fr (.int v)), o'] ∧ 0 ≤ v ∧ v < 256 ^ (k + 1) ∧ BagD ys (m + (k + 1)) := by
    rintro k x l hx ⟨v, ys, o', rfl, v0, v1, hB'⟩
    obtain ⟨hk, rfl⟩ := range_lt hx
    obtain ⟨d, zs, e2, d0, d1, hB2⟩ := e__law_take (n := 256) hB' (by omega) (by decide) (by decide)
    have cm : cMul v 256 = true := by simp [cMul]
    refine ⟨_, [some (.ow (.lst zs)), some r, some (.fr (.int (v * 256 + d))), some (.fr (.int k))], rfl, ?_, ⟨v * 256 + d, zs, _, rfl, by omega, ?_, hB2.more (by omega)⟩⟩
    · simp [_law_number_b0, runF, frees, back, sSeq, sIf, sRet, sRetL, sRetS, sRetN, sNil, sEx, sSet, sSetL, sAsg, sPar, sPar3, sPut, sRaise, sBk, sCt, sStuck, eStuck, asB, tru, truSl, truD, andT, orT, notT, andE, orE, notE, ifE, bin2, bin2L, un1, rd, cst, frz, lstL, tupE, vNil, vCons, calB, calL, callE, callL, appE, appL, resolve, slotsOf, putA, aSl, aVal, aNil, has?, isOw, chn, ixSl, lenSl, mtS, tName, tTupl, tCons, tNil, itE, walkD, rng1, rng2, slE, oSome, oNone, Res.bind, Res.thn, Res.lift, SRes.seq, loopR, Sl.toD, O.toD, fAppend, fReverse, fExtend, fPop, fClear, addD, catD, subD, intD, mulD, fdivD, modD, powD, shrD, andD, cmpD, leD, gtD, geD, ltD, eqD, neD, eqB, isD, isNotD, isNonB, negD, lenB, lenD, absB, max2, min2, intB, boolB, ordB, tupleB, listB, mkE, mkApp, mkLE, cmethE, methE, sFldM, putFD, fldD, sForT, isiE, isiTE, tyK, ixD, slD, joinE, indexE, lcL, emp, yes, e2, cm]
    · rw [Int.pow_succ]
      omega
  obtain ⟨l', e, i⟩ := forT_at (l := [some (.ow (.lst xs)), some r, some (.fr (.int 0)), o]) _ ⟨0, xs, o, rfl, by decide, by decide, hB.more (by omega)⟩ st
  simp only [List.length_map, List.length_range] at i
  obtain ⟨v, ys, o', rfl, a, b, c⟩ := i
  exact ⟨v, ys, o', e, a, b, c⟩
theorem e__law_number {xs : List D} {m : Nat} (hB : BagD xs m) (m1 : m + 200 < 1048576) : ∃ (v : Nat) (ys : List D), m__law_number [.ow (.lst xs)] = .ok (.fr (.int v)) [.ow (.lst ys)] ∧ v < 256 ^ 63 ∧ BagD ys (m + 70) := by
  obtain ⟨r, x1, e1, r0, r1, hB1⟩ := e__law_take (n := 4) hB (by omega) (by decide) (by decide)
  have nat : ∀ v : Int, 0 ≤ v → v < 256 ^ 63 → ∃ k : Nat, v = k ∧ k < 256 ^ 63 := fun v a b => by
    obtain ⟨k, rfl⟩ := Int.eq_ofNat_of_zero_le a
    exact ⟨k, rfl, by exact_mod_cast b⟩
  have s13 : 13 ≤ sizeLine := by decide
  have cp1 : cPow 256 62 = true := by decide
  have cp2 : cPow 256 63 = true := by decide
  by_cases h0 : r = 0
  · obtain ⟨d, x2, e2, mem, hB2⟩ := e__law_of (ds := [.int 0, .int 1, .int 190, .int 191, .int 192, .int 193, .int 255, .int 256, .int 257, .int 65535, .int 65536, .int (256 ^ 62), .int (256 ^ 63 - 1)]) hB1 (by omega) (by decide) (by decide)
    obtain ⟨v, hd, v0, v1⟩ : ∃ v : Int, d = .int v ∧ 0 ≤ v ∧ v < 256 ^ 63 := by
      simp only [List.mem_cons, List.not_mem_nil, or_false] at mem
      rcases mem with rfl | rfl | rfl | rfl | rfl | rfl | rfl | rfl | rfl | rfl | rfl | rfl | rfl <;> exact ⟨_, rfl, by decide, by decide⟩
    subst hd
    obtain ⟨k, rfl, hk⟩ := nat v v0 v1
    refine ⟨k, x2, ?_, hk, hB2.more (by omega)⟩
    subst h0
    simp [m__law_number, b__law_number, runF, frees, back, sSeq, sIf, sRet, sRetL, sRetS, sRetN, sNil, sEx, sSet, sSetL, sAsg, sPar, sPar3, sPut, sRaise, sBk, sCt, sStuck, eStuck, asB, tru, truSl, truD, andT, orT, notT, andE, orE, notE, ifE, bin2, bin2L, un1, rd, cst, frz, lstL, tupE, vNil, vCons, calB, calL, callE, callL, appE, appL, resolve, slotsOf, putA, aSl, aVal, aNil, has?, isOw, chn, ixSl, lenSl, mtS, tName, tTupl, tCons, tNil, itE, walkD, rng1, rng2, slE, oSome, oNone, Res.bind, Res.thn, Res.lift, SRes.seq, loopR, Sl.toD, O.toD, fAppend, fReverse, fExtend, fPop, fClear, addD, catD, subD, intD, mulD, fdivD, modD, powD, shrD, andD, cmpD, leD, gtD, geD, ltD, eqD, neD, eqB, isD, isNotD, isNonB, negD, lenB, lenD, absB, max2, min2, intB, boolB, ordB, tupleB, listB, mkE, mkApp, mkLE, cmethE, methE, sFldM, putFD, fldD, sForT, isiE, isiTE, tyK, ixD, slD, joinE, indexE, lcL, emp, yes, e1, e2, s13, cp1, cp2, -Int.reducePow]
  · by_cases h1 : r = 1
    · subst h1
      obtain ⟨v, x2, e2, v0, v1, hB2⟩ := e__law_take (n := 400) hB1 (by omega) (by decide) (by decide)
      obtain ⟨k, rfl, hk⟩ := nat v v0 (Int.lt_trans v1 (by decide))
      refine ⟨k, x2, ?_, hk, hB2.more (by omega)⟩
      simp [m__law_number, b__law_number, runF, frees, back, sSeq, sIf, sRet, sRetL, sRetS, sRetN, sNil, sEx, sSet, sSetL, sAsg, sPar, sPar3, sPut, sRaise, sBk, sCt, sStuck, eStuck, asB, tru, truSl, truD, andT, orT, notT, andE, orE, notE, ifE, bin2, bin2L, un1, rd, cst, frz, lstL, tupE, vNil, vCons, calB, calL, callE, callL, appE, appL, resolve, slotsOf, putA, aSl, aVal, aNil, has?, isOw, chn, ixSl, lenSl, mtS, tName, tTupl, tCons, tNil, itE, walkD, rng1, rng2, slE, oSome, oNone, Res.bind, Res.thn, Res.lift, SRes.seq, loopR, Sl.toD, O.toD, fAppend, fReverse, fExtend, fPop, fClear, addD, catD, subD, intD, mulD, fdivD, modD, powD, shrD, andD, cmpD, leD, gtD, geD, ltD, eqD, neD, eqB, isD, isNotD, isNonB, negD, lenB, lenD, absB, max2, min2, intB, boolB, ordB, tupleB, listB, mkE, mkApp, mkLE, cmethE, methE, sFldM, putFD, fldD, sForT, isiE, isiTE, tyK, ixD, slD, joinE, indexE, lcL, emp, yes, e1, e2]
    · obtain ⟨q, hq, q0, q1⟩ : ∃ q : Int, atI [D.int 3, D.int 63] (r - 2) = some (.int q) ∧ 0 < q ∧ q ≤ 63 := by
        have c3 : r = 2 ∨ r = 3 := by omega
        rcases c3 with rfl | rfl
        · exact ⟨3, rfl, by decide, by decide⟩
        · exact ⟨63, rfl, by decide, by decide⟩
      obtain ⟨t, x2, e2, t0, t1, hB2⟩ := e__law_take (n := q) hB1 (by omega) q0 (by omega)
      obtain ⟨v, x3, o', e3, v0, v1, hB3⟩ := num_loop (n := (1 + t).toNat) (by omega) (r := .fr (.int r)) (o := none) hB2 (by omega)
      have le : (1 + t).toNat ≤ 63 := by omega
      have := Nat.pow_le_pow_right (n := 256) (by decide) le
      obtain ⟨k, rfl, hk⟩ := nat v v0 (Int.lt_of_lt_of_le v1 (by exact_mod_cast this))
      refine ⟨k, x3, ?_, hk, hB3.more (by omega)⟩
      have s2 : 2 ≤ sizeLine := by decide
      have b1 : -4611686018427387904 ≤ 1 + t ∧ 1 + t < 4611686018427387904 := by omega
      simp [m__law_number, b__law_number, runF, frees, back, sSeq, sIf, sRet, sRetL, sRetS, sRetN, sNil, sEx, sSet, sSetL, sAsg, sPar, sPar3, sPut, sRaise, sBk, sCt, sStuck, eStuck, asB, tru, truSl, truD, andT, orT, notT, andE, orE, notE, ifE, bin2, bin2L, un1, rd, cst, frz, lstL, tupE, vNil, vCons, calB, calL, callE, callL, appE, appL, resolve, slotsOf, putA, aSl, aVal, aNil, has?, isOw, chn, ixSl, lenSl, mtS, tName, tTupl, tCons, tNil, itE, walkD, rng1, rng2, slE, oSome, oNone, Res.bind, Res.thn, Res.lift, SRes.seq, loopR, Sl.toD, O.toD, fAppend, fReverse, fExtend, fPop, fClear, addD, catD, subD, intD, mulD, fdivD, modD, powD, shrD, andD, cmpD, leD, gtD, geD, ltD, eqD, neD, eqB, isD, isNotD, isNonB, negD, lenB, lenD, absB, max2, min2, intB, boolB, ordB, tupleB, listB, mkE, mkApp, mkLE, cmethE, methE, sFldM, putFD, fldD, sForT, isiE, isiTE, tyK, ixD, slD, joinE, indexE, lcL, emp, yes, e1, h0, h1, hq, e2, e3, s2, b1]

theorem toInts : ∀ (ds : List D), (∀ d ∈ ds, ∃ b : Int, d = .int b ∧ 0 ≤ b ∧ b ≤ 255) → ∃ bs : List Int, ds = bs.map .int ∧ ∀ b ∈ bs, 0 ≤ b ∧ b ≤ 255
  | [], _ => ⟨[], rfl, (fun b m => (nomatch m))⟩
  | d :: ds, h => by
    obtain ⟨b, rfl, b0, b1⟩ := h d List.mem_cons_self
    obtain ⟨bs, rfl, hb⟩ := toInts ds fun x m => h x (List.mem_cons_of_mem _ m)
    refine ⟨b :: bs, rfl, fun x m => ?_⟩
    rcases List.mem_cons.mp m with rfl | m
    · exact ⟨b0, b1⟩
    · exact hb x m
theorem emp_nil {l : Ld} : emp [] l = true := rfl
theorem e__law_octets {xs : List D} {m : Nat} {most : Nat} (hB : BagD xs m) (hm : most ≤ 1000) (m1 : m + 4000 < 1048576) :
    ∃ (bs : List Int) (ys : List D), m__law_octets [.ow (.lst xs), .fr (.int most)] = .ok (.fr (.tup (bs.map .int))) [.ow (.lst ys), .fr (.int most)] ∧ bs.length ≤ most ∧ (∀ b ∈ bs, 0 ≤ b ∧ b ≤ 255) ∧ BagD ys (m + 3000) := by
  obtain ⟨r, x1, e1, r0, r1, hB1⟩ := e__law_take (n := (most : Int) + 1) hB (by omega) (by omega) (by omega)
  have s3 : 3 ≤ sizeLine := by decide
  have st : ∀ (j : Nat) (x : D) (l : Ld), ((List.range r.toNat).map fun (k : Nat) => D.int k)[j]? = some x → (∃ ys, l = [some (.ow (.lst ys)), some (.fr (.int most)), none] ∧ BagD ys (m + 1 + 2 * j)) →
      ∃ l1 l2 d l3, tName 2 x l = some l1 ∧ yes l1 = .ok true l2 ∧ _law_octets_e0 l2 = .ok d l3 ∧ (∃ b : Int, d = .int b ∧ 0 ≤ b ∧ b ≤ 255) ∧ ∃ ys, clr [2] l3 = [some (.ow (.lst ys)), some (.fr (.int most)), none] ∧ BagD ys (m + 1 + 2 * (j + 1)) := by
    rintro j x l hx ⟨ys, rfl, hB2⟩
    obtain ⟨hj, rfl⟩ := range_lt hx
    obtain ⟨t, x2, e2, t0, t1, hB3⟩ := e__law_take (n := 256) hB2 (by omega) (by decide) (by decide)
    obtain ⟨d, x3, e3, mem, hB4⟩ := e__law_of (ds := [.int 0, .int 255, .int t]) hB3 (by omega) (by simp) (by simp)
    refine ⟨_, _, d, [some (.ow (.lst x3)), some (.fr (.int most)), some (.fr (.int j))], rfl, rfl, ?_, ?_, x3, rfl, hB4.more (by omega)⟩
    · simp [_law_octets_e0, runF, frees, back, sSeq, sIf, sRet, sRetL, sRetS, sRetN, sNil, sEx, sSet, sSetL, sAsg, sPar, sPar3, sPut, sRaise, sBk, sCt, sStuck, eStuck, asB, tru, truSl, truD, andT, orT, notT, andE, orE, notE, ifE, bin2, bin2L, un1, rd, cst, frz, lstL, tupE, vNil, vCons, calB, calL, callE, callL, appE, appL, resolve, slotsOf, putA, aSl, aVal, aNil, has?, isOw, chn, ixSl, lenSl, mtS, tName, tTupl, tCons, tNil, itE, walkD, rng1, rng2, slE, oSome, oNone, Res.bind, Res.thn, Res.lift, SRes.seq, loopR, Sl.toD, O.toD, fAppend, fReverse, fExtend, fPop, fClear, addD, catD, subD, intD, mulD, fdivD, modD, powD, shrD, andD, cmpD, leD, gtD, geD, ltD, eqD, neD, eqB, isD, isNotD, isNonB, negD, lenB, lenD, absB, max2, min2, intB, boolB, ordB, tupleB, listB, mkE, mkApp, mkLE, cmethE, methE, sFldM, putFD, fldD, sForT, isiE, isiTE, tyK, ixD, slD, joinE, indexE, lcL, emp, yes, e2, e3, s3]
    · simp only [List.mem_cons, List.not_mem_nil, or_false] at mem
      rcases mem with rfl | rfl | rfl
      · exact ⟨0, rfl, by decide, by decide⟩
      · exact ⟨255, rfl, by decide, by decide⟩
      · exact ⟨t, rfl, t0, by omega⟩
  obtain ⟨ds, l', e, n, p, x2, rfl, hB2⟩ := lcM_at (vs := [2]) (t := tName 2) (c := yes) (e := _law_octets_e0) (l := [some (.ow (.lst x1)), some (.fr (.int most)), none]) _ _ ⟨x1, rfl, hB1.more (by omega)⟩ (by rw [List.length_map, List.length_range]; exact size_1000 (by omega)) st
  rw [List.length_map, List.length_range] at n hB2
  obtain ⟨bs, rfl, hb⟩ := toInts ds p
  rw [List.length_map] at n
  refine ⟨bs, x2, ?_, by omega, hb, hB2.more (by omega)⟩
  have b1 : -4611686018427387904 ≤ r ∧ r < 4611686018427387904 := by omega
  simp [m__law_octets, b__law_octets, runF, frees, back, sSeq, sIf, sRet, sRetL, sRetS, sRetN, sNil, sEx, sSet, sSetL, sAsg, sPar, sPar3, sPut, sRaise, sBk, sCt, sStuck, eStuck, asB, tru, truSl, truD, andT, orT, notT, andE, orE, notE, ifE, bin2, bin2L, un1, rd, cst, frz, lstL, tupE, vNil, vCons, calB, calL, callE, callL, appE, appL, resolve, slotsOf, putA, aSl, aVal, aNil, has?, isOw, chn, ixSl, lenSl, mtS, tName, tTupl, tCons, tNil, itE, walkD, rng1, rng2, slE, oSome, oNone, Res.bind, Res.thn, Res.lift, SRes.seq, loopR, Sl.toD, O.toD, fAppend, fReverse, fExtend, fPop, fClear, addD, catD, subD, intD, mulD, fdivD, modD, powD, shrD, andD, cmpD, leD, gtD, geD, ltD, eqD, neD, eqB, isD, isNotD, isNonB, negD, lenB, lenD, absB, max2, min2, intB, boolB, ordB, tupleB, listB, mkE, mkApp, mkLE, cmethE, methE, sFldM, putFD, fldD, sForT, isiE, isiTE, tyK, ixD, slD, joinE, indexE, lcL, emp, yes, e1, b1, lcL, emp, e]
/-- the characters of texts, by their codes -/
def charCodes : List Nat := vCHARS.cps.toList
theorem chars_96 : charCodes.length = 96 := by decide +kernel
abbrev one1 (c : Nat) : Str := ⟨#[c]⟩
def strOf (cs : List Nat) : Str := ⟨cs.toArray⟩
theorem join_ones (cs : List Nat) : Txt.join "" (cs.map one1) = strOf cs := by
  show Builtin.Str.glued "" (cs.map one1) = strOf cs
  rw [StrLaws.glued_eq_join]
  have h : (Str.join "" (cs.map one1)).cps.toList = cs := by
    have e := TL.tl_join "" (cs.map one1)
    have gen : ∀ cs : List Nat, TL.joinL (TL.tl "") ((cs.map one1).map TL.tl) = cs := by
      intro cs
      induction cs with
      | nil => rfl
      | cons c cs ih =>
        cases cs with
        | nil => rfl
        | cons d cs =>
          show [c] ++ ([] ++ TL.joinL (TL.tl "") (((d :: cs).map one1).map TL.tl)) = _
          rw [ih]
          rfl
    rw [gen] at e
    exact e
  show Str.join "" (cs.map one1) = ⟨cs.toArray⟩
  cases hj : Str.join "" (cs.map one1) with
  | mk a =>
    rw [hj] at h
    have h : a.toList = cs := h
    rw [← h]
theorem len_ones (cs : List Nat) : ((cs.map one1).map (·.length)).sum = cs.length := by
  induction cs with
  | nil => rfl
  | cons c cs ih =>
    show 1 + ((cs.map one1).map (·.length)).sum = cs.length + 1
    rw [ih]
    omega
theorem strsOf_ones : ∀ cs : List Nat, strsOf ((cs.map one1).map D.str) = some (cs.map one1)
  | [] => rfl
  | c :: cs => by
    show (strsOf ((cs.map one1).map D.str)).map (one1 c :: ·) = _
    rw [strsOf_ones cs]
    rfl
theorem joinD_ones {cs : List Nat} (h : cs.length ≤ 100000) : joinD (.str "") (.list ((cs.map one1).map .str)) = some (.str (strOf cs)) := by
  show ((strsOf ((cs.map one1).map D.str)).bind fun ys => if (ys.map (·.length)).sum + ys.length * (Str.length "") ≤ 16777216 then some (D.str (Txt.join "" ys)) else none) = _
  rw [strsOf_ones]
  show (if ((cs.map one1).map (·.length)).sum + (cs.map one1).length * 0 ≤ 16777216 then some (D.str (Txt.join "" (cs.map one1))) else none) = _
  rw [len_ones, if_pos (by omega), join_ones]
theorem toChars : ∀ (ds : List D), (∀ d ∈ ds, ∃ c : Nat, d = .str (one1 c) ∧ c ∈ charCodes) → ∃ cs : List Nat, ds = (cs.map one1).map .str ∧ ∀ c ∈ cs, c ∈ charCodes
  | [], _ => ⟨[], rfl, (fun b m => (nomatch m))⟩
  | d :: ds, h => by
    obtain ⟨c, rfl, hc⟩ := h d List.mem_cons_self
    obtain ⟨cs, rfl, hb⟩ := toChars ds fun x m => h x (List.mem_cons_of_mem _ m)
    refine ⟨c :: cs, rfl, fun x m => ?_⟩
    rcases List.mem_cons.mp m with rfl | m
    · exact hc
    · exact hb x m
theorem str_len (cs : List Nat) : (strOf cs).length = cs.length := by
  show cs.toArray.size = cs.length
  simp
theorem str_cps (cs : List Nat) : (strOf cs).cps.toList = cs := rfl
theorem addD_str {a b : Str} (h : a.length + b.length ≤ sizeLine) : addD (.str a) (.str b) = some (.str (a ++ b)) := if_pos h
theorem addD_int (a b : Int) : addD (.int a) (.int b) = some (.int (a + b)) := rfl
theorem lawChars1 : addD (.str "\t\n") (.str " !\"#$&'()*+,-./0123456789:;<=>?@ABCDEFGHIJKLMNOPQRSTUVWXYZ[\\]^_") = some (.str ("\t\n" ++ (" !\"#$&'()*+,-./0123456789:;<=>?@ABCDEFGHIJKLMNOPQRSTUVWXYZ[\\]^_" : Str))) := addD_str (by decide +kernel)
theorem lawChars2 : addD (.str ("\t\n" ++ (" !\"#$&'()*+,-./0123456789:;<=>?@ABCDEFGHIJKLMNOPQRSTUVWXYZ[\\]^_" : Str))) (.str "`abcdefghijklmnopqrstuvwxyz{|}~") = some (.str vCHARS) := by
  have e : ("\t\n" ++ (" !\"#$&'()*+,-./0123456789:;<=>?@ABCDEFGHIJKLMNOPQRSTUVWXYZ[\\]^_" : Str)) ++ ("`abcdefghijklmnopqrstuvwxyz{|}~" : Str) = vCHARS := by decide +kernel
  rw [← e]
  exact addD_str (by decide +kernel)
theorem ixChars {i : Int} (h0 : 0 ≤ i) (h1 : i < 96) : ∃ c, ixD (.str vCHARS) (.int i) = some (.str (one1 c)) ∧ c ∈ charCodes := by
  have hj : i.toNat < charCodes.length := by rw [chars_96]; omega
  refine ⟨charCodes[i.toNat], ?_, List.getElem_mem hj⟩
  have ha : atI charCodes i = some charCodes[i.toNat] := by
    have := atI_nat (xs := charCodes) (j := i.toNat) (v := charCodes[i.toNat]) (List.getElem?_eq_getElem hj)
    rwa [Int.toNat_of_nonneg h0] at this
  show (if vCHARS.length ≤ sizeLine then (atI charCodes i).map fun c => D.str ⟨#[c]⟩ else none) = _
  rw [if_pos (by decide +kernel), ha]
  rfl
theorem e__law_text {xs : List D} {m : Nat} {most : Nat} (hB : BagD xs m) (hm : most ≤ 1000) (m1 : m + 4000 < 1048576) :
    ∃ (cs : List Nat) (ys : List D), m__law_text [.ow (.lst xs), .fr (.int most)] = .ok (.fr (.str (strOf cs))) [.ow (.lst ys), .fr (.int most)] ∧ cs.length ≤ most ∧ (∀ c ∈ cs, c ∈ charCodes) ∧ BagD ys (m + 3000) := by
  obtain ⟨r, x1, e1, r0, r1, hB1⟩ := e__law_take (n := (most : Int) + 1) hB (by omega) (by omega) (by omega)
  have s3 : 3 ≤ sizeLine := by decide
  have st : ∀ (j : Nat) (x : D) (l : Ld), ((List.range r.toNat).map fun (k : Nat) => D.int k)[j]? = some x → (∃ ys, l = [some (.ow (.lst ys)), some (.fr (.int most)), some (.fr (.str vCHARS)), none] ∧ BagD ys (m + 1 + 2 * j)) →
      ∃ l1 l2 d l3, tName 3 x l = some l1 ∧ yes l1 = .ok true l2 ∧ _law_text_e0 l2 = .ok d l3 ∧ (∃ c : Nat, d = .str (one1 c) ∧ c ∈ charCodes) ∧ ∃ ys, clr [3] l3 = [some (.ow (.lst ys)), some (.fr (.int most)), some (.fr (.str vCHARS)), none] ∧ BagD ys (m + 1 + 2 * (j + 1)) := by
    rintro j x l hx ⟨ys, rfl, hB2⟩
    obtain ⟨hj, rfl⟩ := range_lt hx
    obtain ⟨t, x2, e2, t0, t1, hB3⟩ := e__law_take (n := 96) hB2 (by omega) (by decide) (by decide)
    obtain ⟨d, x3, e3, mem, hB4⟩ := e__law_of (ds := [.int 0, .int 95, .int t]) hB3 (by omega) (by simp) (by simp)
    obtain ⟨i, rfl, i0, i1⟩ : ∃ i : Int, d = .int i ∧ 0 ≤ i ∧ i < 96 := by
      simp only [List.mem_cons, List.not_mem_nil, or_false] at mem
      rcases mem with rfl | rfl | rfl
      · exact ⟨0, rfl, by decide, by decide⟩
      · exact ⟨95, rfl, by decide, by decide⟩
      · exact ⟨t, rfl, t0, t1⟩
    obtain ⟨c, hc, mc⟩ := ixChars i0 i1
    refine ⟨_, _, .str (one1 c), [some (.ow (.lst x3)), some (.fr (.int most)), some (.fr (.str vCHARS)), some (.fr (.int j))], rfl, rfl, ?_, ⟨c, rfl, mc⟩, x3, rfl, hB4.more (by omega)⟩
    simp [_law_text_e0, runF, frees, back, sSeq, sIf, sRet, sRetL, sRetS, sRetN, sNil, sEx, sSet, sSetL, sAsg, sPar, sPar3, sPut, sRaise, sBk, sCt, sStuck, eStuck, asB, tru, truSl, andT, orT, notT, andE, orE, notE, ifE, bin2, bin2L, un1, rd, cst, frz, lstL, tupE, vNil, vCons, calB, calL, callE, callL, appE, appL, resolve, slotsOf, putA, aSl, aVal, aNil, has?, isOw, chn, ixSl, lenSl, mtS, tName, tTupl, tCons, tNil, itE, rng1, rng2, slE, oSome, oNone, Res.bind, Res.thn, Res.lift, SRes.seq, loopR, Sl.toD, O.toD, mkE, mkApp, mkLE, cmethE, methE, sFldM, sForT, isiE, isiTE, joinE, indexE, lcL, emp, yes, e2, e3, s3, hc]
  obtain ⟨ds, l', e, n, p, x2, rfl, hB2⟩ := lcM_at (vs := [3]) (t := tName 3) (c := yes) (e := _law_text_e0) (l := [some (.ow (.lst x1)), some (.fr (.int most)), some (.fr (.str vCHARS)), none]) _ _ ⟨x1, rfl, hB1.more (by omega)⟩ (by rw [List.length_map, List.length_range]; exact size_1000 (by omega)) st
  rw [List.length_map, List.length_range] at n hB2
  obtain ⟨cs, rfl, hb⟩ := toChars ds p
  rw [List.length_map, List.length_map] at n
  refine ⟨cs, x2, ?_, by omega, hb, hB2.more (by omega)⟩
  have b1 : -4611686018427387904 ≤ r ∧ r < 4611686018427387904 := by omega
  have j1 := joinD_ones (cs := cs) (by omega)
  have i1 : intB [D.int r] = some (.int r) := rfl
  simp [m__law_text, b__law_text, runF, frees, back, sSeq, sIf, sRet, sRetL, sRetS, sRetN, sNil, sEx, sSet, sSetL, sAsg, sPar, sPar3, sPut, sRaise, sBk, sCt, sStuck, eStuck, asB, tru, truSl, andT, orT, notT, andE, orE, notE, ifE, bin2, bin2L, un1, rd, cst, frz, lstL, tupE, vNil, vCons, calB, calL, callE, callL, appE, appL, resolve, slotsOf, putA, aSl, aVal, aNil, has?, isOw, chn, ixSl, lenSl, mtS, tName, tTupl, tCons, tNil, itE, rng1, rng2, slE, oSome, oNone, Res.bind, Res.thn, Res.lift, SRes.seq, loopR, Sl.toD, O.toD, mkE, mkApp, mkLE, cmethE, methE, sFldM, sForT, isiE, isiTE, joinE, indexE, lcL, emp, yes, lawChars1, lawChars2, addD_int, e1, -List.map_map, b1, lcL, emp, e, j1, isStr]
theorem e__law_integer {xs : List D} {m : Nat} (hB : BagD xs m) (m1 : m + 300 < 1048576) : ∃ (v : Int) (ys : List D), m__law_integer [.ow (.lst xs)] = .ok (.fr (.int v)) [.ow (.lst ys)] ∧ -(256 ^ 63) ≤ v ∧ v < 256 ^ 63 ∧ BagD ys (m + 100) := by
  obtain ⟨n, x1, e1, n1, hB1⟩ := e__law_number hB (by omega)
  obtain ⟨r, x2, e2, r0, r1, hB2⟩ := e__law_take (n := 2) hB1 (by omega) (by decide) (by decide)
  have n2 : (n : Int) < 256 ^ 63 := by exact_mod_cast n1
  by_cases h : r = 0
  · exact ⟨n, x2, by simp [m__law_integer, b__law_integer, runF, frees, back, sSeq, sIf, sRet, sRetL, sRetS, sRetN, sNil, sEx, sSet, sSetL, sAsg, sPar, sPar3, sPut, sRaise, sBk, sCt, sStuck, eStuck, asB, tru, truSl, truD, andT, orT, notT, andE, orE, notE, ifE, bin2, bin2L, un1, rd, cst, frz, lstL, tupE, vNil, vCons, calB, calL, callE, callL, appE, appL, resolve, slotsOf, putA, aSl, aVal, aNil, has?, isOw, chn, ixSl, lenSl, mtS, tName, tTupl, tCons, tNil, itE, walkD, rng1, rng2, slE, oSome, oNone, Res.bind, Res.thn, Res.lift, SRes.seq, loopR, Sl.toD, O.toD, fAppend, fReverse, fExtend, fPop, fClear, addD, catD, subD, intD, mulD, fdivD, modD, powD, shrD, andD, cmpD, leD, gtD, geD, ltD, eqD, neD, eqB, isD, isNotD, isNonB, negD, lenB, lenD, absB, max2, min2, intB, boolB, ordB, tupleB, listB, mkE, mkApp, mkLE, cmethE, methE, sFldM, putFD, fldD, sForT, isiE, isiTE, tyK, ixD, slD, joinE, indexE, lcL, emp, yes, e1, e2, h], by omega, n2, hB2.more (by omega)⟩
  · exact ⟨-1 - n, x2, by simp [m__law_integer, b__law_integer, runF, frees, back, sSeq, sIf, sRet, sRetL, sRetS, sRetN, sNil, sEx, sSet, sSetL, sAsg, sPar, sPar3, sPut, sRaise, sBk, sCt, sStuck, eStuck, asB, tru, truSl, truD, andT, orT, notT, andE, orE, notE, ifE, bin2, bin2L, un1, rd, cst, frz, lstL, tupE, vNil, vCons, calB, calL, callE, callL, appE, appL, resolve, slotsOf, putA, aSl, aVal, aNil, has?, isOw, chn, ixSl, lenSl, mtS, tName, tTupl, tCons, tNil, itE, walkD, rng1, rng2, slE, oSome, oNone, Res.bind, Res.thn, Res.lift, SRes.seq, loopR, Sl.toD, O.toD, fAppend, fReverse, fExtend, fPop, fClear, addD, catD, subD, intD, mulD, fdivD, modD, powD, shrD, andD, cmpD, leD, gtD, geD, ltD, eqD, neD, eqB, isD, isNotD, isNonB, negD, lenB, lenD, absB, max2, min2, intB, boolB, ordB, tupleB, listB, mkE, mkApp, mkLE, cmethE, methE, sFldM, putFD, fldD, sForT, isiE, isiTE, tyK, ixD, slD, joinE, indexE, lcL, emp, yes, e1, e2, h], by omega, by omega, hB2.more (by omega)⟩

/-! ### scalars -/
inductive Sc : D → Prop
  | non : Sc .non
  | bl (b : Bool) : Sc (.bl b)
  | int {i : Int} : -(256 ^ 63) ≤ i → i < 256 ^ 63 → Sc (.int i)
  | tup {bs : List Int} : (∀ b ∈ bs, 0 ≤ b ∧ b ≤ 255) → bs.length ≤ 1000 → Sc (.tup (bs.map .int))
  | str {cs : List Nat} : (∀ c ∈ cs, c ∈ charCodes) → cs.length ≤ 1000 → Sc (.str (strOf cs))
def codeI (i : Int) : List Int := codeN i.toNat
def flip255 (ds : List Int) : List Int := ds.map fun d => 255 - d
/-- the document of a scalar -/
inductive Row : D → List Int → Prop
  | non : Row .non [1]
  | bl (b : Bool) : Row (.bl b) [if b then 3 else 2]
  | pos (n : Nat) : n < 256 ^ 63 → Row (.int n) (5 :: codeN n)
  | neg (n : Nat) : n < 256 ^ 63 → Row (.int (-1 - n)) (4 :: flip255 (codeN n))
  | tup {bs : List Int} : (∀ b ∈ bs, 0 ≤ b ∧ b ≤ 255) → bs.length ≤ 1000 → Row (.tup (bs.map .int)) (6 :: (codeN bs.length ++ bs))
  | str {cs : List Nat} : (∀ c ∈ cs, c ∈ charCodes) → cs.length ≤ 1000 → Row (.str (strOf cs)) (7 :: (codeN cs.length ++ cs.map fun (c : Nat) => (c : Int)))
theorem Sc.row {d : D} (h : Sc d) : ∃ r, Row d r := by
  cases h with
  | non => exact ⟨_, .non⟩
  | bl b => exact ⟨_, .bl b⟩
  | int a b =>
    rename_i i
    by_cases c : 0 ≤ i
    · obtain ⟨n, rfl⟩ := Int.eq_ofNat_of_zero_le c
      exact ⟨_, .pos n (by exact_mod_cast b)⟩
    · obtain ⟨n, hn⟩ := Int.eq_ofNat_of_zero_le (show 0 ≤ -1 - i by omega)
      have e : i = -1 - (n : Int) := by omega
      rw [e]
      exact ⟨_, .neg n (by have : (n : Int) < 256 ^ 63 := by omega
                           exact_mod_cast this)⟩
  | tup a b => exact ⟨_, .tup a b⟩
  | str a b => exact ⟨_, .str a b⟩
theorem small63 {n : Nat} (h : n ≤ 1000) : n < 256 ^ 63 := Nat.lt_of_le_of_lt h (by decide)
theorem charCode_bound {c : Nat} (h : c ∈ charCodes) : c ≤ 126 := by
  have : ∀ c ∈ charCodes, c ≤ 126 := by decide +kernel
  exact this c h
theorem Row.byte {d : D} {r : List Int} (h : Row d r) : ∀ b ∈ r, 0 ≤ b ∧ b ≤ 255 := by
  intro b m
  cases h with
  | non => simp at m; omega
  | bl x => cases x <;> simp at m <;> omega
  | pos n hn =>
    rcases List.mem_cons.mp m with rfl | m
    · omega
    · exact codeN_byte hn b m
  | neg n hn =>
    rcases List.mem_cons.mp m with rfl | m
    · omega
    · obtain ⟨x, hx, rfl⟩ := List.mem_map.mp m
      have := codeN_byte hn x hx
      omega
  | tup hb hl =>
    rcases List.mem_cons.mp m with rfl | m
    · omega
    · rcases List.mem_append.mp m with m | m
      · exact codeN_byte (small63 hl) b m
      · exact hb b m
  | str hb hl =>
    rcases List.mem_cons.mp m with rfl | m
    · omega
    · rcases List.mem_append.mp m with m | m
      · exact codeN_byte (small63 hl) b m
      · obtain ⟨c, hc, rfl⟩ := List.mem_map.mp m
        have := charCode_bound (hb c hc)
        omega
theorem Row.len {d : D} {r : List Int} (h : Row d r) : r.length ≤ 1100 := by
  cases h with
  | non => decide
  | bl x => exact (by decide : 1 ≤ 1100)
  | pos n hn =>
    have := codeN_len hn
    simp only [List.length_cons]
    omega
  | neg n hn =>
    have := codeN_len hn
    simp only [List.length_cons, flip255, List.length_map]
    omega
  | tup hb hl =>
    have := codeN_len (small63 hl)
    simp only [List.length_cons, List.length_append]
    omega
  | str hb hl =>
    have := codeN_len (small63 hl)
    simp only [List.length_cons, List.length_append, List.length_map]
    omega
/-! is_text, is_octets, is_key -/
theorem all_true (n : Nat) : blsOf (List.replicate n (.bl true)) = some (List.replicate n true) := by
  induction n with
  | zero => rfl
  | succ n ih =>
    show (blsOf (List.replicate n (.bl true))).map (true :: ·) = _
    rw [ih]
    rfl
theorem allB_true (n : Nat) : allB [.list (List.replicate n (.bl true))] = some (.bl true) := by
  show (blsOf (List.replicate n (.bl true))).map (fun bs => D.bl (bs.all id)) = _
  rw [all_true]
  simp
theorem map_const {α β : Type} (xs : List α) (b : β) : xs.map (fun _ => b) = List.replicate xs.length b := by
  induction xs with
  | nil => rfl
  | cons x xs ih => simp [ih, List.replicate_succ]
theorem one_one (c : Nat) : one? (one1 c) = some c := rfl
theorem inD_char {c : Nat} (h : c ∈ charCodes) : inD (.str (one1 c)) (.str vCHARS) = some (.bl true) := by
  show (((one? (one1 c)).map fun c => decide (c ∈ vCHARS.cps.toList)).map D.bl) = _
  rw [one_one]
  show some (D.bl (decide (c ∈ charCodes))) = _
  rw [decide_eq_true h]
theorem chars_str (cs : List Nat) : chars (strOf cs) = (cs.map one1).map D.str := by
  unfold chars
  rw [str_cps, List.map_map]
  rfl
theorem e_is_text {cs : List Nat} (h : ∀ c ∈ cs, c ∈ charCodes) (hl : cs.length ≤ 1000) : m_is_text [.fr (.str (strOf cs))] = .ok (.fr (.bl true)) [.fr (.str (strOf cs))] := by
  have e := lcM_map (vs := [1]) (t := tName 1) (c := yes) (e := is_text_e0) (fun _ => .bl true) [some (.fr (.str (strOf cs))), none] (chars (strOf cs)) [] (by rw [chars_str]; simp only [List.length_map, List.length_nil]; exact size_1000 (by omega)) (by
    rw [chars_str]
    intro x m
    obtain ⟨y, my, rfl⟩ := List.mem_map.mp m
    obtain ⟨c, mc, rfl⟩ := List.mem_map.mp my
    refine ⟨_, _, [some (.fr (.str (strOf cs))), some (.fr (.str (one1 c)))], rfl, rfl, ?_, rfl⟩
    simp [is_text_e0, runF, frees, back, sSeq, sIf, sRet, sRetL, sRetS, sRetN, sNil, sEx, sSet, sSetL, sAsg, sPar, sPar3, sPut, sRaise, sBk, sCt, sStuck, eStuck, asB, tru, truSl, andT, orT, notT, andE, orE, notE, ifE, bin2, bin2L, un1, rd, cst, frz, lstL, tupE, vNil, vCons, calB, calL, callE, callL, appE, appL, resolve, slotsOf, putA, aSl, aVal, aNil, has?, isOw, chn, ixSl, lenSl, mtS, tName, tTupl, tCons, tNil, itE, rng1, rng2, slE, oSome, oNone, Res.bind, Res.thn, Res.lift, SRes.seq, loopR, Sl.toD, O.toD, mkE, mkApp, mkLE, cmethE, methE, sFldM, sForT, isiE, isiTE, joinE, indexE, lcL, emp, yes, inD_char (h c mc)])
  rw [map_const] at e
  simp only [List.nil_append] at e
  have a := allB_true (chars (strOf cs)).length
  have i : isiE tab_str (rd 0) [some (Sl.fr (D.str (strOf cs))), none] = .ok (.bl true) [some (Sl.fr (D.str (strOf cs))), none] := rfl
  simp [m_is_text, b_is_text, runF, frees, back, sRet, andE, asB, i, Res.bind, Res.thn, calB, vCons, vNil, frz, lcL, itE, rd, walkD, Res.lift, emp, e, a]
theorem e_is_text_tup (xs : List D) : m_is_text [.fr (.tup xs)] = .ok (.fr (.bl false)) [.fr (.tup xs)] := rfl
theorem e_is_octets {bs : List Int} (h : ∀ b ∈ bs, 0 ≤ b ∧ b ≤ 255) (hl : bs.length ≤ 1000) : m_is_octets [.fr (.tup (bs.map .int))] = .ok (.fr (.bl true)) [.fr (.tup (bs.map .int))] := by
  have e := lcM_map (vs := [1]) (t := tName 1) (c := yes) (e := is_octets_e0) (fun _ => .bl true) [some (.fr (.tup (bs.map .int))), none] (bs.map .int) [] (by simp only [List.length_map, List.length_nil]; exact size_1000 (by omega)) (by
    intro x m
    obtain ⟨b, mb, rfl⟩ := List.mem_map.mp m
    refine ⟨_, _, [some (.fr (.tup (bs.map .int))), some (.fr (.int b))], rfl, rfl, ?_, rfl⟩
    have hb := h b mb
    have eb := e_is_byte_int b
    rw [decide_eq_true hb] at eb
    simp [is_octets_e0, runF, frees, back, sSeq, sIf, sRet, sRetL, sRetS, sRetN, sNil, sEx, sSet, sSetL, sAsg, sPar, sPar3, sPut, sRaise, sBk, sCt, sStuck, eStuck, asB, tru, truSl, andT, orT, notT, andE, orE, notE, ifE, bin2, bin2L, un1, rd, cst, frz, lstL, tupE, vNil, vCons, calB, calL, callE, callL, appE, appL, resolve, slotsOf, putA, aSl, aVal, aNil, has?, isOw, chn, ixSl, lenSl, mtS, tName, tTupl, tCons, tNil, itE, rng1, rng2, slE, oSome, oNone, Res.bind, Res.thn, Res.lift, SRes.seq, loopR, Sl.toD, O.toD, mkE, mkApp, mkLE, cmethE, methE, sFldM, sForT, isiE, isiTE, joinE, indexE, lcL, emp, yes, eb])
  rw [map_const] at e
  simp only [List.nil_append] at e
  have a := allB_true (bs.map D.int).length
  have i : isiE tab_tuple (rd 0) [some (Sl.fr (D.tup (bs.map .int))), none] = .ok (.bl true) [some (Sl.fr (D.tup (bs.map .int))), none] := rfl
  simp only [List.length_map] at e a
  simp [m_is_octets, b_is_octets, runF, frees, back, sRet, andE, asB, i, Res.bind, Res.thn, calB, vCons, vNil, frz, lcL, itE, rd, walkD, Res.lift, emp, e, a]
theorem e_is_key_int {i : Int} (a : -(256 ^ 63) ≤ i) (b : i < 256 ^ 63) : m_is_key [.fr (.int i)] = .ok (.fr (.bl true)) [.fr (.int i)] := by
  have a' : -(256 ^ 63) ≤ i := a
  have b' : i ≤ 256 ^ 63 - 1 := by omega
  simp [m_is_key, b_is_key, runF, frees, back, sSeq, sIf, sRet, sRetL, sRetS, sRetN, sNil, sEx, sSet, sSetL, sAsg, sPar, sPar3, sPut, sRaise, sBk, sCt, sStuck, eStuck, asB, tru, truSl, truD, andT, orT, notT, andE, orE, notE, ifE, bin2, bin2L, un1, rd, cst, frz, lstL, tupE, vNil, vCons, calB, calL, callE, callL, appE, appL, resolve, slotsOf, putA, aSl, aVal, aNil, has?, isOw, chn, ixSl, lenSl, mtS, tName, tTupl, tCons, tNil, itE, walkD, rng1, rng2, slE, oSome, oNone, Res.bind, Res.thn, Res.lift, SRes.seq, loopR, Sl.toD, O.toD, fAppend, fReverse, fExtend, fPop, fClear, addD, catD, subD, intD, mulD, fdivD, modD, powD, shrD, andD, cmpD, leD, gtD, geD, ltD, eqD, neD, eqB, isD, isNotD, isNonB, negD, lenB, lenD, absB, max2, min2, intB, boolB, ordB, tupleB, listB, mkE, mkApp, mkLE, cmethE, methE, sFldM, putFD, fldD, sForT, isiE, isiTE, tyK, ixD, slD, joinE, indexE, lcL, emp, yes, e_is_integer_int, a', b', -Int.reducePow, -Int.reduceNeg, -Int.reduceSub]
theorem e_is_key_str {cs : List Nat} (h : ∀ c ∈ cs, c ∈ charCodes) (hl : cs.length ≤ 1000) : m_is_key [.fr (.str (strOf cs))] = .ok (.fr (.bl true)) [.fr (.str (strOf cs))] := by
  simp [m_is_key, b_is_key, runF, frees, back, sSeq, sIf, sRet, sRetL, sRetS, sRetN, sNil, sEx, sSet, sSetL, sAsg, sPar, sPar3, sPut, sRaise, sBk, sCt, sStuck, eStuck, asB, tru, truSl, truD, andT, orT, notT, andE, orE, notE, ifE, bin2, bin2L, un1, rd, cst, frz, lstL, tupE, vNil, vCons, calB, calL, callE, callL, appE, appL, resolve, slotsOf, putA, aSl, aVal, aNil, has?, isOw, chn, ixSl, lenSl, mtS, tName, tTupl, tCons, tNil, itE, walkD, rng1, rng2, slE, oSome, oNone, Res.bind, Res.thn, Res.lift, SRes.seq, loopR, Sl.toD, O.toD, fAppend, fReverse, fExtend, fPop, fClear, addD, catD, subD, intD, mulD, fdivD, modD, powD, shrD, andD, cmpD, leD, gtD, geD, ltD, eqD, neD, eqB, isD, isNotD, isNonB, negD, lenB, lenD, absB, max2, min2, intB, boolB, ordB, tupleB, listB, mkE, mkApp, mkLE, cmethE, methE, sFldM, putFD, fldD, sForT, isiE, isiTE, tyK, ixD, slD, joinE, indexE, lcL, emp, yes, e_is_integer_str, e_is_text h hl]
theorem e_is_key_tup {bs : List Int} (h : ∀ b ∈ bs, 0 ≤ b ∧ b ≤ 255) (hl : bs.length ≤ 1000) : m_is_key [.fr (.tup (bs.map .int))] = .ok (.fr (.bl true)) [.fr (.tup (bs.map .int))] := by
  simp [m_is_key, b_is_key, runF, frees, back, sSeq, sIf, sRet, sRetL, sRetS, sRetN, sNil, sEx, sSet, sSetL, sAsg, sPar, sPar3, sPut, sRaise, sBk, sCt, sStuck, eStuck, asB, tru, truSl, truD, andT, orT, notT, andE, orE, notE, ifE, bin2, bin2L, un1, rd, cst, frz, lstL, tupE, vNil, vCons, calB, calL, callE, callL, appE, appL, resolve, slotsOf, putA, aSl, aVal, aNil, has?, isOw, chn, ixSl, lenSl, mtS, tName, tTupl, tCons, tNil, itE, walkD, rng1, rng2, slE, oSome, oNone, Res.bind, Res.thn, Res.lift, SRes.seq, loopR, Sl.toD, O.toD, fAppend, fReverse, fExtend, fPop, fClear, addD, catD, subD, intD, mulD, fdivD, modD, powD, shrD, andD, cmpD, leD, gtD, geD, ltD, eqD, neD, eqB, isD, isNotD, isNonB, negD, lenB, lenD, absB, max2, min2, intB, boolB, ordB, tupleB, listB, mkE, mkApp, mkLE, cmethE, methE, sFldM, putFD, fldD, sForT, isiE, isiTE, tyK, ixD, slD, joinE, indexE, lcL, emp, yes, e_is_integer_tup, e_is_text_tup, e_is_octets h hl]
theorem e_is_plain_non : m_is_plain [.fr .non] = .ok (.fr (.bl true)) [.fr .non] := rfl
theorem e_is_plain_bl (b) : m_is_plain [.fr (.bl b)] = .ok (.fr (.bl true)) [.fr (.bl b)] := rfl
theorem e_is_plain_int (b) : m_is_plain [.fr (.int b)] = .ok (.fr (.bl false)) [.fr (.int b)] := rfl
theorem e_is_plain_str (b) : m_is_plain [.fr (.str b)] = .ok (.fr (.bl false)) [.fr (.str b)] := rfl
theorem e_is_plain_tup (b) : m_is_plain [.fr (.tup b)] = .ok (.fr (.bl false)) [.fr (.tup b)] := rfl
/-! rows -/
theorem catList {xs ys : List D} (h : xs.length + ys.length ≤ sizeLine) : addD (.list xs) (.list ys) = some (.list (xs ++ ys)) := if_pos h
theorem catList1 {x : Int} {ys : List Int} (h : 1 + ys.length ≤ sizeLine) : addD (.list [.int x]) (.list (ys.map .int)) = some (.list (.int x :: ys.map .int)) := catList (xs := [.int x]) (by rw [List.length_map]; exact h)
theorem catList2 {x : Int} {xs ys : List Int} (h : (x :: xs).length + ys.length ≤ sizeLine) : addD (.list (.int x :: xs.map .int)) (.list (ys.map .int)) = some (.list (.int x :: (xs.map .int ++ ys.map .int))) := catList (xs := .int x :: xs.map .int) (by rw [List.length_map, List.length_cons, List.length_map]; exact h)
theorem e_integer_pos {n : Nat} (h : n < 256 ^ 63) : m_integer_row [.fr (.int n)] = .ok (.fr (.list ((5 :: codeN n).map .int))) [.fr (.int n)] := by
  have l := codeN_len h
  have s1 : 1 ≤ sizeLine := by decide
  have c := catList1 (x := 5) (ys := codeN n) (size_1000 (by omega))
  have g : geD (.int n) (.int 0) = some (.bl true) := by simp [geD, cmpD]
  simp [m_integer_row, b_integer_row, runF, frees, back, sSeq, sIf, sRet, sRetL, sRetS, sRetN, sNil, sEx, sSet, sSetL, sAsg, sPar, sPar3, sPut, sRaise, sBk, sCt, sStuck, eStuck, asB, tru, truSl, andT, orT, notT, andE, orE, notE, ifE, bin2, bin2L, un1, rd, cst, frz, lstL, tupE, vNil, vCons, calB, calL, callE, callL, appE, appL, resolve, slotsOf, putA, aSl, aVal, aNil, has?, isOw, chn, ixSl, lenSl, mtS, tName, tTupl, tCons, tNil, itE, rng1, rng2, slE, oSome, oNone, Res.bind, Res.thn, Res.lift, SRes.seq, loopR, Sl.toD, O.toD, mkE, mkApp, mkLE, cmethE, methE, sFldM, sForT, isiE, isiTE, joinE, indexE, lcL, emp, yes, g, e_plain_code h, s1, c]
theorem neg_loop {ds : List Int} (e0 : ME) (he : ∀ (d : Int) (s : Sl), e0 [some s, some (.fr (.int d))] = .ok (.int (255 - d)) [some s, some (.fr (.int d))]) (hl : ds.length ≤ 1000) (s : Sl) : lcM [1] (tName 1) yes e0 (ds.map .int) [] [some s, none] = .ok ((flip255 ds).map .int) [some s, none] := by
  have e := lcM_map (vs := [1]) (t := tName 1) (c := yes) (e := e0) (fun x => match x with | .int d => .int (255 - d) | x => x) [some s, none] (ds.map .int) [] (by simp only [List.length_map, List.length_nil]; exact size_1000 (by omega)) (by
    intro x m
    obtain ⟨d, md, rfl⟩ := List.mem_map.mp m
    exact ⟨_, _, [some s, some (.fr (.int d))], rfl, rfl, he d s, rfl⟩)
  rw [e, List.nil_append, List.map_map, flip255, List.map_map]
  rfl
theorem e_integer_neg {n : Nat} (h : n < 256 ^ 63) : m_integer_row [.fr (.int (-1 - n))] = .ok (.fr (.list ((4 :: flip255 (codeN n)).map .int))) [.fr (.int (-1 - n))] := by
  have l := codeN_len h
  have s1 : 1 ≤ sizeLine := by decide
  have c := catList1 (x := 4) (ys := flip255 (codeN n)) (size_1000 (by rw [flip255, List.length_map]; omega))
  have g : geD (.int (-1 - n)) (.int 0) = some (.bl false) := by
    simp only [geD, cmpD]
    rw [decide_eq_false (by omega)]
  have b : subD (.int (-1)) (.int (-1 - n)) = some (.int n) := by
    simp only [subD, intD, if_true]
    congr 2
    omega
  have ng : negD (.int 1) = some (.int (-1)) := rfl
  have lp := neg_loop integer_row_e0 (fun d s => by simp [integer_row_e0, runF, frees, back, sSeq, sIf, sRet, sRetL, sRetS, sRetN, sNil, sEx, sSet, sSetL, sAsg, sPar, sPar3, sPut, sRaise, sBk, sCt, sStuck, eStuck, asB, tru, truSl, truD, andT, orT, notT, andE, orE, notE, ifE, bin2, bin2L, un1, rd, cst, frz, lstL, tupE, vNil, vCons, calB, calL, callE, callL, appE, appL, resolve, slotsOf, putA, aSl, aVal, aNil, has?, isOw, chn, ixSl, lenSl, mtS, tName, tTupl, tCons, tNil, itE, walkD, rng1, rng2, slE, oSome, oNone, Res.bind, Res.thn, Res.lift, SRes.seq, loopR, Sl.toD, O.toD, fAppend, fReverse, fExtend, fPop, fClear, addD, catD, subD, intD, mulD, fdivD, modD, powD, shrD, andD, cmpD, leD, gtD, geD, ltD, eqD, neD, eqB, isD, isNotD, isNonB, negD, lenB, lenD, absB, max2, min2, intB, boolB, ordB, tupleB, listB, mkE, mkApp, mkLE, cmethE, methE, sFldM, putFD, fldD, sForT, isiE, isiTE, tyK, ixD, slD, joinE, indexE, lcL, emp, yes]) (ds := codeN n) (by omega) (.fr (.int (-1 - n)))
  simp [m_integer_row, b_integer_row, runF, frees, back, sSeq, sIf, sRet, sRetL, sRetS, sRetN, sNil, sEx, sSet, sSetL, sAsg, sPar, sPar3, sPut, sRaise, sBk, sCt, sStuck, eStuck, asB, tru, truSl, andT, orT, notT, andE, orE, notE, ifE, bin2, bin2L, un1, rd, cst, frz, lstL, tupE, vNil, vCons, calB, calL, callE, callL, appE, appL, resolve, slotsOf, putA, aSl, aVal, aNil, has?, isOw, chn, ixSl, lenSl, mtS, tName, tTupl, tCons, tNil, itE, rng1, rng2, slE, oSome, oNone, Res.bind, Res.thn, Res.lift, SRes.seq, loopR, Sl.toD, O.toD, mkE, mkApp, mkLE, cmethE, methE, sFldM, sForT, isiE, isiTE, joinE, indexE, lcL, emp, yes, g, b, ng, e_plain_code h, s1, c, lp, walkD]
theorem ord_one (c : Nat) : ordB [.str (one1 c)] = some (.int c) := rfl
theorem e_scalar_row {d : D} {r : List Int} (h : Row d r) : m_scalar_row [.fr d] = .ok (.fr (.list (r.map .int))) [.fr d] := by
  have s1 : 1 ≤ sizeLine := by decide
  cases h with
  | non => simp [m_scalar_row, b_scalar_row, runF, frees, back, sSeq, sIf, sRet, sRetL, sRetS, sRetN, sNil, sEx, sSet, sSetL, sAsg, sPar, sPar3, sPut, sRaise, sBk, sCt, sStuck, eStuck, asB, tru, truSl, truD, andT, orT, notT, andE, orE, notE, ifE, bin2, bin2L, un1, rd, cst, frz, lstL, tupE, vNil, vCons, calB, calL, callE, callL, appE, appL, resolve, slotsOf, putA, aSl, aVal, aNil, has?, isOw, chn, ixSl, lenSl, mtS, tName, tTupl, tCons, tNil, itE, walkD, rng1, rng2, slE, oSome, oNone, Res.bind, Res.thn, Res.lift, SRes.seq, loopR, Sl.toD, O.toD, fAppend, fReverse, fExtend, fPop, fClear, addD, catD, subD, intD, mulD, fdivD, modD, powD, shrD, andD, cmpD, leD, gtD, geD, ltD, eqD, neD, eqB, isD, isNotD, isNonB, negD, lenB, lenD, absB, max2, min2, intB, boolB, ordB, tupleB, listB, mkE, mkApp, mkLE, cmethE, methE, sFldM, putFD, fldD, sForT, isiE, isiTE, tyK, ixD, slD, joinE, indexE, lcL, emp, yes, s1]
  | bl b => cases b <;> simp [m_scalar_row, b_scalar_row, runF, frees, back, sSeq, sIf, sRet, sRetL, sRetS, sRetN, sNil, sEx, sSet, sSetL, sAsg, sPar, sPar3, sPut, sRaise, sBk, sCt, sStuck, eStuck, asB, tru, truSl, truD, andT, orT, notT, andE, orE, notE, ifE, bin2, bin2L, un1, rd, cst, frz, lstL, tupE, vNil, vCons, calB, calL, callE, callL, appE, appL, resolve, slotsOf, putA, aSl, aVal, aNil, has?, isOw, chn, ixSl, lenSl, mtS, tName, tTupl, tCons, tNil, itE, walkD, rng1, rng2, slE, oSome, oNone, Res.bind, Res.thn, Res.lift, SRes.seq, loopR, Sl.toD, O.toD, fAppend, fReverse, fExtend, fPop, fClear, addD, catD, subD, intD, mulD, fdivD, modD, powD, shrD, andD, cmpD, leD, gtD, geD, ltD, eqD, neD, eqB, isD, isNotD, isNonB, negD, lenB, lenD, absB, max2, min2, intB, boolB, ordB, tupleB, listB, mkE, mkApp, mkLE, cmethE, methE, sFldM, putFD, fldD, sForT, isiE, isiTE, tyK, ixD, slD, joinE, indexE, lcL, emp, yes, s1] <;> rfl
  | pos n hn =>
    have i1 : isiE tab_bool (rd 0) [some (Sl.fr (D.int n)), none] = .ok (.bl false) [some (Sl.fr (D.int n)), none] := rfl
    have i2 : isiE tab_int (rd 0) [some (Sl.fr (D.int n)), none] = .ok (.bl true) [some (Sl.fr (D.int n)), none] := rfl
    simp [m_scalar_row, b_scalar_row, runF, frees, back, sSeq, sIf, tru, asB, bin2, isD, isNonB, rd, cst, Res.bind, Res.thn, Res.lift, SRes.seq, sNil, sRet, truD, callE, aSl, aNil, appE, resolve, slotsOf, putA, has?, Sl.toD, i1, i2, e_integer_pos hn]
  | neg n hn =>
    have i1 : isiE tab_bool (rd 0) [some (Sl.fr (D.int (-1 - n))), none] = .ok (.bl false) [some (Sl.fr (D.int (-1 - n))), none] := rfl
    have i2 : isiE tab_int (rd 0) [some (Sl.fr (D.int (-1 - n))), none] = .ok (.bl true) [some (Sl.fr (D.int (-1 - n))), none] := rfl
    simp [m_scalar_row, b_scalar_row, runF, frees, back, sSeq, sIf, tru, asB, bin2, isD, isNonB, rd, cst, Res.bind, Res.thn, Res.lift, SRes.seq, sNil, sRet, truD, callE, aSl, aNil, appE, resolve, slotsOf, putA, has?, Sl.toD, i1, i2, e_integer_neg hn]
  | tup hb hl =>
    rename_i bs
    have hc := small63 hl
    have l := codeN_len hc
    have c1 := catList1 (x := 6) (ys := codeN bs.length) (size_1000 (by omega))
    have c2 := catList2 (x := 6) (xs := codeN bs.length) (ys := bs) (size_1000 (by simp only [List.length_cons]; omega))
    have p := e_plain_code hc
    have ln : lenSl 0 [some (Sl.fr (D.tup (bs.map .int))), none] = .ok (.int bs.length) [some (Sl.fr (D.tup (bs.map .int))), none] := by simp [runF, frees, back, sSeq, sIf, sRet, sRetL, sRetS, sRetN, sNil, sEx, sSet, sSetL, sAsg, sPar, sPar3, sPut, sRaise, sBk, sCt, sStuck, eStuck, asB, tru, truSl, truD, andT, orT, notT, andE, orE, notE, ifE, bin2, bin2L, un1, rd, cst, frz, lstL, tupE, vNil, vCons, calB, calL, callE, callL, appE, appL, resolve, slotsOf, putA, aSl, aVal, aNil, has?, isOw, chn, ixSl, lenSl, mtS, tName, tTupl, tCons, tNil, itE, walkD, rng1, rng2, slE, oSome, oNone, Res.bind, Res.thn, Res.lift, SRes.seq, loopR, Sl.toD, O.toD, fAppend, fReverse, fExtend, fPop, fClear, addD, catD, subD, intD, mulD, fdivD, modD, powD, shrD, andD, cmpD, leD, gtD, geD, ltD, eqD, neD, eqB, isD, isNotD, isNonB, negD, lenB, lenD, absB, max2, min2, intB, boolB, ordB, tupleB, listB, mkE, mkApp, mkLE, cmethE, methE, sFldM, putFD, fldD, sForT, isiE, isiTE, tyK, ixD, slD, joinE, indexE, lcL, emp, yes]
    have i1 : isiE tab_bool (rd 0) [some (Sl.fr (D.tup (bs.map .int))), none] = .ok (.bl false) [some (Sl.fr (D.tup (bs.map .int))), none] := rfl
    have i2 : isiE tab_int (rd 0) [some (Sl.fr (D.tup (bs.map .int))), none] = .ok (.bl false) [some (Sl.fr (D.tup (bs.map .int))), none] := rfl
    have i3 : isiE tab_tuple (rd 0) [some (Sl.fr (D.tup (bs.map .int))), none] = .ok (.bl true) [some (Sl.fr (D.tup (bs.map .int))), none] := rfl
    simp [m_scalar_row, b_scalar_row, runF, frees, back, sSeq, sIf, tru, asB, bin2, isD, isNonB, cst, Res.bind, Res.thn, Res.lift, SRes.seq, sNil, sRet, truD, callE, aSl, aVal, aNil, appE, resolve, slotsOf, putA, has?, Sl.toD, i1, i2, i3, ln, p, frz, lstL, vCons, vNil, calL, listB, s1, c1, c2, rd]
  | str hb hl =>
    rename_i cs
    have hc := small63 hl
    have l := codeN_len hc
    have c1 := catList1 (x := 7) (ys := codeN cs.length) (size_1000 (by omega))
    have c2 := catList2 (x := 7) (xs := codeN cs.length) (ys := cs.map fun (c : Nat) => (c : Int)) (size_1000 (by simp only [List.length_cons, List.length_map]; omega))
    have p := e_plain_code hc
    have ln : lenSl 0 [some (Sl.fr (D.str (strOf cs))), none] = .ok (.int cs.length) [some (Sl.fr (D.str (strOf cs))), none] := by
      have : (strOf cs).length ≤ sizeLine := by rw [str_len]; exact size_1000 (by omega)
      simp [runF, frees, back, sSeq, sIf, sRet, sRetL, sRetS, sRetN, sNil, sEx, sSet, sSetL, sAsg, sPar, sPar3, sPut, sRaise, sBk, sCt, sStuck, eStuck, asB, tru, truSl, truD, andT, orT, notT, andE, orE, notE, ifE, bin2, bin2L, un1, rd, cst, frz, lstL, tupE, vNil, vCons, calB, calL, callE, callL, appE, appL, resolve, slotsOf, putA, aSl, aVal, aNil, has?, isOw, chn, ixSl, lenSl, mtS, tName, tTupl, tCons, tNil, itE, walkD, rng1, rng2, slE, oSome, oNone, Res.bind, Res.thn, Res.lift, SRes.seq, loopR, Sl.toD, O.toD, fAppend, fReverse, fExtend, fPop, fClear, addD, catD, subD, intD, mulD, fdivD, modD, powD, shrD, andD, cmpD, leD, gtD, geD, ltD, eqD, neD, eqB, isD, isNotD, isNonB, negD, lenB, lenD, absB, max2, min2, intB, boolB, ordB, tupleB, listB, mkE, mkApp, mkLE, cmethE, methE, sFldM, putFD, fldD, sForT, isiE, isiTE, tyK, ixD, slD, joinE, indexE, lcL, emp, yes, str_len] at this ⊢
      simp [this]
    have lp := lcM_map (vs := [1]) (t := tName 1) (c := yes) (e := scalar_row_e0) (fun x => match x with | .str z => .int (z.cps.getD 0 0 : Nat) | x => x) [some (.fr (.str (strOf cs))), none] (chars (strOf cs)) [] (by rw [chars_str]; simp only [List.length_map, List.length_nil]; exact size_1000 (by omega)) (by
      rw [chars_str]
      intro x m
      obtain ⟨y, my, rfl⟩ := List.mem_map.mp m
      obtain ⟨c, mc, rfl⟩ := List.mem_map.mp my
      refine ⟨_, _, [some (.fr (.str (strOf cs))), some (.fr (.str (one1 c)))], rfl, rfl, ?_, rfl⟩
      simp [scalar_row_e0, runF, frees, back, sSeq, sIf, sRet, sRetL, sRetS, sRetN, sNil, sEx, sSet, sSetL, sAsg, sPar, sPar3, sPut, sRaise, sBk, sCt, sStuck, eStuck, asB, tru, truSl, andT, orT, notT, andE, orE, notE, ifE, bin2, bin2L, un1, rd, cst, frz, lstL, tupE, vNil, vCons, calB, calL, callE, callL, appE, appL, resolve, slotsOf, putA, aSl, aVal, aNil, has?, isOw, chn, ixSl, lenSl, mtS, tName, tTupl, tCons, tNil, itE, rng1, rng2, slE, oSome, oNone, Res.bind, Res.thn, Res.lift, SRes.seq, loopR, Sl.toD, O.toD, mkE, mkApp, mkLE, cmethE, methE, sFldM, sForT, isiE, isiTE, joinE, indexE, lcL, emp, yes, ord_one])
    have lp' : lcM [1] (tName 1) yes scalar_row_e0 (chars (strOf cs)) [] [some (.fr (.str (strOf cs))), none] = .ok ((cs.map fun (c : Nat) => (c : Int)).map .int) [some (.fr (.str (strOf cs))), none] := by
      rw [lp, chars_str, List.nil_append, List.map_map, List.map_map, List.map_map]
      rfl
    have i1 : isiE tab_bool (rd 0) [some (Sl.fr (D.str (strOf cs))), none] = .ok (.bl false) [some (Sl.fr (D.str (strOf cs))), none] := rfl
    have i2 : isiE tab_int (rd 0) [some (Sl.fr (D.str (strOf cs))), none] = .ok (.bl false) [some (Sl.fr (D.str (strOf cs))), none] := rfl
    have i3 : isiE tab_tuple (rd 0) [some (Sl.fr (D.str (strOf cs))), none] = .ok (.bl false) [some (Sl.fr (D.str (strOf cs))), none] := rfl
    simp [m_scalar_row, b_scalar_row, runF, frees, back, sSeq, sIf, tru, asB, bin2, isD, isNonB, cst, Res.bind, Res.thn, Res.lift, SRes.seq, sNil, sRet, truD, callE, aSl, aVal, aNil, appE, resolve, slotsOf, putA, has?, Sl.toD, i1, i2, i3, ln, p, frz, lstL, vCons, vNil, s1, c1, c2, rd, lcL, itE, walkD, emp, lp', -List.map_map]

/-! ### keys in order -/
theorem lex_split_len : ∀ (a b : List Int), a.length = b.length → HT.lexLt a b = true → ∃ (p : List Int) (x y : Int) (s t : List Int), a = p ++ x :: s ∧ b = p ++ y :: t ∧ x < y
  | [], [], _, h => by cases h
  | [], _ :: _, e, _ => by cases e
  | _ :: _, [], e, _ => by cases e
  | x :: xs, y :: ys, e, h => by
    rw [HT.lexLt_cons] at h
    by_cases c : x = y
    · rw [if_pos c] at h
      obtain ⟨p, u, v, s, t, e1, e2, lt⟩ := lex_split_len xs ys (by simpa using e) h
      exact ⟨x :: p, u, v, s, t, by rw [e1]; rfl, by rw [e2, c]; rfl, lt⟩
    · rw [if_neg c] at h
      exact ⟨[], x, y, xs, ys, rfl, rfl, of_decide_eq_true h⟩
theorem lex_split : ∀ (p : List Int) {x y : Int} (s t : List Int), x < y → HT.lexLt (p ++ x :: s) (p ++ y :: t) = true
  | [], x, y, s, t, h => by
    show HT.lexLt (x :: s) (y :: t) = true
    rw [HT.lexLt_cons, if_neg (by omega)]
    exact decide_eq_true h
  | a :: p, x, y, s, t, h => by
    show HT.lexLt (a :: (p ++ x :: s)) (a :: (p ++ y :: t)) = true
    rw [HT.lexLt_cons, if_pos rfl]
    exact lex_split p s t h
theorem codeN_head (n : Nat) : ∃ c cs, codeN n = c :: cs ∧ (if c < 192 then (1 : Int) else c - 190) = (codeN n).length := by
  unfold codeN
  split
  · rename_i h
    refine ⟨n, [], rfl, ?_⟩
    rw [if_pos (by omega)]
    rfl
  · rename_i h
    have : 1 ≤ (digs n).length := by
      have := digs_ne (n := n) (by omega)
      cases hd : digs n with
      | nil => exact (this hd).elim
      | cons a b => simp
    refine ⟨_, _, rfl, ?_⟩
    rw [if_neg (by omega)]
    simp only [List.length_cons]
    omega
theorem code_split {n m : Nat} (h : n < m) : ∃ (p : List Int) (x y : Int) (s t : List Int), codeN n = p ++ x :: s ∧ codeN m = p ++ y :: t ∧ x < y := by
  have l := lex_code n m
  rw [decide_eq_true h] at l
  obtain ⟨c, cs, e1, l1⟩ := codeN_head n
  obtain ⟨d, ds, e2, l2⟩ := codeN_head m
  by_cases q : c = d
  · subst q
    exact lex_split_len _ _ (by omega) l
  · rw [e1, e2, HT.lexLt_cons, if_neg q] at l
    exact ⟨[], c, d, cs, ds, e1, e2, of_decide_eq_true l⟩
theorem lex_cons {x : Int} {a b : List Int} (h : HT.lexLt a b = true) : HT.lexLt (x :: a) (x :: b) = true := by
  rw [HT.lexLt_cons, if_pos rfl]
  exact h
theorem lex_lt {x y : Int} {a b : List Int} (h : x < y) : HT.lexLt (x :: a) (y :: b) = true := by
  rw [HT.lexLt_cons, if_neg (by omega)]
  exact decide_eq_true h
theorem lex_code_app {n m : Nat} (h : n < m) (u v : List Int) : HT.lexLt (codeN n ++ u) (codeN m ++ v) = true := by
  obtain ⟨p, x, y, s, t, e1, e2, lt⟩ := code_split h
  rw [e1, e2, List.append_assoc, List.append_assoc]
  exact lex_split p _ _ lt
theorem lex_code_flip {n m : Nat} (h : n < m) : HT.lexLt (flip255 (codeN m)) (flip255 (codeN n)) = true := by
  obtain ⟨p, x, y, s, t, e1, e2, lt⟩ := code_split h
  rw [e1, e2]
  unfold flip255
  rw [List.map_append, List.map_append]
  exact lex_split (p.map fun d => 255 - d) (x := 255 - y) (y := 255 - x) _ _ (by omega)
theorem lex_iff : ∀ (a b : List Int), HT.lexLt a b = decide (a < b)
  | [], [] => by simp [HT.lexLt_nil_nil]
  | [], _ :: _ => by simp [HT.lexLt_nil_cons]
  | _ :: _, [] => by simp [HT.lexLt_cons_nil]
  | x :: xs, y :: ys => by
    rw [HT.lexLt_cons, lex_iff xs ys]
    by_cases h : x = y
    · rw [if_pos h]
      simp [h, List.cons_lt_cons_iff]
    · rw [if_neg h]
      simp [h, List.cons_lt_cons_iff]
theorem kOf_le (p q : D × List Int) : PySem.W.dataLe false kOf p q = !HT.lexLt q.2 p.2 := by
  rw [lex_iff]
  show (!PySem.W.dataLt (.tuple (q.2.map .int)) (.tuple (p.2.map .int))) = _
  rw [PySem.W.dataLt_tuple]
  show (!PySem.W.rowLt (q.2.map .int) (p.2.map .int)) = _
  rw [PySem.W.dataLt_ints]
theorem sort2 {α : Type} (le : α → α → Bool) (a b : α) : [a, b].mergeSort le = if le a b = true then [a, b] else [b, a] := by
  simp [List.mergeSort, List.MergeSort.Internal.splitInTwo, List.merge]
theorem intsD_map : ∀ ns : List Int, intsD (ns.map .int) = some ns
  | [] => rfl
  | n :: ns => by
    show (intsD (ns.map .int)).map (n :: ·) = _
    rw [intsD_map ns]
    rfl
theorem e_key_row {d : D} {r : List Int} (h : Row d r) : m_key_row [.fr d] = .ok (.fr (.tup (r.map .int))) [.fr d] := by
  simp [m_key_row, b_key_row, runF, frees, back, sSeq, sIf, sRet, sRetL, sRetS, sRetN, sNil, sEx, sSet, sSetL, sAsg, sPar, sPar3, sPut, sRaise, sBk, sCt, sStuck, eStuck, asB, tru, truSl, truD, andT, orT, notT, andE, orE, notE, ifE, bin2, bin2L, un1, rd, cst, frz, lstL, tupE, vNil, vCons, calB, calL, callE, callL, appE, appL, resolve, slotsOf, putA, aSl, aVal, aNil, has?, isOw, chn, ixSl, lenSl, mtS, tName, tTupl, tCons, tNil, itE, walkD, rng1, rng2, slE, oSome, oNone, Res.bind, Res.thn, Res.lift, SRes.seq, loopR, Sl.toD, O.toD, fAppend, fReverse, fExtend, fPop, fClear, addD, catD, subD, intD, mulD, fdivD, modD, powD, shrD, andD, cmpD, leD, gtD, geD, ltD, eqD, neD, eqB, isD, isNotD, isNonB, negD, lenB, lenD, absB, max2, min2, intB, boolB, ordB, tupleB, listB, mkE, mkApp, mkLE, cmethE, methE, sFldM, putFD, fldD, sForT, isiE, isiTE, tyK, ixD, slD, joinE, indexE, lcL, emp, yes, e_scalar_row h]
theorem keyI_row {d : D} {r : List Int} (h : Row d r) : keyI m_key_row d = some r := by
  unfold keyI
  rw [e_key_row h]
  exact intsD_map r
theorem Row.ne {d : D} {r : List Int} (h : Row d r) : r.isEmpty = false := by
  cases h <;> rfl
theorem sortK1 {d : D} {r : List Int} (h : Row d r) : sortKD m_key_row [d] = some [d] := by
  unfold sortKD
  have e : keysI m_key_row [d] = some [r] := by
    simp [keysI, keyI_row h]
  rw [e]
  show (if ([r].all fun k => !k.isEmpty) = true then _ else _) = _
  rw [if_pos (by simp [h.ne])]
  rw [show ([d].zip [r]) = [(d, r)] from rfl, List.mergeSort_singleton]
  rfl
theorem sortK2 {a b : D} {ra rb : List Int} (ha : Row a ra) (hb : Row b rb) (lt : HT.lexLt ra rb = true) : sortKD m_key_row [b, a] = some [a, b] := by
  unfold sortKD
  have e : keysI m_key_row [b, a] = some [rb, ra] := by
    simp [keysI, keyI_row ha, keyI_row hb]
  rw [e]
  show (if ([rb, ra].all fun k => !k.isEmpty) = true then _ else _) = _
  rw [if_pos (by simp [ha.ne, hb.ne])]
  rw [show ([b, a].zip [rb, ra]) = [(b, rb), (a, ra)] from rfl, sort2, kOf_le]
  show some (List.map _ (if (!HT.lexLt ra rb) = true then _ else _)) = _
  rw [lt]
  rfl
/-! ### keys -/
theorem nks_ints : ∀ bs : List Int, nksOf (bs.map .int) = some (bs.map .num)
  | [] => by simp [nksOf]
  | b :: bs => by
    rw [List.map_cons, nksOf, nks_ints bs, nkOf]
    rfl
theorem nkdepth_ints : ∀ bs : List Int, NestedKey.depthAll (bs.map .num) ≤ 1
  | [] => by decide
  | b :: bs => by
    have := nkdepth_ints bs
    rw [List.map_cons, NestedKey.depthAll, NestedKey.depth]
    omega
/-- what can be a key in the law: a row, a key up to == -/
structure KeyD (d : D) (r : List Int) (k : NestedKey) : Prop where
  row : Row d r
  nk : nkOf d = some k
  small : k.depth ≤ 8
  key : m_is_key [.fr d] = .ok (.fr (.bl true)) [.fr d]
theorem KeyD.int {i : Int} (a : -(256 ^ 63) ≤ i) (b : i < 256 ^ 63) : ∃ r, KeyD (.int i) r (.num i) := by
  obtain ⟨r, h⟩ := (Sc.int a b).row
  exact ⟨r, h, by simp [nkOf], by simp [NestedKey.depth], e_is_key_int a b⟩
theorem KeyD.str {cs : List Nat} (a : ∀ c ∈ cs, c ∈ charCodes) (b : cs.length ≤ 1000) : KeyD (.str (strOf cs)) (7 :: (codeN cs.length ++ cs.map fun (c : Nat) => (c : Int))) (.text (strOf cs)) :=
  ⟨.str a b, by simp [nkOf], by simp [NestedKey.depth], e_is_key_str a b⟩
theorem KeyD.tup {bs : List Int} (a : ∀ b ∈ bs, 0 ≤ b ∧ b ≤ 255) (b : bs.length ≤ 1000) : KeyD (.tup (bs.map .int)) (6 :: (codeN bs.length ++ bs)) (.tup (bs.map .num)) :=
  ⟨.tup a b, by simp [nkOf, nks_ints], by have := nkdepth_ints bs; simp [NestedKey.depth]; omega, e_is_key_tup a b⟩
/-- two keys in order -/
structure Pair9 (a b : D) : Prop where
  ex : ∃ ra rb ka kb, KeyD a ra ka ∧ KeyD b rb kb ∧ HT.lexLt ra rb = true ∧ ka ≠ kb
theorem row_int {i : Int} {r : List Int} (h : Row (.int i) r) : (∃ n : Nat, i = n ∧ r = 5 :: codeN n) ∨ ∃ n : Nat, i = -1 - n ∧ r = 4 :: flip255 (codeN n) := by
  generalize e : D.int i = d at h
  cases h with
  | pos n _ => cases e; exact .inl ⟨n, rfl, rfl⟩
  | neg n _ => cases e; exact .inr ⟨n, rfl, rfl⟩
  | _ => cases e
theorem Pair9.ints {i j : Int} (a : -(256 ^ 63) ≤ i) (b : i < 256 ^ 63) (c : -(256 ^ 63) ≤ j) (d : j < 256 ^ 63) (lt : i < j) : Pair9 (.int i) (.int j) := by
  obtain ⟨ri, hi⟩ := KeyD.int a b
  obtain ⟨rj, hj⟩ := KeyD.int c d
  refine ⟨ri, rj, _, _, hi, hj, ?_, fun e => by cases e; omega⟩
  rcases row_int hi.row with ⟨n, e1, rfl⟩ | ⟨n, e1, rfl⟩ <;> rcases row_int hj.row with ⟨m, e2, rfl⟩ | ⟨m, e2, rfl⟩
  · refine lex_cons ?_
    rw [lex_code]
    exact decide_eq_true (by omega)
  · omega
  · exact lex_lt (by decide)
  · exact lex_cons (lex_code_flip (by omega))
theorem int_row_lt {i : Int} {r : List Int} (h : Row (.int i) r) (y : Int) (hy : 5 < y) (b : List Int) : HT.lexLt r (y :: b) = true := by
  rcases row_int h with ⟨n, _, rfl⟩ | ⟨n, _, rfl⟩ <;> exact lex_lt (by omega)
theorem Pair9.int_str {i : Int} (a : -(256 ^ 63) ≤ i) (b : i < 256 ^ 63) {cs : List Nat} (c : ∀ c ∈ cs, c ∈ charCodes) (d : cs.length ≤ 1000) : Pair9 (.int i) (.str (strOf cs)) := by
  obtain ⟨ri, hi⟩ := KeyD.int a b
  exact ⟨ri, _, _, _, hi, .str c d, int_row_lt hi.row _ (by decide) _, fun e => by cases e⟩
theorem Pair9.int_tup {i : Int} (a : -(256 ^ 63) ≤ i) (b : i < 256 ^ 63) {bs : List Int} (c : ∀ b ∈ bs, 0 ≤ b ∧ b ≤ 255) (d : bs.length ≤ 1000) : Pair9 (.int i) (.tup (bs.map .int)) := by
  obtain ⟨ri, hi⟩ := KeyD.int a b
  exact ⟨ri, _, _, _, hi, .tup c d, int_row_lt hi.row _ (by decide) _, fun e => by cases e⟩
theorem Pair9.tup_str {bs : List Int} (a : ∀ b ∈ bs, 0 ≤ b ∧ b ≤ 255) (b : bs.length ≤ 1000) {cs : List Nat} (c : ∀ c ∈ cs, c ∈ charCodes) (d : cs.length ≤ 1000) : Pair9 (.tup (bs.map .int)) (.str (strOf cs)) :=
  ⟨_, _, _, _, .tup a b, .str c d, lex_lt (by decide), fun e => by cases e⟩
theorem Pair9.strs {cs ds : List Nat} (a : ∀ c ∈ cs, c ∈ charCodes) (b : cs.length ≤ 1000) (c : ∀ c ∈ ds, c ∈ charCodes) (d : ds.length ≤ 1000) (lt : cs.length < ds.length) : Pair9 (.str (strOf cs)) (.str (strOf ds)) := by
  refine ⟨_, _, _, _, .str a b, .str c d, lex_cons (lex_code_app lt _ _), fun e => ?_⟩
  have : strOf cs = strOf ds := by cases e; rfl
  have := congrArg Str.length this
  rw [str_len, str_len] at this
  omega

/-! ### first_bad, by data -/
def FB (w : World) (d res : D) (n : Nat) : Prop := ∀ (k : Nat) (r : Int), n ≤ k → (n : Int) ≤ r → m_first_bad w k [.fr d, .fr (.int r)] = .ok (.fr res) [.fr d, .fr (.int r)]
theorem FB.more {w : World} {d res : D} {n m : Nat} (h : FB w d res n) (l : n ≤ m) : FB w d res m := fun k r a b => h k r (by omega) (by omega)
theorem FB.of {w : World} {d res : D} {n : Nat} (h : ∀ (k : Nat) (r : Int), n ≤ k → (n : Int) + 1 ≤ r → m_first_bad w (k + 1) [.fr d, .fr (.int r)] = .ok (.fr res) [.fr d, .fr (.int r)]) : FB w d res (n + 1) := fun k r a b => by
  cases k with
  | zero => omega
  | succ k => exact h k r (by omega) (by omega)
theorem blsOf_map {α : Type} (f : α → Bool) : ∀ xs : List α, blsOf (xs.map fun x => D.bl (f x)) = some (xs.map f)
  | [] => rfl
  | x :: xs => by
    show (blsOf (xs.map fun x => D.bl (f x))).map (f x :: ·) = _
    rw [blsOf_map f xs]
    rfl
theorem allB_map {α : Type} (f : α → Bool) (xs : List α) : allB [.list (xs.map fun x => D.bl (f x))] = some (.bl (xs.all f)) := by
  show (blsOf (xs.map fun x => D.bl (f x))).map (fun bs => D.bl (bs.all id)) = _
  rw [blsOf_map]
  simp
def byteB : D → Bool
  | .int i => decide (0 ≤ i ∧ i ≤ 255)
  | _ => false
theorem e_is_octets_any {xs : List D} (h : ∀ x ∈ xs, m_is_byte [.fr x] = .ok (.fr (.bl (byteB x))) [.fr x]) (hl : xs.length ≤ 1000) : m_is_octets [.fr (.tup xs)] = .ok (.fr (.bl (xs.all byteB))) [.fr (.tup xs)] := by
  have e := lcM_map (vs := [1]) (t := tName 1) (c := yes) (e := is_octets_e0) (fun x => .bl (byteB x)) [some (.fr (.tup xs)), none] xs [] (by simp only [List.length_nil]; exact size_1000 (by omega)) (by
    intro x m
    refine ⟨_, _, [some (.fr (.tup xs)), some (.fr x)], rfl, rfl, ?_, rfl⟩
    simp [is_octets_e0, runF, frees, back, sSeq, sIf, sRet, sRetL, sRetS, sRetN, sNil, sEx, sSet, sSetL, sAsg, sPar, sPar3, sPut, sRaise, sBk, sCt, sStuck, eStuck, asB, tru, truSl, andT, orT, notT, andE, orE, notE, ifE, bin2, bin2L, un1, rd, cst, frz, lstL, tupE, vNil, vCons, calB, calL, callE, callL, appE, appL, resolve, slotsOf, putA, aSl, aVal, aNil, has?, isOw, chn, ixSl, lenSl, mtS, tName, tTupl, tCons, tNil, itE, rng1, rng2, slE, oSome, oNone, Res.bind, Res.thn, Res.lift, SRes.seq, loopR, Sl.toD, O.toD, mkE, mkApp, mkLE, cmethE, methE, sFldM, sForT, isiE, isiTE, joinE, indexE, lcL, emp, yes, h x m])
  simp only [List.nil_append] at e
  have a := allB_map byteB xs
  have i : isiE tab_tuple (rd 0) [some (Sl.fr (D.tup xs)), none] = .ok (.bl true) [some (Sl.fr (D.tup xs)), none] := rfl
  simp [m_is_octets, b_is_octets, runF, frees, back, sRet, andE, asB, i, Res.bind, Res.thn, calB, vCons, vNil, frz, lcL, itE, rd, walkD, Res.lift, emp, e, a]
theorem e_is_key_any {xs : List D} (h : ∀ x ∈ xs, m_is_byte [.fr x] = .ok (.fr (.bl (byteB x))) [.fr x]) (hl : xs.length ≤ 1000) : m_is_key [.fr (.tup xs)] = .ok (.fr (.bl (xs.all byteB))) [.fr (.tup xs)] := by
  simp [m_is_key, b_is_key, runF, frees, back, sSeq, sIf, sRet, sRetL, sRetS, sRetN, sNil, sEx, sSet, sSetL, sAsg, sPar, sPar3, sPut, sRaise, sBk, sCt, sStuck, eStuck, asB, tru, truSl, truD, andT, orT, notT, andE, orE, notE, ifE, bin2, bin2L, un1, rd, cst, frz, lstL, tupE, vNil, vCons, calB, calL, callE, callL, appE, appL, resolve, slotsOf, putA, aSl, aVal, aNil, has?, isOw, chn, ixSl, lenSl, mtS, tName, tTupl, tCons, tNil, itE, walkD, rng1, rng2, slE, oSome, oNone, Res.bind, Res.thn, Res.lift, SRes.seq, loopR, Sl.toD, O.toD, fAppend, fReverse, fExtend, fPop, fClear, addD, catD, subD, intD, mulD, fdivD, modD, powD, shrD, andD, cmpD, leD, gtD, geD, ltD, eqD, neD, eqB, isD, isNotD, isNonB, negD, lenB, lenD, absB, max2, min2, intB, boolB, ordB, tupleB, listB, mkE, mkApp, mkLE, cmethE, methE, sFldM, putFD, fldD, sForT, isiE, isiTE, tyK, ixD, slD, joinE, indexE, lcL, emp, yes, e_is_integer_tup, e_is_text_tup, e_is_octets_any h hl]
theorem e_is_key_far {i : Int} (h : i < -(256 ^ 63) ∨ 256 ^ 63 ≤ i) : m_is_key [.fr (.int i)] = .ok (.fr (.bl false)) [.fr (.int i)] := by
  by_cases a : -(256 ^ 63) ≤ i
  · have b : ¬ i ≤ 256 ^ 63 - 1 := by omega
    simp [m_is_key, b_is_key, runF, frees, back, sSeq, sIf, sRet, sRetL, sRetS, sRetN, sNil, sEx, sSet, sSetL, sAsg, sPar, sPar3, sPut, sRaise, sBk, sCt, sStuck, eStuck, asB, tru, truSl, truD, andT, orT, notT, andE, orE, notE, ifE, bin2, bin2L, un1, rd, cst, frz, lstL, tupE, vNil, vCons, calB, calL, callE, callL, appE, appL, resolve, slotsOf, putA, aSl, aVal, aNil, has?, isOw, chn, ixSl, lenSl, mtS, tName, tTupl, tCons, tNil, itE, walkD, rng1, rng2, slE, oSome, oNone, Res.bind, Res.thn, Res.lift, SRes.seq, loopR, Sl.toD, O.toD, fAppend, fReverse, fExtend, fPop, fClear, addD, catD, subD, intD, mulD, fdivD, modD, powD, shrD, andD, cmpD, leD, gtD, geD, ltD, eqD, neD, eqB, isD, isNotD, isNonB, negD, lenB, lenD, absB, max2, min2, intB, boolB, ordB, tupleB, listB, mkE, mkApp, mkLE, cmethE, methE, sFldM, putFD, fldD, sForT, isiE, isiTE, tyK, ixD, slD, joinE, indexE, lcL, emp, yes, e_is_integer_int, a, b, -Int.reducePow, -Int.reduceNeg, -Int.reduceSub]
  · simp [m_is_key, b_is_key, runF, frees, back, sSeq, sIf, sRet, sRetL, sRetS, sRetN, sNil, sEx, sSet, sSetL, sAsg, sPar, sPar3, sPut, sRaise, sBk, sCt, sStuck, eStuck, asB, tru, truSl, truD, andT, orT, notT, andE, orE, notE, ifE, bin2, bin2L, un1, rd, cst, frz, lstL, tupE, vNil, vCons, calB, calL, callE, callL, appE, appL, resolve, slotsOf, putA, aSl, aVal, aNil, has?, isOw, chn, ixSl, lenSl, mtS, tName, tTupl, tCons, tNil, itE, walkD, rng1, rng2, slE, oSome, oNone, Res.bind, Res.thn, Res.lift, SRes.seq, loopR, Sl.toD, O.toD, fAppend, fReverse, fExtend, fPop, fClear, addD, catD, subD, intD, mulD, fdivD, modD, powD, shrD, andD, cmpD, leD, gtD, geD, ltD, eqD, neD, eqB, isD, isNotD, isNonB, negD, lenB, lenD, absB, max2, min2, intB, boolB, ordB, tupleB, listB, mkE, mkApp, mkLE, cmethE, methE, sFldM, putFD, fldD, sForT, isiE, isiTE, tyK, ixD, slD, joinE, indexE, lcL, emp, yes, e_is_integer_int, a, -Int.reducePow, -Int.reduceNeg, -Int.reduceSub]
theorem e_is_key_non : m_is_key [.fr .non] = .ok (.fr (.bl false)) [.fr .non] := rfl
theorem e_is_key_bl (b : Bool) : m_is_key [.fr (.bl b)] = .ok (.fr (.bl false)) [.fr (.bl b)] := rfl
theorem e_is_key_list (xs : List D) : m_is_key [.fr (.list xs)] = .ok (.fr (.bl false)) [.fr (.list xs)] := rfl
theorem e_is_key_dict (w : World) (xs : List (D × D)) : m_is_key [.fr (.dict w xs)] = .ok (.fr (.bl false)) [.fr (.dict w xs)] := rfl
theorem e_is_key_doc (fs : List (Str × D)) : m_is_key [.fr (.ins "Document" fs)] = .ok (.fr (.bl false)) [.fr (.ins "Document" fs)] := rfl
theorem e_is_plain_list (xs : List D) : m_is_plain [.fr (.list xs)] = .ok (.fr (.bl false)) [.fr (.list xs)] := rfl
theorem e_is_plain_dict (w : World) (xs : List (D × D)) : m_is_plain [.fr (.dict w xs)] = .ok (.fr (.bl false)) [.fr (.dict w xs)] := rfl
theorem e_is_plain_doc (fs : List (Str × D)) : m_is_plain [.fr (.ins "Document" fs)] = .ok (.fr (.bl false)) [.fr (.ins "Document" fs)] := rfl
theorem fb_good {w : World} {d : D} (h : Sc d) : FB w d .non 1 := FB.of fun k r _ _ => by
  cases h with
  | non => simp [m_first_bad, b_first_bad, runF, frees, back, sSeq, sIf, sRet, sRetL, sRetS, sRetN, sNil, sEx, sSet, sSetL, sAsg, sPar, sPar3, sPut, sRaise, sBk, sCt, sStuck, eStuck, asB, tru, truSl, andT, orT, notT, andE, orE, notE, ifE, bin2, bin2L, un1, rd, cst, frz, lstL, tupE, vNil, vCons, calB, calL, callE, callL, appE, appL, resolve, slotsOf, putA, aSl, aVal, aNil, has?, isOw, chn, ixSl, lenSl, mtS, tName, tTupl, tCons, tNil, itE, rng1, rng2, slE, oSome, oNone, Res.bind, Res.thn, Res.lift, SRes.seq, loopR, Sl.toD, O.toD, mkE, mkApp, mkLE, cmethE, methE, sFldM, sForT, isiE, isiTE, joinE, indexE, lcL, emp, yes, e_is_plain_non, truD]
  | bl b => simp [m_first_bad, b_first_bad, runF, frees, back, sSeq, sIf, sRet, sRetL, sRetS, sRetN, sNil, sEx, sSet, sSetL, sAsg, sPar, sPar3, sPut, sRaise, sBk, sCt, sStuck, eStuck, asB, tru, truSl, andT, orT, notT, andE, orE, notE, ifE, bin2, bin2L, un1, rd, cst, frz, lstL, tupE, vNil, vCons, calB, calL, callE, callL, appE, appL, resolve, slotsOf, putA, aSl, aVal, aNil, has?, isOw, chn, ixSl, lenSl, mtS, tName, tTupl, tCons, tNil, itE, rng1, rng2, slE, oSome, oNone, Res.bind, Res.thn, Res.lift, SRes.seq, loopR, Sl.toD, O.toD, mkE, mkApp, mkLE, cmethE, methE, sFldM, sForT, isiE, isiTE, joinE, indexE, lcL, emp, yes, e_is_plain_bl, truD]
  | int a b => simp [m_first_bad, b_first_bad, runF, frees, back, sSeq, sIf, sRet, sRetL, sRetS, sRetN, sNil, sEx, sSet, sSetL, sAsg, sPar, sPar3, sPut, sRaise, sBk, sCt, sStuck, eStuck, asB, tru, truSl, andT, orT, notT, andE, orE, notE, ifE, bin2, bin2L, un1, rd, cst, frz, lstL, tupE, vNil, vCons, calB, calL, callE, callL, appE, appL, resolve, slotsOf, putA, aSl, aVal, aNil, has?, isOw, chn, ixSl, lenSl, mtS, tName, tTupl, tCons, tNil, itE, rng1, rng2, slE, oSome, oNone, Res.bind, Res.thn, Res.lift, SRes.seq, loopR, Sl.toD, O.toD, mkE, mkApp, mkLE, cmethE, methE, sFldM, sForT, isiE, isiTE, joinE, indexE, lcL, emp, yes, e_is_plain_int, truD, e_is_key_int a b]
  | tup a b => simp [m_first_bad, b_first_bad, runF, frees, back, sSeq, sIf, sRet, sRetL, sRetS, sRetN, sNil, sEx, sSet, sSetL, sAsg, sPar, sPar3, sPut, sRaise, sBk, sCt, sStuck, eStuck, asB, tru, truSl, andT, orT, notT, andE, orE, notE, ifE, bin2, bin2L, un1, rd, cst, frz, lstL, tupE, vNil, vCons, calB, calL, callE, callL, appE, appL, resolve, slotsOf, putA, aSl, aVal, aNil, has?, isOw, chn, ixSl, lenSl, mtS, tName, tTupl, tCons, tNil, itE, rng1, rng2, slE, oSome, oNone, Res.bind, Res.thn, Res.lift, SRes.seq, loopR, Sl.toD, O.toD, mkE, mkApp, mkLE, cmethE, methE, sFldM, sForT, isiE, isiTE, joinE, indexE, lcL, emp, yes, e_is_plain_tup, truD, e_is_key_tup a b]
  | str a b => simp [m_first_bad, b_first_bad, runF, frees, back, sSeq, sIf, sRet, sRetL, sRetS, sRetN, sNil, sEx, sSet, sSetL, sAsg, sPar, sPar3, sPut, sRaise, sBk, sCt, sStuck, eStuck, asB, tru, truSl, andT, orT, notT, andE, orE, notE, ifE, bin2, bin2L, un1, rd, cst, frz, lstL, tupE, vNil, vCons, calB, calL, callE, callL, appE, appL, resolve, slotsOf, putA, aSl, aVal, aNil, has?, isOw, chn, ixSl, lenSl, mtS, tName, tTupl, tCons, tNil, itE, rng1, rng2, slE, oSome, oNone, Res.bind, Res.thn, Res.lift, SRes.seq, loopR, Sl.toD, O.toD, mkE, mkApp, mkLE, cmethE, methE, sFldM, sForT, isiE, isiTE, joinE, indexE, lcL, emp, yes, e_is_plain_str, truD, e_is_key_str a b]
/-- bad things that are no nests -/
theorem fb_leaf {w : World} {d : D} (p : m_is_plain [.fr d] = .ok (.fr (.bl false)) [.fr d]) (k : m_is_key [.fr d] = .ok (.fr (.bl false)) [.fr d]) (t : kitAnyT [tab_list, tab_dict] (tyK d) = some false ∧ tab_Tag.lookup (tyK d) = some false) : FB w d (.tup []) 1 := FB.of fun j r _ _ => by
  obtain ⟨a, c⟩ := t
  simp [m_first_bad, b_first_bad, runF, frees, back, sSeq, sIf, sRet, sRetL, sRetS, sRetN, sNil, sEx, sSet, sSetL, sAsg, sPar, sPar3, sPut, sRaise, sBk, sCt, sStuck, eStuck, asB, tru, truSl, andT, orT, notT, andE, orE, notE, ifE, bin2, bin2L, un1, rd, cst, frz, lstL, tupE, vNil, vCons, calB, calL, callE, callL, appE, appL, resolve, slotsOf, putA, aSl, aVal, aNil, has?, isOw, chn, ixSl, lenSl, mtS, tName, tTupl, tCons, tNil, itE, rng1, rng2, slE, oSome, oNone, Res.bind, Res.thn, Res.lift, SRes.seq, loopR, Sl.toD, O.toD, mkE, mkApp, mkLE, cmethE, methE, sFldM, sForT, isiE, isiTE, joinE, indexE, lcL, emp, yes, p, k, truD, a, c]
theorem fb_far {w : World} {i : Int} (h : i < -(256 ^ 63) ∨ 256 ^ 63 ≤ i) : FB w (.int i) (.tup []) 1 := fb_leaf (e_is_plain_int i) (e_is_key_far h) ⟨rfl, rfl⟩
theorem fb_tup {w : World} {xs : List D} (h : ∀ x ∈ xs, m_is_byte [.fr x] = .ok (.fr (.bl (byteB x))) [.fr x]) (hl : xs.length ≤ 1000) (f : xs.all byteB = false) : FB w (.tup xs) (.tup []) 1 := fb_leaf (e_is_plain_tup xs) (by rw [e_is_key_any h hl, f]) ⟨rfl, rfl⟩
theorem fb_doc {w : World} (fs : List (Str × D)) : FB w (.ins "Document" fs) (.tup []) 1 := fb_leaf (e_is_plain_doc fs) (e_is_key_doc fs) ⟨rfl, rfl⟩
/-! keys looked at -/
theorem fb_keys {w : World} {rec : MF} {kb : D → Bool} {ks : List D} (h : ∀ k ∈ ks, m_is_key [.fr k] = .ok (.fr (.bl (kb k))) [.fr k]) (hl : ks.length ≤ 1000) (s0 s1 s3 s4 s5 : Option Sl) : lcM [2] (tName 2) yes (first_bad_e0 w rec) ks [] [s0, s1, none, s3, s4, s5] = .ok (ks.map fun k => .bl (kb k)) [s0, s1, none, s3, s4, s5] := by
  have e := lcM_map (vs := [2]) (t := tName 2) (c := yes) (e := first_bad_e0 w rec) (fun k => .bl (kb k)) [s0, s1, none, s3, s4, s5] ks [] (by simp only [List.length_nil]; exact size_1000 (by omega)) (by
    intro x m
    refine ⟨_, _, [s0, s1, some (.fr x), s3, s4, s5], rfl, rfl, ?_, rfl⟩
    simp [first_bad_e0, runF, frees, back, sSeq, sIf, sRet, sRetL, sRetS, sRetN, sNil, sEx, sSet, sSetL, sAsg, sPar, sPar3, sPut, sRaise, sBk, sCt, sStuck, eStuck, asB, tru, truSl, andT, orT, notT, andE, orE, notE, ifE, bin2, bin2L, un1, rd, cst, frz, lstL, tupE, vNil, vCons, calB, calL, callE, callL, appE, appL, resolve, slotsOf, putA, aSl, aVal, aNil, has?, isOw, chn, ixSl, lenSl, mtS, tName, tTupl, tCons, tNil, itE, rng1, rng2, slE, oSome, oNone, Res.bind, Res.thn, Res.lift, SRes.seq, loopR, Sl.toD, O.toD, mkE, mkApp, mkLE, cmethE, methE, sFldM, sForT, isiE, isiTE, joinE, indexE, lcL, emp, yes, h x m])
  rw [e, List.nil_append]
theorem fb_dict_key {w : World} {kvs : List (D × D)} {kb : D → Bool} (h : ∀ k ∈ kvs.map (·.1), m_is_key [.fr k] = .ok (.fr (.bl (kb k))) [.fr k]) (hl : kvs.length ≤ 1000) (f : (kvs.map (·.1)).all kb = false) : FB w (.dict w kvs) (.tup []) 1 := FB.of fun j r _ hr => by
  have e := fb_keys (w := w) (rec := m_first_bad w j) h (by rw [List.length_map]; exact hl) (some (.fr (.dict w kvs))) (some (.fr (.int r))) none none none
  have a := allB_map kb (kvs.map (·.1))
  rw [f] at a
  have i1 : kitAnyT [tab_list, tab_dict] (tyK (.dict w kvs)) = some true := rfl
  have i2 : tab_dict.lookup (tyK (.dict w kvs)) = some true := rfl
  have r0 : ¬ r = 0 := by omega
  have wk : walkD (.dict w kvs) = some (kvs.map (·.1)) := rfl
  simp [m_first_bad, b_first_bad, runF, frees, back, sSeq, sIf, sRet, sRetL, sRetS, sRetN, sNil, sEx, sSet, sSetL, sAsg, sPar, sPar3, sPut, sRaise, sBk, sCt, sStuck, eStuck, asB, tru, truSl, andT, orT, notT, andE, orE, notE, ifE, bin2, bin2L, un1, rd, cst, frz, lstL, tupE, vNil, vCons, calB, calL, callE, callL, appE, appL, resolve, slotsOf, putA, aSl, aVal, aNil, has?, isOw, chn, ixSl, lenSl, mtS, tName, tTupl, tCons, tNil, itE, rng1, rng2, slE, oSome, oNone, Res.bind, Res.thn, Res.lift, SRes.seq, loopR, Sl.toD, O.toD, mkE, mkApp, mkLE, cmethE, methE, sFldM, sForT, isiE, isiTE, joinE, indexE, lcL, emp, yes, e_is_plain_dict, e_is_key_dict, truD, i1, i2, eqD, eqB, r0, wk, e, a, -List.map_map, -List.all_map]
/-! steps -/
def T34 : MG := tTupl 2 (tCons (tName 3) (tCons (tName 4) tNil))
theorem fb_step_good {w : World} {rec : MF} {d s x : D} {r : Int} {s2 s3 s4 s5 : Option Sl} (h : rec [.fr x, .fr (.int (r - 1))] = .ok (.fr .non) [.fr x, .fr (.int (r - 1))]) :
    first_bad_b1 w rec [some (.fr d), some (.fr (.int r)), s2, some (.fr s), some (.fr x), s5] = .nx [some (.fr d), some (.fr (.int r)), s2, some (.fr s), some (.fr x), some (.fr .non)] := by
  simp [first_bad_b1, runF, frees, back, sSeq, sIf, sRet, sRetL, sRetS, sRetN, sNil, sEx, sSet, sSetL, sAsg, sPar, sPar3, sPut, sRaise, sBk, sCt, sStuck, eStuck, asB, tru, truSl, truD, andT, orT, notT, andE, orE, notE, ifE, bin2, bin2L, un1, rd, cst, frz, lstL, tupE, vNil, vCons, calB, calL, callE, callL, appE, appL, resolve, slotsOf, putA, aSl, aVal, aNil, has?, isOw, chn, ixSl, lenSl, mtS, tName, tTupl, tCons, tNil, itE, walkD, rng1, rng2, slE, oSome, oNone, Res.bind, Res.thn, Res.lift, SRes.seq, loopR, Sl.toD, O.toD, fAppend, fReverse, fExtend, fPop, fClear, addD, catD, subD, intD, mulD, fdivD, modD, powD, shrD, andD, cmpD, leD, gtD, geD, ltD, eqD, neD, eqB, isD, isNotD, isNonB, negD, lenB, lenD, absB, max2, min2, intB, boolB, ordB, tupleB, listB, mkE, mkApp, mkLE, cmethE, methE, sFldM, putFD, fldD, sForT, isiE, isiTE, tyK, ixD, slD, joinE, indexE, lcL, emp, yes, h]
theorem fb_step_bad {w : World} {rec : MF} {d s x : D} {p : List D} {r : Int} {s2 s3 s4 s5 : Option Sl} (h : rec [.fr x, .fr (.int (r - 1))] = .ok (.fr (.tup p)) [.fr x, .fr (.int (r - 1))]) (hp : p.length ≤ 1000) :
    first_bad_b1 w rec [some (.fr d), some (.fr (.int r)), s2, some (.fr s), some (.fr x), s5] = .rt (.fr (.tup (s :: p))) [some (.fr d), some (.fr (.int r)), s2, some (.fr s), some (.fr x), some (.fr (.tup p))] := by
  have s1 : 1 ≤ sizeLine := by decide
  have s2' : 1 + p.length ≤ sizeLine := size_1000 (by omega)
  simp [first_bad_b1, runF, frees, back, sSeq, sIf, sRet, sRetL, sRetS, sRetN, sNil, sEx, sSet, sSetL, sAsg, sPar, sPar3, sPut, sRaise, sBk, sCt, sStuck, eStuck, asB, tru, truSl, truD, andT, orT, notT, andE, orE, notE, ifE, bin2, bin2L, un1, rd, cst, frz, lstL, tupE, vNil, vCons, calB, calL, callE, callL, appE, appL, resolve, slotsOf, putA, aSl, aVal, aNil, has?, isOw, chn, ixSl, lenSl, mtS, tName, tTupl, tCons, tNil, itE, walkD, rng1, rng2, slE, oSome, oNone, Res.bind, Res.thn, Res.lift, SRes.seq, loopR, Sl.toD, O.toD, fAppend, fReverse, fExtend, fPop, fClear, addD, catD, subD, intD, mulD, fdivD, modD, powD, shrD, andD, cmpD, leD, gtD, geD, ltD, eqD, neD, eqB, isD, isNotD, isNonB, negD, lenB, lenD, absB, max2, min2, intB, boolB, ordB, tupleB, listB, mkE, mkApp, mkLE, cmethE, methE, sFldM, putFD, fldD, sForT, isiE, isiTE, tyK, ixD, slD, joinE, indexE, lcL, emp, yes, h, s1, s2']
theorem fb_loop_good {w : World} {rec : MF} {d : D} {r : Int} {s2 : Option Sl} : ∀ (pre : List (D × D)) (s3 s4 s5 : Option Sl), (∀ q ∈ pre, rec [.fr q.2, .fr (.int (r - 1))] = .ok (.fr .non) [.fr q.2, .fr (.int (r - 1))]) →
    ∃ t3 t4 t5, ∀ rest, forT T34 (first_bad_b1 w rec) (pre.map (fun q => D.tup [q.1, q.2]) ++ rest) [some (.fr d), some (.fr (.int r)), s2, s3, s4, s5] = forT T34 (first_bad_b1 w rec) rest [some (.fr d), some (.fr (.int r)), s2, t3, t4, t5]
  | [], s3, s4, s5, _ => ⟨s3, s4, s5, fun rest => rfl⟩
  | q :: pre, s3, s4, s5, h => by
    obtain ⟨t3, t4, t5, e⟩ := fb_loop_good (d := d) (s2 := s2) pre (some (.fr q.1)) (some (.fr q.2)) (some (.fr .non)) fun x m => h x (List.mem_cons_of_mem _ m)
    refine ⟨t3, t4, t5, fun rest => ?_⟩
    rw [List.map_cons, List.cons_append, forT]
    have t : T34 (.tup [q.1, q.2]) [some (.fr d), some (.fr (.int r)), s2, s3, s4, s5] = some [some (.fr d), some (.fr (.int r)), s2, some (.fr q.1), some (.fr q.2), s5] := rfl
    rw [t]
    show loopR (first_bad_b1 w rec _) _ = _
    rw [fb_step_good (h q List.mem_cons_self)]
    · exact e rest
    · exact none
    · exact none
theorem fb_loop_bad {w : World} {rec : MF} {d : D} {r : Int} {s2 : Option Sl} (pre : List (D × D)) (s x : D) (rest : List D) (p : List D) (s3 s4 s5 : Option Sl) (h : ∀ q ∈ pre, rec [.fr q.2, .fr (.int (r - 1))] = .ok (.fr .non) [.fr q.2, .fr (.int (r - 1))]) (hx : rec [.fr x, .fr (.int (r - 1))] = .ok (.fr (.tup p)) [.fr x, .fr (.int (r - 1))]) (hp : p.length ≤ 1000) :
    ∃ t3 t4 t5, forT T34 (first_bad_b1 w rec) (pre.map (fun q => D.tup [q.1, q.2]) ++ .tup [s, x] :: rest) [some (.fr d), some (.fr (.int r)), s2, s3, s4, s5] = .rt (.fr (.tup (s :: p))) [some (.fr d), some (.fr (.int r)), s2, t3, t4, t5] := by
  obtain ⟨t3, t4, t5, e⟩ := fb_loop_good (w := w) (d := d) (s2 := s2) pre s3 s4 s5 h
  refine ⟨some (.fr s), some (.fr x), some (.fr (.tup p)), ?_⟩
  rw [e, forT]
  have t : T34 (.tup [s, x]) [some (.fr d), some (.fr (.int r)), s2, t3, t4, t5] = some [some (.fr d), some (.fr (.int r)), s2, some (.fr s), some (.fr x), t5] := rfl
  rw [t]
  show loopR (first_bad_b1 w rec _) _ = _
  rw [fb_step_bad hx hp]
  · rfl
  · exact none
  · exact none
/-- a nest, by its steps -/
structure Nest (w : World) (d : D) (ys : List (D × D)) : Prop where
  steps : m_steps_of w [.fr d] = .ok (.fr (.list (ys.map fun q => .tup [q.1, q.2]))) [.fr d]
  kind : (∃ xs, d = .list xs) ∨ ∃ kvs, d = .dict w kvs ∧ kvs.length ≤ 1000 ∧ ∀ k ∈ kvs.map (·.1), m_is_key [.fr k] = .ok (.fr (.bl true)) [.fr k]
theorem fb_nest {w : World} {d : D} {ys : List (D × D)} (N : Nest w d ys) {k : Nat} {r : Int} (r0 : ¬ r = 0) {x : SRes} {t3 t4 t5 : Option Sl} (e : forT T34 (first_bad_b1 w (m_first_bad w k)) (ys.map fun q => .tup [q.1, q.2]) [some (.fr d), some (.fr (.int r)), none, none, none, none] = x) :
    ((x = .nx [some (.fr d), some (.fr (.int r)), none, t3, t4, t5]) → m_first_bad w (k + 1) [.fr d, .fr (.int r)] = .ok (.fr .non) [.fr d, .fr (.int r)]) ∧ ∀ p, (x = .rt (.fr (.tup p)) [some (.fr d), some (.fr (.int r)), none, t3, t4, t5]) → m_first_bad w (k + 1) [.fr d, .fr (.int r)] = .ok (.fr (.tup p)) [.fr d, .fr (.int r)] := by
  unfold T34 at e
  have st := N.steps
  rcases N.kind with ⟨xs, rfl⟩ | ⟨kvs, rfl, hl, hk⟩
  · have i1 : kitAnyT [tab_list, tab_dict] (tyK (.list xs)) = some true := rfl
    have i2 : tab_dict.lookup (tyK (.list xs)) = some false := rfl
    have i3 : tab_Tag.lookup (tyK (.list xs)) = some false := rfl
    have wk : ∀ zs : List D, walkD (.list zs) = some zs := fun _ => rfl
    constructor
    · rintro rfl
      simp [m_first_bad, b_first_bad, runF, frees, back, sSeq, sIf, sRet, sNil, asB, tru, andT, orT, notT, bin2, rd, cst, frz, vNil, vCons, tupE, callE, appE, resolve, slotsOf, putA, aSl, aNil, has?, isiE, isiTE, Res.bind, Res.thn, Res.lift, SRes.seq, Sl.toD, e_is_plain_list, e_is_key_list, truD, i1, i2, i3, eqD, eqB, r0, sForT, itE, st, wk, e]
    · rintro p rfl
      simp [m_first_bad, b_first_bad, runF, frees, back, sSeq, sIf, sRet, sNil, asB, tru, andT, orT, notT, bin2, rd, cst, frz, vNil, vCons, tupE, callE, appE, resolve, slotsOf, putA, aSl, aNil, has?, isiE, isiTE, Res.bind, Res.thn, Res.lift, SRes.seq, Sl.toD, e_is_plain_list, e_is_key_list, truD, i1, i2, i3, eqD, eqB, r0, sForT, itE, st, wk, e]
  · have ek := fb_keys (w := w) (rec := m_first_bad w k) (kb := fun _ => true) hk (by rw [List.length_map]; exact hl) (some (.fr (.dict w kvs))) (some (.fr (.int r))) none none none
    have a := allB_map (fun _ => true) (kvs.map (·.1))
    rw [show (kvs.map (·.1)).all (fun _ => true) = true by simp] at a
    have i1 : kitAnyT [tab_list, tab_dict] (tyK (.dict w kvs)) = some true := rfl
    have i2 : tab_dict.lookup (tyK (.dict w kvs)) = some true := rfl
    have wd : walkD (.dict w kvs) = some (kvs.map (·.1)) := rfl
    have wk : ∀ zs : List D, walkD (.list zs) = some zs := fun _ => rfl
    constructor
    · rintro rfl
      simp [m_first_bad, b_first_bad, runF, frees, back, sSeq, sIf, sRet, sNil, asB, tru, andT, orT, notT, bin2, rd, cst, frz, vNil, vCons, tupE, calB, callE, appE, resolve, slotsOf, putA, aSl, aNil, has?, isiE, isiTE, Res.bind, Res.thn, Res.lift, SRes.seq, Sl.toD, e_is_plain_dict, e_is_key_dict, truD, i1, i2, eqD, eqB, r0, sForT, itE, lcL, emp, ek, a, st, wk, wd, e, -List.map_map, -List.map_const_fun, -List.map_const]
    · rintro p rfl
      simp [m_first_bad, b_first_bad, runF, frees, back, sSeq, sIf, sRet, sNil, asB, tru, andT, orT, notT, bin2, rd, cst, frz, vNil, vCons, tupE, calB, callE, appE, resolve, slotsOf, putA, aSl, aNil, has?, isiE, isiTE, Res.bind, Res.thn, Res.lift, SRes.seq, Sl.toD, e_is_plain_dict, e_is_key_dict, truD, i1, i2, eqD, eqB, r0, sForT, itE, lcL, emp, ek, a, st, wk, wd, e, -List.map_map, -List.map_const_fun, -List.map_const]
theorem Nest.good {w : World} {d : D} {ys : List (D × D)} {n : Nat} (N : Nest w d ys) (h : ∀ q ∈ ys, FB w q.2 .non n) : FB w d .non (n + 1) := FB.of fun k r hk hr => by
  obtain ⟨t3, t4, t5, e⟩ := fb_loop_good (w := w) (rec := m_first_bad w k) (d := d) (r := r) (s2 := none) ys none none none fun q m => h q m k (r - 1) hk (by omega)
  have e := e []
  rw [List.append_nil] at e
  exact (fb_nest N (by omega) (t3 := t3) (t4 := t4) (t5 := t5) e).1 rfl
theorem Nest.bad {w : World} {d : D} {pre post : List (D × D)} {s x : D} {p : List D} {n : Nat} (N : Nest w d (pre ++ (s, x) :: post)) (h : ∀ q ∈ pre, FB w q.2 .non n) (hx : FB w x (.tup p) n) (hp : p.length ≤ 1000) : FB w d (.tup (s :: p)) (n + 1) := FB.of fun k r hk hr => by
  obtain ⟨t3, t4, t5, e⟩ := fb_loop_bad (w := w) (rec := m_first_bad w k) (d := d) (r := r) (s2 := none) pre s x (post.map fun q => .tup [q.1, q.2]) p none none none (fun q m => h q m k (r - 1) hk (by omega)) (hx k (r - 1) hk (by omega)) hp
  have ee : forT T34 (first_bad_b1 w (m_first_bad w k)) ((pre ++ (s, x) :: post).map fun q => .tup [q.1, q.2]) [some (.fr d), some (.fr (.int r)), none, none, none, none] = .rt (.fr (.tup (s :: p))) [some (.fr d), some (.fr (.int r)), none, t3, t4, t5] := by
    rw [List.map_append, List.map_cons]
    exact e
  exact (fb_nest N (by omega) (t3 := t3) (t4 := t4) (t5 := t5) ee).2 _ rfl

/-! ### nests -/
def enumP : Nat → List D → List (D × D)
  | _, [] => []
  | k, x :: xs => (.int (k : Int), x) :: enumP (k + 1) xs
theorem enumP_zip : ∀ (xs : List D) (k : Nat), (List.range' k xs.length).zipWith (fun (i : Nat) x => D.tup [.int (i : Int), x]) xs = (enumP k xs).map fun q => .tup [q.1, q.2]
  | [], _ => rfl
  | x :: xs, k => by
    rw [List.length_cons, List.range'_succ, List.zipWith_cons_cons, enumP_zip xs (k + 1)]
    rfl
theorem enumD_eq (xs : List D) : enumD xs = (enumP 0 xs).map fun q => .tup [q.1, q.2] := by
  unfold enumD
  rw [List.range_eq_range']
  exact enumP_zip xs 0
theorem enumP_app : ∀ (pre : List D) (x : D) (rest : List D) (k : Nat), enumP k (pre ++ x :: rest) = enumP k pre ++ (.int ((k + pre.length : Nat) : Int), x) :: enumP (k + pre.length + 1) rest
  | [], x, rest, k => rfl
  | y :: pre, x, rest, k => by
    rw [List.cons_append, enumP, enumP_app pre x rest (k + 1), enumP, List.length_cons, show k + 1 + pre.length = k + (pre.length + 1) by omega]
    rfl
theorem enumP_mem : ∀ {xs : List D} {k : Nat} {q : D × D}, q ∈ enumP k xs → q.2 ∈ xs
  | [], _, _, h => by cases h
  | x :: xs, k, q, h => by
    rcases List.mem_cons.mp h with rfl | h
    · exact List.mem_cons_self
    · exact List.mem_cons_of_mem _ (enumP_mem h)
theorem enumP_len : ∀ (xs : List D) (k : Nat), (enumP k xs).length = xs.length
  | [], _ => rfl
  | x :: xs, k => congrArg (· + 1) (enumP_len xs (k + 1))
theorem nest_list {w : World} {xs : List D} (hl : xs.length ≤ 1000) : Nest w (.list xs) (enumP 0 xs) := by
  refine ⟨?_, .inl ⟨xs, rfl⟩⟩
  have e := lcM_map (vs := [1, 2]) (t := tTupl 2 (tCons (tName 1) (tCons (tName 2) tNil))) (c := yes) (e := steps_of_e0 w) id [some (.fr (.list xs)), none, none, none] (enumD xs) [] (by
    rw [enumD_eq, List.length_map, enumP_len]
    exact size_1000 (by simp only [List.length_nil]; omega)) (by
    rw [enumD_eq]
    intro x m
    obtain ⟨q, mq, rfl⟩ := List.mem_map.mp m
    have s2 : 2 ≤ sizeLine := by decide
    refine ⟨_, _, [some (.fr (.list xs)), some (.fr q.1), some (.fr q.2), none], rfl, rfl, ?_, rfl⟩
    simp [steps_of_e0, runF, frees, back, sSeq, sIf, sRet, sRetL, sRetS, sRetN, sNil, sEx, sSet, sSetL, sAsg, sPar, sPar3, sPut, sRaise, sBk, sCt, sStuck, eStuck, asB, tru, truSl, andT, orT, notT, andE, orE, notE, ifE, bin2, bin2L, un1, rd, cst, frz, lstL, tupE, vNil, vCons, calB, calL, callE, callL, appE, appL, resolve, slotsOf, putA, aSl, aVal, aNil, has?, isOw, chn, ixSl, lenSl, mtS, tName, tTupl, tCons, tNil, itE, rng1, rng2, slE, oSome, oNone, Res.bind, Res.thn, Res.lift, SRes.seq, loopR, Sl.toD, O.toD, mkE, mkApp, mkLE, cmethE, methE, sFldM, sForT, isiE, isiTE, joinE, indexE, lcL, emp, yes, s2])
  rw [List.map_id, List.nil_append] at e
  have i1 : tab_list.lookup (tyK (.list xs)) = some true := rfl
  have rw' : rowD (.list xs) = some xs := rfl
  rw [← enumD_eq]
  simp [m_steps_of, b_steps_of, runF, frees, back, sSeq, sIf, sRet, tru, isiE, rd, Res.bind, Res.thn, Res.lift, SRes.seq, truD, i1, frz, lcL, emp, enumerateL, vCons, vNil, rw', e]
/-! dicts of two keys, of one -/
theorem dPuts2 {a b va vb : D} {ka kb : NestedKey} (ha : nkOf a = some ka) (hb : nkOf b = some kb) (la : ka.depth ≤ 8) (lb : kb.depth ≤ 8) (ne : ka ≠ kb) : dPuts [(b, vb), (a, va)] [] = some [(b, vb), (a, va)] := by
  have ne' : ¬ kb = ka := fun e => ne e.symm
  simp [dPuts, hb, lb, dPut, ha, la, ne']
theorem dPuts1 {a va : D} {ka : NestedKey} (ha : nkOf a = some ka) (la : ka.depth ≤ 8) : dPuts [(a, va)] [] = some [(a, va)] := by
  simp [dPuts, ha, la, dPut]
theorem e_sorted2 {w : World} {a b va vb : D} {ra rb : List Int} {ka kb : NestedKey} (A : KeyD a ra ka) (B : KeyD b rb kb) (lt : HT.lexLt ra rb = true) : m_sorted_keys [.fr (.dict w [(b, vb), (a, va)])] = .ok (.fr (.list [a, b])) [.fr (.dict w [(b, vb), (a, va)])] := by
  have s := sortK2 A.row B.row lt
  have l : listBD [.dict w [(b, vb), (a, va)]] = some [b, a] := rfl
  simp [m_sorted_keys, b_sorted_keys, runF, frees, back, sSeq, sIf, sRet, sRetL, sRetS, sRetN, sNil, sEx, sSet, sSetL, sAsg, sPar, sPar3, sPut, sRaise, sBk, sCt, sStuck, eStuck, asB, tru, truSl, andT, orT, notT, andE, orE, notE, ifE, bin2, bin2L, un1, rd, cst, frz, lstL, tupE, vNil, vCons, calB, calL, callE, callL, appE, appL, resolve, slotsOf, putA, aSl, aVal, aNil, has?, isOw, chn, ixSl, lenSl, mtS, tName, tTupl, tCons, tNil, itE, rng1, rng2, slE, oSome, oNone, Res.bind, Res.thn, Res.lift, SRes.seq, loopR, Sl.toD, O.toD, mkE, mkApp, mkLE, cmethE, methE, sFldM, sForT, isiE, isiTE, joinE, indexE, lcL, emp, yes, sortKE, l, s]
theorem e_sorted1 {w : World} {a va : D} {ra : List Int} {ka : NestedKey} (A : KeyD a ra ka) : m_sorted_keys [.fr (.dict w [(a, va)])] = .ok (.fr (.list [a])) [.fr (.dict w [(a, va)])] := by
  have s := sortK1 A.row
  have l : listBD [.dict w [(a, va)]] = some [a] := rfl
  simp [m_sorted_keys, b_sorted_keys, runF, frees, back, sSeq, sIf, sRet, sRetL, sRetS, sRetN, sNil, sEx, sSet, sSetL, sAsg, sPar, sPar3, sPut, sRaise, sBk, sCt, sStuck, eStuck, asB, tru, truSl, andT, orT, notT, andE, orE, notE, ifE, bin2, bin2L, un1, rd, cst, frz, lstL, tupE, vNil, vCons, calB, calL, callE, callL, appE, appL, resolve, slotsOf, putA, aSl, aVal, aNil, has?, isOw, chn, ixSl, lenSl, mtS, tName, tTupl, tCons, tNil, itE, rng1, rng2, slE, oSome, oNone, Res.bind, Res.thn, Res.lift, SRes.seq, loopR, Sl.toD, O.toD, mkE, mkApp, mkLE, cmethE, methE, sFldM, sForT, isiE, isiTE, joinE, indexE, lcL, emp, yes, sortKE, l, s]
theorem dix2a {w : World} {a b va vb : D} {ka kb : NestedKey} (ha : nkOf a = some ka) (hb : nkOf b = some kb) (la : ka.depth ≤ 8) (ne : ka ≠ kb) : dixD w (.dict w [(b, vb), (a, va)]) a = some va := by
  have ne' : ¬ kb = ka := fun e => ne e.symm
  simp [dixD, ha, hb, la, dFind, ne']
theorem dix2b {w : World} {a b va vb : D} {kb : NestedKey} (hb : nkOf b = some kb) (lb : kb.depth ≤ 8) : dixD w (.dict w [(b, vb), (a, va)]) b = some vb := by
  simp [dixD, hb, lb, dFind]
theorem dix1 {w : World} {b vb : D} {kb : NestedKey} (hb : nkOf b = some kb) (lb : kb.depth ≤ 8) : dixD w (.dict w [(b, vb)]) b = some vb := by
  simp [dixD, hb, lb, dFind]
theorem nest_dict2 {w : World} {a b va vb : D} {ra rb : List Int} {ka kb : NestedKey} (A : KeyD a ra ka) (B : KeyD b rb kb) (lt : HT.lexLt ra rb = true) (ne : ka ≠ kb) : Nest w (.dict w [(b, vb), (a, va)]) [(a, va), (b, vb)] := by
  refine ⟨?_, .inr ⟨_, rfl, by simp only [List.length_cons, List.length_nil]; omega, ?_⟩⟩
  · have s2 : 2 ≤ sizeLine := by decide
    have s1 : 1 < sizeLine := by decide
    have s0 : 0 < sizeLine := by decide
    have x1 := dix2a (w := w) (va := va) (vb := vb) A.nk B.nk A.small ne
    have x2 := dix2b (w := w) (a := a) (va := va) (vb := vb) B.nk B.small
    have i1 : tab_list.lookup (tyK (.dict w [(b, vb), (a, va)])) = some false := rfl
    have i2 : tab_dict.lookup (tyK (.dict w [(b, vb), (a, va)])) = some true := rfl
    have wk : walkD (.list [a, b]) = some [a, b] := rfl
    simp [m_steps_of, b_steps_of, runF, frees, back, sSeq, sIf, sRet, sRetL, sRetS, sRetN, sNil, sEx, sSet, sSetL, sAsg, sPar, sPar3, sPut, sRaise, sBk, sCt, sStuck, eStuck, asB, tru, truSl, andT, orT, notT, andE, orE, notE, ifE, bin2, bin2L, un1, rd, cst, frz, lstL, tupE, vNil, vCons, calB, calL, callE, callL, appE, appL, resolve, slotsOf, putA, aSl, aVal, aNil, has?, isOw, chn, ixSl, lenSl, mtS, tName, tTupl, tCons, tNil, itE, rng1, rng2, slE, oSome, oNone, Res.bind, Res.thn, Res.lift, SRes.seq, loopR, Sl.toD, O.toD, mkE, mkApp, mkLE, cmethE, methE, sFldM, sForT, isiE, isiTE, joinE, indexE, lcL, emp, yes, truD, i1, i2, e_sorted2 A B lt, wk, lcM, steps_of_e1, x1, x2, s2, s1, s0, clr]
  · intro k m
    simp only [List.map_cons, List.map_nil, List.mem_cons, List.not_mem_nil, or_false] at m
    rcases m with rfl | rfl
    · exact B.key
    · exact A.key
theorem nest_dict1 {w : World} {a va : D} {ra : List Int} {ka : NestedKey} (A : KeyD a ra ka) : Nest w (.dict w [(a, va)]) [(a, va)] := by
  refine ⟨?_, .inr ⟨_, rfl, by simp only [List.length_cons, List.length_nil]; omega, ?_⟩⟩
  · have s2 : 2 ≤ sizeLine := by decide
    have s0 : 0 < sizeLine := by decide
    have x2 := dix1 (w := w) (vb := va) A.nk A.small
    have i1 : tab_list.lookup (tyK (.dict w [(a, va)])) = some false := rfl
    have i2 : tab_dict.lookup (tyK (.dict w [(a, va)])) = some true := rfl
    have wk : walkD (.list [a]) = some [a] := rfl
    simp [m_steps_of, b_steps_of, runF, frees, back, sSeq, sIf, sRet, sRetL, sRetS, sRetN, sNil, sEx, sSet, sSetL, sAsg, sPar, sPar3, sPut, sRaise, sBk, sCt, sStuck, eStuck, asB, tru, truSl, andT, orT, notT, andE, orE, notE, ifE, bin2, bin2L, un1, rd, cst, frz, lstL, tupE, vNil, vCons, calB, calL, callE, callL, appE, appL, resolve, slotsOf, putA, aSl, aVal, aNil, has?, isOw, chn, ixSl, lenSl, mtS, tName, tTupl, tCons, tNil, itE, rng1, rng2, slE, oSome, oNone, Res.bind, Res.thn, Res.lift, SRes.seq, loopR, Sl.toD, O.toD, mkE, mkApp, mkLE, cmethE, methE, sFldM, sForT, isiE, isiTE, joinE, indexE, lcL, emp, yes, truD, i1, i2, e_sorted1 A, wk, lcM, steps_of_e1, x2, s2, s0, clr]
  · intro k m
    simp only [List.map_cons, List.map_nil, List.mem_cons, List.not_mem_nil, or_false] at m
    subst m
    exact A.key
/-! what the functions say of bad values -/
theorem e_value_bad {w : World} {d : D} {p : List D} {n : Nat} (h : FB w d (.tup p) n) (hn : n ≤ 12) : m_is_value w [.fr d] = .ok (.fr (.bl false)) [.fr d] := by
  have e := h 12 24 hn (by omega)
  simp [m_is_value, b_is_value, runF, frees, back, sSeq, sIf, sRet, sRetL, sRetS, sRetN, sNil, sEx, sSet, sSetL, sAsg, sPar, sPar3, sPut, sRaise, sBk, sCt, sStuck, eStuck, asB, tru, truSl, truD, andT, orT, notT, andE, orE, notE, ifE, bin2, bin2L, un1, rd, cst, frz, lstL, tupE, vNil, vCons, calB, calL, callE, callL, appE, appL, resolve, slotsOf, putA, aSl, aVal, aNil, has?, isOw, chn, ixSl, lenSl, mtS, tName, tTupl, tCons, tNil, itE, walkD, rng1, rng2, slE, oSome, oNone, Res.bind, Res.thn, Res.lift, SRes.seq, loopR, Sl.toD, O.toD, fAppend, fReverse, fExtend, fPop, fClear, addD, catD, subD, intD, mulD, fdivD, modD, powD, shrD, andD, cmpD, leD, gtD, geD, ltD, eqD, neD, eqB, isD, isNotD, isNonB, negD, lenB, lenD, absB, max2, min2, intB, boolB, ordB, tupleB, listB, mkE, mkApp, mkLE, cmethE, methE, sFldM, putFD, fldD, sForT, isiE, isiTE, tyK, ixD, slD, joinE, indexE, lcL, emp, yes, e]
theorem e_value_good {w : World} {d : D} {n : Nat} (h : FB w d .non n) (hn : n ≤ 12) : m_is_value w [.fr d] = .ok (.fr (.bl true)) [.fr d] := by
  have e := h 12 24 hn (by omega)
  simp [m_is_value, b_is_value, runF, frees, back, sSeq, sIf, sRet, sRetL, sRetS, sRetN, sNil, sEx, sSet, sSetL, sAsg, sPar, sPar3, sPut, sRaise, sBk, sCt, sStuck, eStuck, asB, tru, truSl, truD, andT, orT, notT, andE, orE, notE, ifE, bin2, bin2L, un1, rd, cst, frz, lstL, tupE, vNil, vCons, calB, calL, callE, callL, appE, appL, resolve, slotsOf, putA, aSl, aVal, aNil, has?, isOw, chn, ixSl, lenSl, mtS, tName, tTupl, tCons, tNil, itE, walkD, rng1, rng2, slE, oSome, oNone, Res.bind, Res.thn, Res.lift, SRes.seq, loopR, Sl.toD, O.toD, fAppend, fReverse, fExtend, fPop, fClear, addD, catD, subD, intD, mulD, fdivD, modD, powD, shrD, andD, cmpD, leD, gtD, geD, ltD, eqD, neD, eqB, isD, isNotD, isNonB, negD, lenB, lenD, absB, max2, min2, intB, boolB, ordB, tupleB, listB, mkE, mkApp, mkLE, cmethE, methE, sFldM, putFD, fldD, sForT, isiE, isiTE, tyK, ixD, slD, joinE, indexE, lcL, emp, yes, e]
theorem e_checked_bad {w : World} {d : D} {p : List D} {n : Nat} (h : FB w d (.tup p) n) (hn : n ≤ 12) : m_checked_row w [.fr d] = .err "BadValue" "path" (.tup p) [.fr d] := by
  have e := h 12 24 hn (by omega)
  simp [m_checked_row, b_checked_row, runF, frees, back, sSeq, sIf, sRet, sRetL, sRetS, sRetN, sNil, sEx, sSet, sSetL, sAsg, sPar, sPar3, sPut, sRaise, sBk, sCt, sStuck, eStuck, asB, tru, truSl, truD, andT, orT, notT, andE, orE, notE, ifE, bin2, bin2L, un1, rd, cst, frz, lstL, tupE, vNil, vCons, calB, calL, callE, callL, appE, appL, resolve, slotsOf, putA, aSl, aVal, aNil, has?, isOw, chn, ixSl, lenSl, mtS, tName, tTupl, tCons, tNil, itE, walkD, rng1, rng2, slE, oSome, oNone, Res.bind, Res.thn, Res.lift, SRes.seq, loopR, Sl.toD, O.toD, fAppend, fReverse, fExtend, fPop, fClear, addD, catD, subD, intD, mulD, fdivD, modD, powD, shrD, andD, cmpD, leD, gtD, geD, ltD, eqD, neD, eqB, isD, isNotD, isNonB, negD, lenB, lenD, absB, max2, min2, intB, boolB, ordB, tupleB, listB, mkE, mkApp, mkLE, cmethE, methE, sFldM, putFD, fldD, sForT, isiE, isiTE, tyK, ixD, slD, joinE, indexE, lcL, emp, yes, e]
theorem e_path_bad {w : World} {d : D} {p : List D} {n : Nat} (h : FB w d (.tup p) n) (hn : n ≤ 12) : m__law_path w [.fr d] = .ok (.fr (.tup p)) [.fr d] := by
  have e := e_checked_bad h hn
  have dc : m_Document_of w [.fr (.cls "Document"), .fr d] = .err "BadValue" "path" (.tup p) [.fr (.cls "Document"), .fr d] := by
    simp [m_Document_of, b_Document_of, runF, frees, back, sSeq, sIf, sRet, sRetL, sRetS, sRetN, sNil, sEx, sSet, sSetL, sAsg, sPar, sPar3, sPut, sRaise, sBk, sCt, sStuck, eStuck, asB, tru, truSl, andT, orT, notT, andE, orE, notE, ifE, bin2, bin2L, un1, rd, cst, frz, lstL, tupE, vNil, vCons, calB, calL, callE, callL, appE, appL, resolve, slotsOf, putA, aSl, aVal, aNil, has?, isOw, chn, ixSl, lenSl, mtS, tName, tTupl, tCons, tNil, itE, rng1, rng2, slE, oSome, oNone, Res.bind, Res.thn, Res.lift, SRes.seq, loopR, Sl.toD, O.toD, mkE, mkApp, mkLE, cmethE, methE, sFldM, sForT, isiE, isiTE, joinE, indexE, lcL, emp, yes, e]
  have l1 : xtab_ShortestBytesError.lookup ("BadValue" : Str) = some true := by decide +kernel
  have l2 : (("BadValue", "path") : Str × Str) ∈ xerrs := by decide +kernel
  have l3 : xtab_BadValue.lookup ("BadValue" : Str) = some true := by decide +kernel
  have l4 : xtab_BadNumber.lookup ("BadValue" : Str) = some false := by decide +kernel
  simp [m__law_path, b__law_path, runF, frees, back, sSeq, sIf, sRet, sRetL, sRetS, sRetN, sNil, sEx, sSet, sSetL, sAsg, sPar, sPar3, sPut, sRaise, sBk, sCt, sStuck, eStuck, asB, tru, truSl, andT, orT, notT, andE, orE, notE, ifE, bin2, bin2L, un1, rd, cst, frz, lstL, tupE, vNil, vCons, calB, calL, callE, callL, appE, appL, resolve, slotsOf, putA, aSl, aVal, aNil, has?, isOw, chn, ixSl, lenSl, mtS, tName, tTupl, tCons, tNil, itE, rng1, rng2, slE, oSome, oNone, Res.bind, Res.thn, Res.lift, SRes.seq, loopR, Sl.toD, O.toD, mkE, mkApp, mkLE, cmethE, methE, sFldM, sForT, isiE, isiTE, joinE, indexE, lcL, emp, yes, sTry, dc, sCls, l1, l2, l3, l4, isxE, truD, SRes.less, xfE]
theorem e_tag_bad {w : World} {d : D} {p : List D} {n : Nat} (h : FB w d (.tup p) n) (hn : n ≤ 12) : m__law_tag_path w [.fr d] = .ok (.fr (.tup p)) [.fr d] := by
  have e := e_checked_bad h hn
  have nb : m_is_number [.fr (.int 5)] = .ok (.fr (.bl true)) [.fr (.int 5)] := by
    simp [m_is_number, b_is_number, runF, frees, back, sSeq, sIf, sRet, sRetL, sRetS, sRetN, sNil, sEx, sSet, sSetL, sAsg, sPar, sPar3, sPut, sRaise, sBk, sCt, sStuck, eStuck, asB, tru, truSl, truD, andT, orT, notT, andE, orE, notE, ifE, bin2, bin2L, un1, rd, cst, frz, lstL, tupE, vNil, vCons, calB, calL, callE, callL, appE, appL, resolve, slotsOf, putA, aSl, aVal, aNil, has?, isOw, chn, ixSl, lenSl, mtS, tName, tTupl, tCons, tNil, itE, walkD, rng1, rng2, slE, oSome, oNone, Res.bind, Res.thn, Res.lift, SRes.seq, loopR, Sl.toD, O.toD, fAppend, fReverse, fExtend, fPop, fClear, addD, catD, subD, intD, mulD, fdivD, modD, powD, shrD, andD, cmpD, leD, gtD, geD, ltD, eqD, neD, eqB, isD, isNotD, isNonB, negD, lenB, lenD, absB, max2, min2, intB, boolB, ordB, tupleB, listB, mkE, mkApp, mkLE, cmethE, methE, sFldM, putFD, fldD, sForT, isiE, isiTE, tyK, ixD, slD, joinE, indexE, lcL, emp, yes, e_is_integer_int]
  have ne : ¬ (("number" : Str) = "content_row") := by decide +kernel
  have l2 : (("BadValue", "path") : Str × Str) ∈ xerrs := by decide +kernel
  have l3 : xtab_BadValue.lookup ("BadValue" : Str) = some true := by decide +kernel
  have ti : m_Tag___init__ w [.ow (.ins "Tag" []), .fr (.int 5), .fr d, .fr .non] = .err "BadValue" "path" (.tup p) [.ow (.ins "Tag" [("number", .int 5), ("content_row", .non)]), .fr (.int 5), .fr d, .fr .non] := by
    simp [m_Tag___init__, b_Tag___init__, runF, frees, back, sSeq, sIf, sRet, sRetL, sRetS, sRetN, sNil, sEx, sSet, sSetL, sAsg, sPar, sPar3, sPut, sRaise, sBk, sCt, sStuck, eStuck, asB, tru, truSl, andT, orT, notT, andE, orE, notE, ifE, bin2, bin2L, un1, rd, cst, frz, lstL, tupE, vNil, vCons, calB, calL, callE, callL, appE, appL, resolve, slotsOf, putA, aSl, aVal, aNil, has?, isOw, chn, ixSl, lenSl, mtS, tName, tTupl, tCons, tNil, itE, rng1, rng2, slE, oSome, oNone, Res.bind, Res.thn, Res.lift, SRes.seq, loopR, Sl.toD, O.toD, mkE, mkApp, mkLE, cmethE, methE, sFldM, sForT, isiE, isiTE, joinE, indexE, lcL, emp, yes, nb, truD, putFD, ne, isD, isNonB, e]
  simp [m__law_tag_path, b__law_tag_path, runF, frees, back, sSeq, sIf, sRet, sRetL, sRetS, sRetN, sNil, sEx, sSet, sSetL, sAsg, sPar, sPar3, sPut, sRaise, sBk, sCt, sStuck, eStuck, asB, tru, truSl, andT, orT, notT, andE, orE, notE, ifE, bin2, bin2L, un1, rd, cst, frz, lstL, tupE, vNil, vCons, calB, calL, callE, callL, appE, appL, resolve, slotsOf, putA, aSl, aVal, aNil, has?, isOw, chn, ixSl, lenSl, mtS, tName, tTupl, tCons, tNil, itE, rng1, rng2, slE, oSome, oNone, Res.bind, Res.thn, Res.lift, SRes.seq, loopR, Sl.toD, O.toD, mkE, mkApp, mkLE, cmethE, methE, sFldM, sForT, isiE, isiTE, joinE, indexE, lcL, emp, yes, sTry, ti, sCls, l2, l3, SRes.less, xfE]
/-! good values made -/
theorem row_tabs {d : D} {r : List Int} (h : Row d r) : tab_list.lookup (tyK d) = some false ∧ tab_dict.lookup (tyK d) = some false ∧ tab_Tag.lookup (tyK d) = some false := by
  cases h <;> exact ⟨rfl, rfl, rfl⟩
theorem e_encoded {w : World} {k : Nat} {d : D} {r : List Int} (h : Row d r) : m_encoded w (k + 1) [.fr d] = .ok (.fr (.list (r.map .int))) [.fr d] := by
  obtain ⟨a, b, c⟩ := row_tabs h
  simp [m_encoded, b_encoded, runF, frees, back, sSeq, sIf, sRet, sRetL, sRetS, sRetN, sNil, sEx, sSet, sSetL, sAsg, sPar, sPar3, sPut, sRaise, sBk, sCt, sStuck, eStuck, asB, tru, truSl, andT, orT, notT, andE, orE, notE, ifE, bin2, bin2L, un1, rd, cst, frz, lstL, tupE, vNil, vCons, calB, calL, callE, callL, appE, appL, resolve, slotsOf, putA, aSl, aVal, aNil, has?, isOw, chn, ixSl, lenSl, mtS, tName, tTupl, tCons, tNil, itE, rng1, rng2, slE, oSome, oNone, Res.bind, Res.thn, Res.lift, SRes.seq, loopR, Sl.toD, O.toD, mkE, mkApp, mkLE, cmethE, methE, sFldM, sForT, isiE, isiTE, joinE, indexE, lcL, emp, yes, a, b, c, truD, e_scalar_row h]
theorem Row.sc {d : D} {r : List Int} (h : Row d r) : Sc d := by
  cases h with
  | non => exact .non
  | bl b => exact .bl b
  | pos n hn =>
    have : (n : Int) < 256 ^ 63 := by exact_mod_cast hn
    exact .int (by omega) this
  | neg n hn =>
    have : (n : Int) < 256 ^ 63 := by exact_mod_cast hn
    exact .int (by omega) (by omega)
  | tup a b => exact .tup a b
  | str a b => exact .str a b
theorem Row.first {d : D} {r : List Int} (h : Row d r) : ∃ (k : Nat) (t : List Int) (z : Str), r = (k : Int) :: t ∧ atI (vKINDS.map D.str) (k : Int) = some (.str z) := by
  cases h with
  | non => exact ⟨1, _, _, rfl, rfl⟩
  | bl b =>
    cases b
    · exact ⟨2, _, _, rfl, rfl⟩
    · exact ⟨3, _, _, rfl, rfl⟩
  | pos n hn => exact ⟨5, _, _, rfl, rfl⟩
  | neg n hn => exact ⟨4, _, _, rfl, rfl⟩
  | tup a b => exact ⟨6, _, _, rfl, rfl⟩
  | str a b => exact ⟨7, _, _, rfl, rfl⟩
theorem atI_zero {α : Type} (x : α) (xs : List α) : atI (x :: xs) 0 = some x := atI_nat (j := 0) rfl
theorem e_doc_init {k : Int} {t : List Int} {z : Str} (h : atI (vKINDS.map D.str) k = some (.str z)) : m_Document___init__ [.ow (.ins "Document" []), .fr (.tup ((k :: t).map .int))] = .ok (.fr .non) [.ow (.ins "Document" [("data", .tup ((k :: t).map .int)), ("kind", .str z)]), .fr (.tup ((k :: t).map .int))] := by
  have i1 : ixD (.tup (.int k :: t.map .int)) (.int 0) = some (.int k) := atI_zero _ _
  have i2 : ixD (.tup (vKINDS.map .str)) (.int k) = some (.str z) := h
  have ne : ¬ (("data" : Str) = "kind") := by decide +kernel
  simp [m_Document___init__, b_Document___init__, runF, frees, back, sSeq, sIf, sRet, sRetL, sRetS, sRetN, sNil, sEx, sSet, sSetL, sAsg, sPar, sPar3, sPut, sRaise, sBk, sCt, sStuck, eStuck, asB, tru, truSl, andT, orT, notT, andE, orE, notE, ifE, bin2, bin2L, un1, rd, cst, frz, lstL, tupE, vNil, vCons, calB, calL, callE, callL, appE, appL, resolve, slotsOf, putA, aSl, aVal, aNil, has?, isOw, chn, ixSl, lenSl, mtS, tName, tTupl, tCons, tNil, itE, rng1, rng2, slE, oSome, oNone, Res.bind, Res.thn, Res.lift, SRes.seq, loopR, Sl.toD, O.toD, mkE, mkApp, mkLE, cmethE, methE, sFldM, sForT, isiE, isiTE, joinE, indexE, lcL, emp, yes, i1, i2, putFD, ne]
/-- what has a document -/
structure Doc9 (w : World) (d : D) : Prop where
  fb : ∃ n, n ≤ 12 ∧ FB w d .non n
  enc : ∃ (k : Nat) (t : List Int) (z : Str), (m_encoded w 4 [.fr d] = .ok (.fr (.list (((k : Int) :: t).map .int))) [.fr d] ∨ m_encoded w 4 [.fr d] = .ok (.ow (.lst (((k : Int) :: t).map .int))) [.fr d]) ∧ atI (vKINDS.map D.str) (k : Int) = some (.str z)
theorem made_row {w : World} {d : D} {r : List Int} (h : Row d r) : Doc9 w d := by
  obtain ⟨k, t, z, rfl, hz⟩ := h.first
  exact ⟨⟨1, by omega, fb_good h.sc⟩, k, t, z, .inl (e_encoded h), hz⟩
theorem Doc9.doc {w : World} {d : D} (h : Doc9 w d) : ∃ fs : List (Str × D), m_Document_of w [.fr (.cls "Document"), .fr d] = .ok (.fr (.ins "Document" fs)) [.fr (.cls "Document"), .fr d] := by
  obtain ⟨n, hn, f⟩ := h.fb
  obtain ⟨k, t, z, e, hz⟩ := h.enc
  have e1 := f 12 24 hn (by omega)
  have c : m_checked_row w [.fr d] = .ok (.fr (.tup (((k : Int) :: t).map .int))) [.fr d] := by
    simp only [List.map_cons] at e ⊢
    rcases e with e | e
    · simp [m_checked_row, b_checked_row, runF, frees, back, sSeq, sIf, sRet, sRetL, sRetS, sRetN, sNil, sEx, sSet, sSetL, sAsg, sPar, sPar3, sPut, sRaise, sBk, sCt, sStuck, eStuck, asB, tru, truSl, truD, andT, orT, notT, andE, orE, notE, ifE, bin2, bin2L, un1, rd, cst, frz, lstL, tupE, vNil, vCons, calB, calL, callE, callL, appE, appL, resolve, slotsOf, putA, aSl, aVal, aNil, has?, isOw, chn, ixSl, lenSl, mtS, tName, tTupl, tCons, tNil, itE, walkD, rng1, rng2, slE, oSome, oNone, Res.bind, Res.thn, Res.lift, SRes.seq, loopR, Sl.toD, O.toD, fAppend, fReverse, fExtend, fPop, fClear, addD, catD, subD, intD, mulD, fdivD, modD, powD, shrD, andD, cmpD, leD, gtD, geD, ltD, eqD, neD, eqB, isD, isNotD, isNonB, negD, lenB, lenD, absB, max2, min2, intB, boolB, ordB, tupleB, listB, mkE, mkApp, mkLE, cmethE, methE, sFldM, putFD, fldD, sForT, isiE, isiTE, tyK, ixD, slD, joinE, indexE, lcL, emp, yes, e1, e]
    · simp [m_checked_row, b_checked_row, runF, frees, back, sSeq, sIf, sRet, sRetL, sRetS, sRetN, sNil, sEx, sSet, sSetL, sAsg, sPar, sPar3, sPut, sRaise, sBk, sCt, sStuck, eStuck, asB, tru, truSl, truD, andT, orT, notT, andE, orE, notE, ifE, bin2, bin2L, un1, rd, cst, frz, lstL, tupE, vNil, vCons, calB, calL, callE, callL, appE, appL, resolve, slotsOf, putA, aSl, aVal, aNil, has?, isOw, chn, ixSl, lenSl, mtS, tName, tTupl, tCons, tNil, itE, walkD, rng1, rng2, slE, oSome, oNone, Res.bind, Res.thn, Res.lift, SRes.seq, loopR, Sl.toD, O.toD, fAppend, fReverse, fExtend, fPop, fClear, addD, catD, subD, intD, mulD, fdivD, modD, powD, shrD, andD, cmpD, leD, gtD, geD, ltD, eqD, neD, eqB, isD, isNotD, isNonB, negD, lenB, lenD, absB, max2, min2, intB, boolB, ordB, tupleB, listB, mkE, mkApp, mkLE, cmethE, methE, sFldM, putFD, fldD, sForT, isiE, isiTE, tyK, ixD, slD, joinE, indexE, lcL, emp, yes, e1, e]
  have i := e_doc_init (t := t) hz
  simp only [List.map_cons] at c i
  refine ⟨[("data", .tup (.int (k : Int) :: t.map .int)), ("kind", .str z)], ?_⟩
  simp [m_Document_of, b_Document_of, runF, frees, back, sSeq, sIf, sRet, sRetL, sRetS, sRetN, sNil, sEx, sSet, sSetL, sAsg, sPar, sPar3, sPut, sRaise, sBk, sCt, sStuck, eStuck, asB, tru, truSl, andT, orT, notT, andE, orE, notE, ifE, bin2, bin2L, un1, rd, cst, frz, lstL, tupE, vNil, vCons, calB, calL, callE, callL, appE, appL, resolve, slotsOf, putA, aSl, aVal, aNil, has?, isOw, chn, ixSl, lenSl, mtS, tName, tTupl, tCons, tNil, itE, rng1, rng2, slE, oSome, oNone, Res.bind, Res.thn, Res.lift, SRes.seq, loopR, Sl.toD, O.toD, mkE, mkApp, mkLE, cmethE, methE, sFldM, sForT, isiE, isiTE, joinE, indexE, lcL, emp, yes, c, i]
theorem Doc9.path {w : World} {d : D} (h : Doc9 w d) : m__law_path w [.fr d] = .ok (.fr .non) [.fr d] := by
  obtain ⟨fs, e⟩ := h.doc
  simp [m__law_path, b__law_path, runF, frees, back, sSeq, sIf, sRet, sRetL, sRetS, sRetN, sNil, sEx, sSet, sSetL, sAsg, sPar, sPar3, sPut, sRaise, sBk, sCt, sStuck, eStuck, asB, tru, truSl, andT, orT, notT, andE, orE, notE, ifE, bin2, bin2L, un1, rd, cst, frz, lstL, tupE, vNil, vCons, calB, calL, callE, callL, appE, appL, resolve, slotsOf, putA, aSl, aVal, aNil, has?, isOw, chn, ixSl, lenSl, mtS, tName, tTupl, tCons, tNil, itE, rng1, rng2, slE, oSome, oNone, Res.bind, Res.thn, Res.lift, SRes.seq, loopR, Sl.toD, O.toD, mkE, mkApp, mkLE, cmethE, methE, sFldM, sForT, isiE, isiTE, joinE, indexE, lcL, emp, yes, sTry, e]
theorem made_dict1 {w : World} {a va : D} {ra rv : List Int} {ka : NestedKey} (A : KeyD a ra ka) (V : Row va rv) : Doc9 w (.dict w [(a, va)]) := by
  refine ⟨⟨2, by omega, (nest_dict1 A).good fun q m => ?_⟩, 9, 1 :: (ra ++ rv), "map", .inr ?_, rfl⟩
  · rw [List.mem_singleton.mp m]
    exact fb_good V.sc
  · have l1 := A.row.len
    have l2 := V.len
    have s1 : 1 ≤ sizeLine := by decide
    have s2 : 2 ≤ sizeLine := by decide
    have p1 : m_plain_code [.fr (.int 1)] = .ok (.fr (.list [.int 1])) [.fr (.int 1)] := by
      have := e_plain_code (n := 1) (by decide)
      exact this
    have ln : lenBD [.dict w [(a, va)]] = some (.int 1) := rfl
    have i1 : tab_list.lookup (tyK (.dict w [(a, va)])) = some false := rfl
    have i2 : tab_dict.lookup (tyK (.dict w [(a, va)])) = some true := rfl
    have wk : ∀ zs : List D, walkD (.list zs) = some zs := fun _ => rfl
    have x := dix1 (w := w) (vb := va) A.nk A.small
    have ev : m_encoded w 3 [.fr va] = .ok (.fr (.list (rv.map .int))) [.fr va] := e_encoded (w := w) (k := 2) V
    have un : m_encoded w 4 = runF (b_encoded w (m_encoded w 3)) 4 [1, 2, 3] := rfl
    rw [un]
    generalize m_encoded w 3 = rec at ev ⊢
    have ea := e_scalar_row A.row
    have c1 : catD (.list [.int 9]) (.list [.int 1]) = some [.int 9, .int 1] := by
      simp [catD, s2]
    have f1 : 2 + ra.length ≤ sizeLine := size_1000 (by omega)
    have f2 : ra.length + 1 + 1 + rv.length ≤ sizeLine := size_1000 (by omega)
    have f3 : ra.length + rv.length + 2 ≤ sizeLine := size_1000 (by omega)
    simp [b_encoded, runF, frees, back, sSeq, sIf, sRet, sRetL, sRetS, sRetN, sNil, sEx, sSet, sSetL, sAsg, sPar, sPar3, sPut, sRaise, sBk, sCt, sStuck, eStuck, asB, tru, truSl, andT, orT, notT, andE, orE, notE, ifE, bin2, bin2L, un1, rd, cst, frz, lstL, tupE, vNil, vCons, calB, calL, callE, callL, appE, appL, resolve, slotsOf, putA, aSl, aVal, aNil, has?, isOw, chn, ixSl, lenSl, mtS, tName, tTupl, tCons, tNil, itE, rng1, rng2, slE, oSome, oNone, Res.bind, Res.thn, Res.lift, SRes.seq, loopR, Sl.toD, O.toD, mkE, mkApp, mkLE, cmethE, methE, sFldM, sForT, isiE, isiTE, joinE, indexE, lcL, emp, yes, truD, i1, i2, ln, p1, s1, c1, e_sorted1 A, wk, forT, encoded_b1, ea, ev, x, fExtend, f1, f2, f3]

/-! ### what repr shows -/
theorem dp_ints {K : PySem.W.Frag} {H : Hp} : ∀ ns : List Int, DpAll K H (ns.map V.int) (ns.map PyData.int)
  | [] => .nil
  | n :: r => .cons (.int n) (dp_ints r)
theorem shown_int {n : Int} {B : Nat} (b : 0 < B) (h : n.natAbs.log2 < B) : (PyData.shown (.int n)).length ≤ B + 1 := by
  show (Str.ofString (toString n)).length ≤ B + 1
  rw [PySem.ofString_length]
  exact int_text_length_le b h
theorem shown_ints {B : Nat} (b : 0 < B) : ∀ ns : List Int, (∀ n ∈ ns, n.natAbs.log2 < B) → ((PyData.shownAll (ns.map PyData.int)).map (·.length)).sum ≤ (B + 1) * ns.length ∧ (PyData.shownAll (ns.map PyData.int)).length = ns.length
  | [], _ => ⟨Nat.zero_le _, rfl⟩
  | n :: r, h => by
    obtain ⟨i1, i2⟩ := shown_ints b r fun x m => h x (List.mem_cons_of_mem _ m)
    have i3 := shown_int b (h n List.mem_cons_self)
    refine ⟨?_, ?_⟩
    · show (PyData.shown (.int n)).length + ((PyData.shownAll (r.map PyData.int)).map (·.length)).sum ≤ (B + 1) * (r.length + 1)
      rw [Nat.mul_add]
      omega
    · show (PyData.shownAll (r.map PyData.int)).length + 1 = r.length + 1
      omega
theorem showable_ints : ∀ ns : List Int, (∀ n ∈ ns, n.natAbs.log2 < 1920) → PyData.showableAll (ns.map PyData.int) = true
  | [], _ => rfl
  | n :: r, h => by
    show (PyData.showable (.int n) && PyData.showableAll (r.map PyData.int)) = true
    rw [showable_ints r fun x m => h x (List.mem_cons_of_mem _ m), Bool.and_true]
    exact decide_eq_true (h n List.mem_cons_self)
theorem nodict_ints : ∀ ns : List Int, PyData.hasDictAll (ns.map PyData.int) = false
  | [] => rfl
  | n :: r => by
    show (PyData.hasDict (.int n) || PyData.hasDictAll (r.map PyData.int)) = false
    rw [nodict_ints r]
    rfl
theorem depth_ints : ∀ ns : List Int, PyData.depthAll (ns.map PyData.int) ≤ 1
  | [] => Nat.zero_le _
  | n :: r => by
    have := depth_ints r
    show max (PyData.depth (.int n)) (PyData.depthAll (r.map PyData.int)) ≤ 1
    exact Nat.max_le.mpr ⟨Nat.zero_le _, this⟩
theorem log2_byte {n : Int} (h : 0 ≤ n ∧ n ≤ 255) : n.natAbs.log2 < 8 := by
  obtain ⟨k, rfl⟩ := Int.eq_ofNat_of_zero_le h.1
  have : k < 256 := by omega
  show k.log2 < 8
  by_cases e : k = 0
  · rw [e]
    decide
  · exact (Nat.log2_lt e).mpr this
/-- repr of a list of bytes -/
theorem show_bytes {K : PySem.W.Frag} {H : Hp} {p : Addr} {ns : List Int} (h : SqL K H p (ns.map V.int)) (b : ∀ n ∈ ns, 0 ≤ n ∧ n ≤ 255) (l : ns.length ≤ 100000) : Shows K H (.ref p) (.list (ns.map .int)) where
  dp := .lst h (dp_ints ns)
  ok := showable_ints ns fun n m => Nat.lt_trans (log2_byte (b n m)) (by decide)
  nd := nodict_ints ns
  deep := by
    have := depth_ints ns
    show PyData.depthAll (ns.map .int) + 1 ≤ 100
    omega
  size := by
    obtain ⟨i1, i2⟩ := shown_ints (B := 8) (by decide) ns fun n m => log2_byte (b n m)
    have := listText_len_le (PyData.shownAll (ns.map .int))
    show (listText (PyData.shownAll (ns.map .int))).length ≤ sizeLine
    rw [sizeLine_eq]
    omega
/-- repr of an int -/
theorem show_int {K : PySem.W.Frag} {H : Hp} {n : Int} (h : n.natAbs.log2 < 1920) : Shows K H (.int n) (.int n) :=
  ⟨.int n, decide_eq_true h, rfl, by show 0 ≤ 100; decide, Nat.le_trans (shown_int (B := 1920) (by decide) h) (by rw [sizeLine_eq]; decide)⟩
/-- repr of a list, a tuple of ints -/
theorem show_ilist {K : PySem.W.Frag} {H : Hp} {p : Addr} {ns : List Int} (h : SqL K H p (ns.map V.int)) (b : ∀ n ∈ ns, n.natAbs.log2 < 1920) (l : ns.length ≤ 8000) : Shows K H (.ref p) (.list (ns.map .int)) where
  dp := .lst h (dp_ints ns)
  ok := showable_ints ns b
  nd := nodict_ints ns
  deep := by
    have := depth_ints ns
    show PyData.depthAll (ns.map .int) + 1 ≤ 100
    omega
  size := by
    obtain ⟨i1, i2⟩ := shown_ints (B := 1920) (by decide) ns b
    have := listText_len_le (PyData.shownAll (ns.map .int))
    show (listText (PyData.shownAll (ns.map .int))).length ≤ sizeLine
    rw [sizeLine_eq]
    omega
theorem show_ituple {K : PySem.W.Frag} {H : Hp} {p : Addr} {ns : List Int} (h : SqT K H p (ns.map V.int)) (b : ∀ n ∈ ns, n.natAbs.log2 < 1920) (l : ns.length ≤ 8000) : Shows K H (.ref p) (.tuple (ns.map .int)) where
  dp := .tup h (dp_ints ns)
  ok := showable_ints ns b
  nd := nodict_ints ns
  deep := by
    have := depth_ints ns
    show PyData.depthAll (ns.map .int) + 1 ≤ 100
    omega
  size := by
    obtain ⟨i1, i2⟩ := shown_ints (B := 1920) (by decide) ns b
    have := tupleText_len_le (PyData.shownAll (ns.map .int))
    show (tupleText (PyData.shownAll (ns.map .int))).length ≤ sizeLine
    rw [sizeLine_eq]
    omega
theorem log2_small {z : Int} (hz : z.natAbs < 2 ^ 1900) : z.natAbs.log2 < 1920 := by
  by_cases e : z.natAbs = 0
  · rw [e]
    decide
  · exact Nat.lt_trans ((Nat.log2_lt e).mpr hz) (by decide)
theorem show_none {K : PySem.W.Frag} {H : Hp} : Shows K H .non .none := ⟨.non, rfl, rfl, by show 0 ≤ 100; decide, by show 4 ≤ sizeLine; decide⟩
theorem show_bool {K : PySem.W.Frag} {H : Hp} (b : Bool) : Shows K H (.bl b) (.bool b) := ⟨.bl b, rfl, rfl, by show 0 ≤ 100; decide, by cases b <;> decide +kernel⟩
theorem show_str {K : PySem.W.Frag} {H : Hp} {x : Str} (h : (reprText x).length ≤ sizeLine) : Shows K H (.str x) (.str x) := ⟨.str x, rfl, rfl, by show 0 ≤ 100; decide, h⟩

/-! ### data that can be shown -/
def Pn (B : Nat) (d : D) : Prop := ∃ p, toPy d = some p ∧ p.showable = true ∧ p.hasDict = false ∧ p.depth ≤ 5 ∧ p.shown.length ≤ B
theorem pn_all {B : Nat} : ∀ ds : List D, (∀ d ∈ ds, Pn B d) → ∃ ps, toPys ds = some ps ∧ PyData.showableAll ps = true ∧ PyData.hasDictAll ps = false ∧ PyData.depthAll ps ≤ 5 ∧ ((PyData.shownAll ps).map (·.length)).sum ≤ B * ds.length ∧ (PyData.shownAll ps).length = ds.length
  | [], _ => ⟨[], by simp [toPys], rfl, rfl, Nat.zero_le _, Nat.zero_le _, rfl⟩
  | d :: ds, h => by
    obtain ⟨p, e, a1, a2, a3, a4⟩ := h d List.mem_cons_self
    obtain ⟨ps, e2, b1, b2, b3, b4, b5⟩ := pn_all ds fun x m => h x (List.mem_cons_of_mem _ m)
    refine ⟨p :: ps, by simp [toPys, e, e2], ?_, ?_, ?_, ?_, ?_⟩
    · show (p.showable && PyData.showableAll ps) = true
      rw [a1, b1]; rfl
    · show (p.hasDict || PyData.hasDictAll ps) = false
      rw [a2, b2]; rfl
    · show max p.depth (PyData.depthAll ps) ≤ 5
      exact Nat.max_le.mpr ⟨a3, b3⟩
    · show p.shown.length + ((PyData.shownAll ps).map (·.length)).sum ≤ B * (ds.length + 1)
      rw [Nat.mul_add]
      omega
    · show (PyData.shownAll ps).length + 1 = ds.length + 1
      omega
theorem repr_pn {B : Nat} {ds : List D} (h : ∀ d ∈ ds, Pn B d) (hB : B * ds.length ≤ 1000000) (hl : ds.length ≤ 1000) : ∃ z, reprB [.list ds] = some (.str z) := by
  obtain ⟨ps, e2, b1, b2, b3, b4, b5⟩ := pn_all ds h
  refine ⟨PyData.shown (.list ps), ?_⟩
  have e : toPy (.list ds) = some (.list ps) := by
    rw [toPy, e2]
    rfl
  show ((toPy (.list ds)).bind fun p => if p.showable = true ∧ p.hasDict = false ∧ p.depth ≤ 100 ∧ p.shown.length ≤ sizeLine then some (D.str p.shown) else none) = _
  rw [e]
  refine if_pos ⟨b1, b2, ?_, ?_⟩
  · show PyData.depthAll ps + 1 ≤ 100
    omega
  · have := listText_len_le (PyData.shownAll ps)
    show (listText (PyData.shownAll ps)).length ≤ sizeLine
    rw [sizeLine_eq]
    omega
theorem repr_pnT {B : Nat} {ds : List D} (h : ∀ d ∈ ds, Pn B d) (hB : B * ds.length ≤ 1000000) (hl : ds.length ≤ 1000) : ∃ z, reprB [.tup ds] = some (.str z) := by
  obtain ⟨ps, e2, b1, b2, b3, b4, b5⟩ := pn_all ds h
  refine ⟨PyData.shown (.tuple ps), ?_⟩
  have e : toPy (.tup ds) = some (.tuple ps) := by
    rw [toPy, e2]
    rfl
  show ((toPy (.tup ds)).bind fun p => if p.showable = true ∧ p.hasDict = false ∧ p.depth ≤ 100 ∧ p.shown.length ≤ sizeLine then some (D.str p.shown) else none) = _
  rw [e]
  refine if_pos ⟨b1, b2, ?_, ?_⟩
  · show PyData.depthAll ps + 1 ≤ 100
    omega
  · have := tupleText_len_le (PyData.shownAll ps)
    show (tupleText (PyData.shownAll ps)).length ≤ sizeLine
    rw [sizeLine_eq]
    omega
theorem pn_int {i : Int} (h : i.natAbs < 2 ^ 1900) : Pn 2000 (.int i) :=
  ⟨.int i, rfl, decide_eq_true (log2_small h), rfl, Nat.zero_le _, by
    have := shown_int (n := i) (B := 1920) (by decide) (log2_small h)
    omega⟩
theorem pn_tup {bs : List Int} (hb : ∀ b ∈ bs, 0 ≤ b ∧ b ≤ 255) (hl : bs.length ≤ 100) : Pn 2000 (.tup (bs.map .int)) := by
  obtain ⟨i1, i2⟩ := shown_ints (B := 8) (by decide) bs fun n m => log2_byte (hb n m)
  have e : toPy (.tup (bs.map .int)) = some (.tuple (bs.map .int)) := by
    have gen : ∀ bs : List Int, toPys (bs.map .int) = some (bs.map .int) := by
      intro bs
      induction bs with
      | nil => simp [toPys]
      | cons b bs ih => simp [toPys, toPy, ih]
    rw [toPy, gen]
    rfl
  refine ⟨.tuple (bs.map .int), e, showable_ints bs fun n m => Nat.lt_trans (log2_byte (hb n m)) (by decide), nodict_ints bs, ?_, ?_⟩
  · have := depth_ints bs
    show PyData.depthAll (bs.map PyData.int) + 1 ≤ 5
    omega
  · have := tupleText_len_le (PyData.shownAll (bs.map PyData.int))
    show (tupleText (PyData.shownAll (bs.map PyData.int))).length ≤ 2000
    omega
theorem pn_str {cs : List Nat} (hc : ∀ c ∈ cs, c ∈ charCodes) (hl : cs.length ≤ 100) : Pn 2000 (.str (strOf cs)) := by
  refine ⟨.str (strOf cs), by simp [toPy], rfl, rfl, Nat.zero_le _, ?_⟩
  have := StrLaws.reprText_len (strOf cs) (by
    rw [str_cps]
    intro c m
    have := charCode_bound (hc c m)
    omega)
  rw [str_len] at this
  show (reprText (strOf cs)).length ≤ 2000
  omega

/-! ### bad things drawn -/
theorem fb_dict_bad {w : World} {kvs : List (D × D)} (hl : kvs.length ≤ 1000) (h : ∀ k ∈ kvs.map (·.1), ∃ b, m_is_key [.fr k] = .ok (.fr (.bl b)) [.fr k]) (f : ∃ k ∈ kvs.map (·.1), m_is_key [.fr k] = .ok (.fr (.bl false)) [.fr k]) : FB w (.dict w kvs) (.tup []) 1 := by
  refine fb_dict_key (kb := fun k => match m_is_key [.fr k] with | .ok (.fr (.bl b)) _ => b | _ => false) (fun k m => ?_) hl ?_
  · obtain ⟨b, e⟩ := h k m
    simp [e]
  · obtain ⟨k, m, e⟩ := f
    rw [List.all_eq_false]
    exact ⟨k, m, by simp [e]⟩
theorem byte_any (x : D) (h : ∃ i, x = .int i ∨ x = .non ∨ x = .bl true ∨ x = .str "a" ∨ x = .tup [.int 1]) : m_is_byte [.fr x] = .ok (.fr (.bl (byteB x))) [.fr x] := by
  obtain ⟨i, h⟩ := h
  rcases h with rfl | rfl | rfl | rfl | rfl
  · exact e_is_byte_int i
  · rfl
  · rfl
  · rfl
  · rfl
theorem e_key1 {x : D} (h : ∃ i, x = .int i ∨ x = .non ∨ x = .bl true ∨ x = .str "a" ∨ x = .tup [.int 1]) : m_is_key [.fr (.tup [x])] = .ok (.fr (.bl (byteB x))) [.fr (.tup [x])] := by
  have := e_is_key_any (xs := [x]) (fun y m => by rw [List.mem_singleton.mp m]; exact byte_any x h) (by simp)
  simpa using this
def far : Int := 256 ^ 63
theorem e__law_bad {w : World} {xs : List D} {m : Nat} (hB : BagD xs m) (m1 : m + 8000 < 1048576) : ∃ d ys, m__law_bad w [.ow (.lst xs)] = .ok (.fr d) [.ow (.lst ys)] ∧ FB w d (.tup []) 1 ∧ BagD ys (m + 7000) := by
  obtain ⟨r, x1, e1, r0, r1, hB1⟩ := e__law_take (n := 4) hB (by omega) (by decide) (by decide)
  have s2 : 2 ≤ sizeLine := by decide
  have s1 : 1 ≤ sizeLine := by decide
  have s6 : 6 ≤ sizeLine := by decide
  have s5 : 5 ≤ sizeLine := by decide
  have s7 : 7 ≤ sizeLine := by decide
  have s4 : 4 ≤ sizeLine := by decide
  have s0 : 0 ≤ sizeLine := by decide
  have cp2 : cPow 256 63 = true := by decide
  by_cases h0 : r = 0
  · subst h0
    obtain ⟨n1, x2, e2, hn1, hB2⟩ := e__law_number hB1 (by omega)
    obtain ⟨n2, x3, e3, hn2, hB3⟩ := e__law_number hB2 (by omega)
    obtain ⟨d, x4, e4, mem, hB4⟩ := e__law_of (ds := [.int (256 ^ 63 + n1), .int (-1 - 256 ^ 63 - n2)]) hB3 (by omega) (by simp) (by simp)
    refine ⟨d, x4, ?_, ?_, hB4.more (by omega)⟩
    · simp [m__law_bad, b__law_bad, runF, frees, back, sSeq, sIf, sRet, sRetL, sRetS, sRetN, sNil, sEx, sSet, sSetL, sAsg, sPar, sPar3, sPut, sRaise, sBk, sCt, sStuck, eStuck, asB, tru, truSl, truD, andT, orT, notT, andE, orE, notE, ifE, bin2, bin2L, un1, rd, cst, frz, lstL, tupE, vNil, vCons, calB, calL, callE, callL, appE, appL, resolve, slotsOf, putA, aSl, aVal, aNil, has?, isOw, chn, ixSl, lenSl, mtS, tName, tTupl, tCons, tNil, itE, walkD, rng1, rng2, slE, oSome, oNone, Res.bind, Res.thn, Res.lift, SRes.seq, loopR, Sl.toD, O.toD, fAppend, fReverse, fExtend, fPop, fClear, addD, catD, subD, intD, mulD, fdivD, modD, powD, shrD, andD, cmpD, leD, gtD, geD, ltD, eqD, neD, eqB, isD, isNotD, isNonB, negD, lenB, lenD, absB, max2, min2, intB, boolB, ordB, tupleB, listB, mkE, mkApp, mkLE, cmethE, methE, sFldM, putFD, fldD, sForT, isiE, isiTE, tyK, ixD, slD, joinE, indexE, lcL, emp, yes, e1, e2, e3, e4, s2, cp2, -Int.reducePow]
    · simp only [List.mem_cons, List.not_mem_nil, or_false] at mem
      rcases mem with rfl | rfl
      · exact fb_far (.inr (by omega))
      · exact fb_far (.inl (by omega))
  by_cases h1 : r = 1
  · subst h1
    obtain ⟨b1, x2, e2, l2, hb2, hB2⟩ := e__law_octets (most := 3) hB1 (by omega) (by omega)
    obtain ⟨d, x3, e3, mem, hB3⟩ := e__law_of (ds := [.int 256, .int (-1), .non, .bl true, .str "a", .tup [.int 1]]) hB2 (by omega) (by simp) (by simp)
    obtain ⟨b2, x4, e4, l4, hb4, hB4⟩ := e__law_octets (most := 3) hB3 (by omega) (by omega)
    have f1 : b1.length + 1 ≤ sizeLine := size_1000 (by omega)
    have f2 : b1.length + 1 + b2.length ≤ sizeLine := size_1000 (by omega)
    have f3 : b1.length + (b2.length + 1) ≤ sizeLine := size_1000 (by omega)
    refine ⟨.tup (b1.map .int ++ [d] ++ b2.map .int), x4, ?_, fb_tup ?_ ?_ ?_, hB4.more (by omega)⟩
    · have e2 : m__law_octets [.ow (.lst x1), .fr (.int 3)] = .ok (.fr (.tup (b1.map .int))) [.ow (.lst x2), .fr (.int 3)] := e2
      have e4 : m__law_octets [.ow (.lst x3), .fr (.int 3)] = .ok (.fr (.tup (b2.map .int))) [.ow (.lst x4), .fr (.int 3)] := e4
      simp [m__law_bad, b__law_bad, runF, frees, back, sSeq, sIf, sRet, sRetL, sRetS, sRetN, sNil, sEx, sSet, sSetL, sAsg, sPar, sPar3, sPut, sRaise, sBk, sCt, sStuck, eStuck, asB, tru, truSl, truD, andT, orT, notT, andE, orE, notE, ifE, bin2, bin2L, un1, rd, cst, frz, lstL, tupE, vNil, vCons, calB, calL, callE, callL, appE, appL, resolve, slotsOf, putA, aSl, aVal, aNil, has?, isOw, chn, ixSl, lenSl, mtS, tName, tTupl, tCons, tNil, itE, walkD, rng1, rng2, slE, oSome, oNone, Res.bind, Res.thn, Res.lift, SRes.seq, loopR, Sl.toD, O.toD, fAppend, fReverse, fExtend, fPop, fClear, addD, catD, subD, intD, mulD, fdivD, modD, powD, shrD, andD, cmpD, leD, gtD, geD, ltD, eqD, neD, eqB, isD, isNotD, isNonB, negD, lenB, lenD, absB, max2, min2, intB, boolB, ordB, tupleB, listB, mkE, mkApp, mkLE, cmethE, methE, sFldM, putFD, fldD, sForT, isiE, isiTE, tyK, ixD, slD, joinE, indexE, lcL, emp, yes, e1, e2, e3, e4, s1, s6, f1, f2, f3]
    · intro x mx
      rcases List.mem_append.mp mx with mx | mx
      · rcases List.mem_append.mp mx with mx | mx
        · obtain ⟨b, _, rfl⟩ := List.mem_map.mp mx
          exact e_is_byte_int b
        · rw [List.mem_singleton.mp mx]
          refine byte_any d ?_
          simp only [List.mem_cons, List.not_mem_nil, or_false] at mem
          rcases mem with rfl | rfl | rfl | rfl | rfl | rfl
          · exact ⟨_, .inl rfl⟩
          · exact ⟨_, .inl rfl⟩
          · exact ⟨0, .inr (.inl rfl)⟩
          · exact ⟨0, .inr (.inr (.inl rfl))⟩
          · exact ⟨0, .inr (.inr (.inr (.inl rfl)))⟩
          · exact ⟨0, .inr (.inr (.inr (.inr rfl)))⟩
      · obtain ⟨b, _, rfl⟩ := List.mem_map.mp mx
        exact e_is_byte_int b
    · simp only [List.length_append, List.length_map, List.length_cons, List.length_nil]
      omega
    · rw [List.all_eq_false]
      refine ⟨d, by simp, ?_⟩
      simp only [List.mem_cons, List.not_mem_nil, or_false] at mem
      rcases mem with rfl | rfl | rfl | rfl | rfl | rfl <;> decide
  by_cases h2 : r = 2
  · subst h2
    obtain ⟨v, x2, e2, v0, v1, hB2⟩ := e__law_integer hB1 (by omega)
    obtain ⟨rv, hv⟩ := (Sc.int v0 v1).row
    obtain ⟨fs, e3⟩ := (made_row (w := w) hv).doc
    have p1 : dPuts [(.bl true, .int 1)] [] = some [(.bl true, .int 1)] := dPuts1 (ka := .num 1) (by simp [nkOf]) (by simp [NestedKey.depth])
    have p2 : dPuts [(.non, .int 1), (.int 2, .int 3)] [] = some [(.non, .int 1), (.int 2, .int 3)] := dPuts2 (kb := .none) (ka := .num 2) (by simp [nkOf]) (by simp [nkOf]) (by simp [NestedKey.depth]) (by simp [NestedKey.depth]) (by simp)
    have p3 : dPuts [(.tup [.int 5, .int 256], .int 1)] [] = some [(.tup [.int 5, .int 256], .int 1)] := dPuts1 (ka := .tup [.num 5, .num 256]) (by simp [nkOf, nksOf]) (by simp [NestedKey.depth, NestedKey.depthAll])
    have p4 : dPuts [(.tup [.bl true], .int 1)] [] = some [(.tup [.bl true], .int 1)] := dPuts1 (ka := .tup [.num 1]) (by simp [nkOf, nksOf]) (by simp [NestedKey.depth, NestedKey.depthAll])
    have p5 : dPuts [(.int 5, .tup [.int 256]), (.bl true, .int 1)] [] = some [(.int 5, .tup [.int 256]), (.bl true, .int 1)] := dPuts2 (kb := .num 5) (ka := .num 1) (by simp [nkOf]) (by simp [nkOf]) (by simp [NestedKey.depth]) (by simp [NestedKey.depth]) (by simp)
    have p6 : dPuts [(.str "a", .list [.tup [.int 256]]), (.tup [], .int 1), (.non, .int 2)] [] = some [(.str "a", .list [.tup [.int 256]]), (.tup [], .int 1), (.non, .int 2)] := by
      simp [dPuts, nkOf, nksOf, NestedKey.depth, NestedKey.depthAll, dPut]
    obtain ⟨d, x4, e4, mem, hB4⟩ := e__law_of (ds := [.ins "Document" fs, .dict w [(.bl true, .int 1)], .dict w [(.non, .int 1), (.int 2, .int 3)], .dict w [(.tup [.int 5, .int 256], .int 1)], .dict w [(.tup [.bl true], .int 1)], .dict w [(.int 5, .tup [.int 256]), (.bl true, .int 1)], .dict w [(.str "a", .list [.tup [.int 256]]), (.tup [], .int 1), (.non, .int 2)]]) hB2 (by omega) (by simp) (by simp)
    refine ⟨d, x4, ?_, ?_, hB4.more (by omega)⟩
    · simp [m__law_bad, b__law_bad, runF, frees, back, sSeq, sIf, sRet, sRetL, sRetS, sRetN, sNil, sEx, sSet, sSetL, sAsg, sPar, sPar3, sPut, sRaise, sBk, sCt, sStuck, eStuck, asB, tru, truSl, truD, andT, orT, notT, andE, orE, notE, ifE, bin2, bin2L, un1, rd, cst, frz, lstL, tupE, vNil, vCons, calB, calL, callE, callL, appE, appL, resolve, slotsOf, putA, aSl, aVal, aNil, has?, isOw, chn, ixSl, lenSl, mtS, tName, tTupl, tCons, tNil, itE, walkD, rng1, rng2, slE, oSome, oNone, Res.bind, Res.thn, Res.lift, SRes.seq, loopR, Sl.toD, O.toD, fAppend, fReverse, fExtend, fPop, fClear, addD, catD, subD, intD, mulD, fdivD, modD, powD, shrD, andD, cmpD, leD, gtD, geD, ltD, eqD, neD, eqB, isD, isNotD, isNonB, negD, lenB, lenD, absB, max2, min2, intB, boolB, ordB, tupleB, listB, mkE, mkApp, mkLE, cmethE, methE, sFldM, putFD, fldD, sForT, isiE, isiTE, tyK, ixD, slD, joinE, indexE, lcL, emp, yes, e1, e2, e3, e4, s1, s2, s5, s7, frzN, dispN, evPairs, p1, p2, p3, p4, p5, p6]
    · simp only [List.mem_cons, List.not_mem_nil, or_false] at mem
      rcases mem with rfl | rfl | rfl | rfl | rfl | rfl | rfl
      · exact fb_doc fs
      · exact fb_dict_bad (by simp) (by simp [e_is_key_bl]) ⟨.bl true, by simp, e_is_key_bl true⟩
      · exact fb_dict_bad (by simp) (by simp [e_is_key_non, e_is_key_int]) ⟨.non, by simp, e_is_key_non⟩
      · have k := e_is_key_any (xs := [.int 5, .int 256]) (fun y m => by
          simp only [List.mem_cons, List.not_mem_nil, or_false] at m
          rcases m with rfl | rfl <;> exact e_is_byte_int _) (by simp)
        have k : m_is_key [.fr (.tup [.int 5, .int 256])] = .ok (.fr (.bl false)) [.fr (.tup [.int 5, .int 256])] := k
        exact fb_dict_bad (by simp) (by simp [k]) ⟨_, by simp, k⟩
      · have k := e_key1 (x := .bl true) ⟨0, .inr (.inr (.inl rfl))⟩
        have k : m_is_key [.fr (.tup [.bl true])] = .ok (.fr (.bl false)) [.fr (.tup [.bl true])] := k
        exact fb_dict_bad (by simp) (by simp [k]) ⟨_, by simp, k⟩
      · exact fb_dict_bad (by simp) (by simp [e_is_key_bl, e_is_key_int]) ⟨.bl true, by simp, e_is_key_bl true⟩
      · have k1 : m_is_key [.fr (.tup [])] = .ok (.fr (.bl true)) [.fr (.tup [])] := e_is_key_tup (bs := []) (by simp) (by simp)
        have k2 : m_is_key [.fr (.str "a")] = .ok (.fr (.bl true)) [.fr (.str "a")] := e_is_key_str (cs := [97]) (by decide +kernel) (by simp)
        exact fb_dict_bad (by simp) (by simp [e_is_key_non, k1, k2]) ⟨.non, by simp, e_is_key_non⟩
  · have h3 : r = 3 := by omega
    subst h3
    obtain ⟨d, x2, e2, mem, hB2⟩ := e__law_of (ds := [.bl false, .int (256 ^ 63), .tup [.non], .int (-1 - 256 ^ 63)]) hB1 (by omega) (by simp) (by simp)
    obtain ⟨v, x3, e3, v0, v1, hB3⟩ := e__law_integer hB2 (by omega)
    obtain ⟨k, hk, hd, bad⟩ : ∃ k, nkOf d = some k ∧ k.depth ≤ 8 ∧ m_is_key [.fr d] = .ok (.fr (.bl false)) [.fr d] := by
      simp only [List.mem_cons, List.not_mem_nil, or_false] at mem
      rcases mem with rfl | rfl | rfl | rfl
      · exact ⟨.num 0, by simp [nkOf], by simp [NestedKey.depth], e_is_key_bl false⟩
      · exact ⟨.num (256 ^ 63), by simp only [nkOf], by simp only [NestedKey.depth]; omega, e_is_key_far (.inr (by omega))⟩
      · exact ⟨.tup [.none], by simp [nkOf, nksOf], by simp [NestedKey.depth, NestedKey.depthAll], e_key1 (x := .non) ⟨0, .inr (.inl rfl)⟩⟩
      · exact ⟨.num (-1 - 256 ^ 63), by simp only [nkOf], by simp only [NestedKey.depth]; omega, e_is_key_far (.inl (by omega))⟩
    have good := e_is_key_int v0 v1
    have kv : nkOf (.int v) = some (.num v) := by simp [nkOf]
    have dv : (NestedKey.num v).depth ≤ 8 := by simp [NestedKey.depth]
    obtain ⟨kvs, hp, hf⟩ : ∃ kvs, dPuts [(d, .int 5), (.int v, .int 6)] [] = some kvs ∧ FB w (.dict w kvs) (.tup []) 1 := by
      by_cases c : k = .num v
      · refine ⟨[(d, .int 6)], by simp [dPuts, hk, hd, dPut, kv, dv, c], fb_dict_bad (by simp) (by simp [bad]) ⟨d, by simp, bad⟩⟩
      · refine ⟨[(d, .int 5), (.int v, .int 6)], by simp [dPuts, hk, hd, dPut, kv, dv, c], fb_dict_bad (by simp) (by simp [bad, good]) ⟨d, by simp, bad⟩⟩
    refine ⟨_, x3, ?_, hf, hB3.more (by omega)⟩
    simp [m__law_bad, b__law_bad, runF, frees, back, sSeq, sIf, sRet, sRetL, sRetS, sRetN, sNil, sEx, sSet, sSetL, sAsg, sPar, sPar3, sPut, sRaise, sBk, sCt, sStuck, eStuck, asB, tru, truSl, truD, andT, orT, notT, andE, orE, notE, ifE, bin2, bin2L, un1, rd, cst, frz, lstL, tupE, vNil, vCons, calB, calL, callE, callL, appE, appL, resolve, slotsOf, putA, aSl, aVal, aNil, has?, isOw, chn, ixSl, lenSl, mtS, tName, tTupl, tCons, tNil, itE, walkD, rng1, rng2, slE, oSome, oNone, Res.bind, Res.thn, Res.lift, SRes.seq, loopR, Sl.toD, O.toD, fAppend, fReverse, fExtend, fPop, fClear, addD, catD, subD, intD, mulD, fdivD, modD, powD, shrD, andD, cmpD, leD, gtD, geD, ltD, eqD, neD, eqB, isD, isNotD, isNonB, negD, lenB, lenD, absB, max2, min2, intB, boolB, ordB, tupleB, listB, mkE, mkApp, mkLE, cmethE, methE, sFldM, putFD, fldD, sForT, isiE, isiTE, tyK, ixD, slD, joinE, indexE, lcL, emp, yes, e1, e2, e3, s1, s4, cp2, frzN, dispN, evPairs, hp, -Int.reducePow]

/-! ### pairs of keys, rounds -/
theorem str_a (cs : List Nat) : strOf cs ++ ("a" : Str) = strOf (cs ++ [97]) := by
  show Str.mk (cs.toArray ++ #[97]) = Str.mk (cs ++ [97]).toArray
  simp
theorem pn_int63 {i : Int} (a : -(256 ^ 63) ≤ i) (b : i < 256 ^ 63) : Pn 2000 (.int i) := by
  refine pn_int ?_
  have h : i.natAbs ≤ 256 ^ 63 := by
    have : (i.natAbs : Int) ≤ 256 ^ 63 := by omega
    exact_mod_cast this
  exact Nat.lt_of_le_of_lt h (by decide)
theorem e__law_pair {xs : List D} {m : Nat} (hB : BagD xs m) (m1 : m + 9000 < 1048576) : ∃ a b ys, m__law_pair [.ow (.lst xs)] = .ok (.fr (.list [a, b])) [.ow (.lst ys)] ∧ Pair9 a b ∧ Pn 2000 a ∧ Pn 2000 b ∧ BagD ys (m + 7000) := by
  obtain ⟨r, x1, e1, r0, r1, hB1⟩ := e__law_take (n := 4) hB (by omega) (by decide) (by decide)
  obtain ⟨v, x2, e2, v0, v1, hB2⟩ := e__law_integer hB1 (by omega)
  have s2 : 2 ≤ sizeLine := by decide
  have cd : cDiv v 2 = true := by
    unfold cDiv
    exact decide_eq_true ⟨by decide, by decide⟩
  obtain ⟨low, hlow, l0, l1⟩ : ∃ low, v.fdiv 2 = low ∧ -(256 ^ 63) ≤ low ∧ low + 400 < 256 ^ 63 := by
    refine ⟨_, rfl, ?_, ?_⟩ <;> rw [Int.fdiv_eq_ediv_of_nonneg v (by decide)] <;> omega
  have fd : fdivD (.int v) (.int 2) = some (.int low) := by
    simp [fdivD, intD, cd, hlow]
  by_cases h0 : r = 0
  · subst h0
    obtain ⟨t, x3, e3, t0, t1, hB3⟩ := e__law_take (n := 300) hB2 (by omega) (by decide) (by decide)
    refine ⟨.int low, .int (low + 1 + t), x3, ?_, Pair9.ints (by omega) (by omega) (by omega) (by omega) (by omega), pn_int63 (by omega) (by omega), pn_int63 (by omega) (by omega), hB3.more (by omega)⟩
    simp [m__law_pair, b__law_pair, runF, frees, back, sSeq, sIf, sRet, sRetL, sRetS, sRetN, sNil, sEx, sSet, sSetL, sAsg, sPar, sPar3, sPut, sRaise, sBk, sCt, sStuck, eStuck, asB, tru, truSl, andT, orT, notT, andE, orE, notE, ifE, bin2, bin2L, un1, rd, cst, frz, lstL, tupE, vNil, vCons, calB, calL, callE, callL, appE, appL, resolve, slotsOf, putA, aSl, aVal, aNil, has?, isOw, chn, ixSl, lenSl, mtS, tName, tTupl, tCons, tNil, itE, rng1, rng2, slE, oSome, oNone, Res.bind, Res.thn, Res.lift, SRes.seq, loopR, Sl.toD, O.toD, mkE, mkApp, mkLE, cmethE, methE, sFldM, sForT, isiE, isiTE, joinE, indexE, lcL, emp, yes, e1, e2, e3, fd, eqD, eqB, addD_int, s2]
  by_cases h1 : r = 1
  · subst h1
    obtain ⟨cs, x3, e3, cl, hc, hB3⟩ := e__law_text (most := 3) hB2 (by omega) (by omega)
    obtain ⟨bs, x4, e4, bl, hb, hB4⟩ := e__law_octets (most := 3) hB3 (by omega) (by omega)
    obtain ⟨d, x5, e5, mem, hB5⟩ := e__law_of (ds := [.str (strOf cs), .tup (bs.map .int)]) hB4 (by omega) (by simp) (by simp)
    have e3 : m__law_text [.ow (.lst x2), .fr (.int 3)] = .ok (.fr (.str (strOf cs))) [.ow (.lst x3), .fr (.int 3)] := e3
    have e4 : m__law_octets [.ow (.lst x3), .fr (.int 3)] = .ok (.fr (.tup (bs.map .int))) [.ow (.lst x4), .fr (.int 3)] := e4
    refine ⟨.int low, d, x5, ?_, ?_, pn_int63 (by omega) (by omega), ?_, hB5.more (by omega)⟩
    · simp [m__law_pair, b__law_pair, runF, frees, back, sSeq, sIf, sRet, sRetL, sRetS, sRetN, sNil, sEx, sSet, sSetL, sAsg, sPar, sPar3, sPut, sRaise, sBk, sCt, sStuck, eStuck, asB, tru, truSl, andT, orT, notT, andE, orE, notE, ifE, bin2, bin2L, un1, rd, cst, frz, lstL, tupE, vNil, vCons, calB, calL, callE, callL, appE, appL, resolve, slotsOf, putA, aSl, aVal, aNil, has?, isOw, chn, ixSl, lenSl, mtS, tName, tTupl, tCons, tNil, itE, rng1, rng2, slE, oSome, oNone, Res.bind, Res.thn, Res.lift, SRes.seq, loopR, Sl.toD, O.toD, mkE, mkApp, mkLE, cmethE, methE, sFldM, sForT, isiE, isiTE, joinE, indexE, lcL, emp, yes, e1, e2, e3, e4, e5, fd, eqD, eqB, s2]
    · simp only [List.mem_cons, List.not_mem_nil, or_false] at mem
      rcases mem with rfl | rfl
      · exact Pair9.int_str (by omega) (by omega) hc (by omega)
      · exact Pair9.int_tup (by omega) (by omega) hb (by omega)
    · simp only [List.mem_cons, List.not_mem_nil, or_false] at mem
      rcases mem with rfl | rfl
      · exact pn_str hc (by omega)
      · exact pn_tup hb (by omega)
  by_cases h2 : r = 2
  · subst h2
    obtain ⟨bs, x3, e3, bl, hb, hB3⟩ := e__law_octets (most := 3) hB2 (by omega) (by omega)
    obtain ⟨cs, x4, e4, cl, hc, hB4⟩ := e__law_text (most := 3) hB3 (by omega) (by omega)
    have e3 : m__law_octets [.ow (.lst x2), .fr (.int 3)] = .ok (.fr (.tup (bs.map .int))) [.ow (.lst x3), .fr (.int 3)] := e3
    have e4 : m__law_text [.ow (.lst x3), .fr (.int 3)] = .ok (.fr (.str (strOf cs))) [.ow (.lst x4), .fr (.int 3)] := e4
    refine ⟨_, _, x4, ?_, Pair9.tup_str hb (by omega) hc (by omega), pn_tup hb (by omega), pn_str hc (by omega), hB4.more (by omega)⟩
    simp [m__law_pair, b__law_pair, runF, frees, back, sSeq, sIf, sRet, sRetL, sRetS, sRetN, sNil, sEx, sSet, sSetL, sAsg, sPar, sPar3, sPut, sRaise, sBk, sCt, sStuck, eStuck, asB, tru, truSl, andT, orT, notT, andE, orE, notE, ifE, bin2, bin2L, un1, rd, cst, frz, lstL, tupE, vNil, vCons, calB, calL, callE, callL, appE, appL, resolve, slotsOf, putA, aSl, aVal, aNil, has?, isOw, chn, ixSl, lenSl, mtS, tName, tTupl, tCons, tNil, itE, rng1, rng2, slE, oSome, oNone, Res.bind, Res.thn, Res.lift, SRes.seq, loopR, Sl.toD, O.toD, mkE, mkApp, mkLE, cmethE, methE, sFldM, sForT, isiE, isiTE, joinE, indexE, lcL, emp, yes, e1, e2, e3, e4, fd, eqD, eqB, s2]
  · have h3 : r = 3 := by omega
    subst h3
    obtain ⟨cs, x3, e3, cl, hc, hB3⟩ := e__law_text (most := 4) hB2 (by omega) (by omega)
    have e3 : m__law_text [.ow (.lst x2), .fr (.int 4)] = .ok (.fr (.str (strOf cs))) [.ow (.lst x3), .fr (.int 4)] := e3
    have hc' : ∀ c ∈ cs ++ [97], c ∈ charCodes := by
      intro c m
      rcases List.mem_append.mp m with m | m
      · exact hc c m
      · rw [List.mem_singleton.mp m]
        decide +kernel
    have ad : addD (.str (strOf cs)) (.str "a") = some (.str (strOf (cs ++ [97]))) := by
      rw [← str_a]
      exact addD_str (by rw [str_len]; exact size_1000 (by show cs.length + 1 ≤ 100000; omega))
    refine ⟨.str (strOf cs), .str (strOf (cs ++ [97])), x3, ?_, Pair9.strs hc (by omega) hc' (by simp; omega) (by simp), pn_str hc (by omega), pn_str hc' (by simp; omega), hB3.more (by omega)⟩
    simp [m__law_pair, b__law_pair, runF, frees, back, sSeq, sIf, sRet, sRetL, sRetS, sRetN, sNil, sEx, sSet, sSetL, sAsg, sPar, sPar3, sPut, sRaise, sBk, sCt, sStuck, eStuck, asB, tru, truSl, andT, orT, notT, andE, orE, notE, ifE, bin2, bin2L, un1, rd, cst, frz, lstL, tupE, vNil, vCons, calB, calL, callE, callL, appE, appL, resolve, slotsOf, putA, aSl, aVal, aNil, has?, isOw, chn, ixSl, lenSl, mtS, tName, tTupl, tCons, tNil, itE, rng1, rng2, slE, oSome, oNone, Res.bind, Res.thn, Res.lift, SRes.seq, loopR, Sl.toD, O.toD, mkE, mkApp, mkLE, cmethE, methE, sFldM, sForT, isiE, isiTE, joinE, indexE, lcL, emp, yes, e1, e2, e3, fd, eqD, eqB, s2, ad]
theorem rnd_items {w : World} {n : Nat} (hn : n ≤ 3) {xs : List D} {m : Nat} {s1 s2 : Sl} (hB : BagD xs m) (m1 : m + 1000 < 1048576) :
    ∃ (ds ys : List D), lcM [3] (tName 3) yes (_law_round_e0 w) ((List.range n).map fun (k : Nat) => D.int k) [] [some (.ow (.lst xs)), some s1, some s2, none, none, none, none] = .ok ds [some (.ow (.lst ys)), some s1, some s2, none, none, none, none] ∧ ds.length = n ∧ (∀ d ∈ ds, Sc d) ∧ BagD ys (m + 400) := by
  have st : ∀ (j : Nat) (x : D) (l : Ld), ((List.range n).map fun (k : Nat) => D.int k)[j]? = some x → (∃ ys, l = [some (.ow (.lst ys)), some s1, some s2, none, none, none, none] ∧ BagD ys (m + 100 * j)) →
      ∃ l1 l2 d l3, tName 3 x l = some l1 ∧ yes l1 = .ok true l2 ∧ _law_round_e0 w l2 = .ok d l3 ∧ Sc d ∧ ∃ ys, clr [3] l3 = [some (.ow (.lst ys)), some s1, some s2, none, none, none, none] ∧ BagD ys (m + 100 * (j + 1)) := by
    rintro j x l hx ⟨ys, rfl, hB2⟩
    obtain ⟨hj, rfl⟩ := range_lt hx
    obtain ⟨v, x2, e2, v0, v1, hB3⟩ := e__law_integer hB2 (by omega)
    refine ⟨_, _, .int v, [some (.ow (.lst x2)), some s1, some s2, some (.fr (.int j)), none, none, none], rfl, rfl, ?_, .int v0 v1, x2, rfl, hB3.more (by omega)⟩
    simp [_law_round_e0, runF, frees, back, sSeq, sIf, sRet, sRetL, sRetS, sRetN, sNil, sEx, sSet, sSetL, sAsg, sPar, sPar3, sPut, sRaise, sBk, sCt, sStuck, eStuck, asB, tru, truSl, andT, orT, notT, andE, orE, notE, ifE, bin2, bin2L, un1, rd, cst, frz, lstL, tupE, vNil, vCons, calB, calL, callE, callL, appE, appL, resolve, slotsOf, putA, aSl, aVal, aNil, has?, isOw, chn, ixSl, lenSl, mtS, tName, tTupl, tCons, tNil, itE, rng1, rng2, slE, oSome, oNone, Res.bind, Res.thn, Res.lift, SRes.seq, loopR, Sl.toD, O.toD, mkE, mkApp, mkLE, cmethE, methE, sFldM, sForT, isiE, isiTE, joinE, indexE, lcL, emp, yes, e2]
  obtain ⟨ds, l', e, n', p, x2, rfl, hB2⟩ := lcM_at (vs := [3]) (t := tName 3) (c := yes) (e := _law_round_e0 w) (l := [some (.ow (.lst xs)), some s1, some s2, none, none, none, none]) _ _ ⟨xs, rfl, hB.more (by omega)⟩ (by rw [List.length_map, List.length_range]; exact size_1000 (by omega)) st
  rw [List.length_map, List.length_range] at n' hB2
  exact ⟨ds, x2, e, n', p, hB2.more (by omega)⟩
theorem e__law_round {w : World} {xs : List D} {m : Nat} {v x : D} (hB : BagD xs m) (m1 : m + 20000 < 1048576) : ∃ s d ys, m__law_round w [.ow (.lst xs), .fr v, .fr x] = .ok (.fr (.tup [s, d])) [.ow (.lst ys), .fr v, .fr x] ∧ (∀ p n, FB w v (.tup p) n → p.length ≤ 900 → 1 ≤ n → FB w d (.tup (s :: p)) (n + 1)) ∧ Pn 2000 s ∧ BagD ys (m + 12000) := by
  obtain ⟨r, x1, e1, r0, r1, hB1⟩ := e__law_take (n := 2) hB (by omega) (by decide) (by decide)
  have s1 : 1 ≤ sizeLine := by decide
  have s2 : 2 ≤ sizeLine := by decide
  by_cases h0 : r = 0
  · subst h0
    obtain ⟨c, x2, e2, c0, c1, hB2⟩ := e__law_take (n := 4) hB1 (by omega) (by decide) (by decide)
    obtain ⟨ds, x3, e3, hl, hs, hB3⟩ := rnd_items (w := w) (n := c.toNat) (by omega) (s1 := .fr v) (s2 := .fr x) hB2 (by omega)
    obtain ⟨t, x4, e4, t0, t1, hB4⟩ := e__law_take (n := 2) hB3 (by omega) (by decide) (by decide)
    have b1 : -4611686018427387904 ≤ c ∧ c < 4611686018427387904 := by omega
    obtain ⟨rest, hm, hr⟩ : ∃ rest, mulDL (.list [x]) (.int t) = some (.list rest) ∧ rest.length ≤ 1 := by
      have : t = 0 ∨ t = 1 := by omega
      rcases this with rfl | rfl
      · exact ⟨[], by simp [mulDL, repL], by simp⟩
      · exact ⟨[x], by simp [mulDL, repL, s1], by simp⟩
    have f1 : ds.length + 1 ≤ sizeLine := size_1000 (by omega)
    have f2 : ds.length + 1 + rest.length ≤ sizeLine := size_1000 (by omega)
    have f3 : ds.length ≤ sizeLine := size_1000 (by omega)
    have a1 : addD (.list ds) (.list [v]) = some (.list (ds ++ [v])) := catList f1
    have a2 : addD (.list (ds ++ [v])) (.list rest) = some (.list (ds ++ [v] ++ rest)) := catList (by simpa using f2)
    refine ⟨.int ds.length, .list (ds ++ [v] ++ rest), x4, ?_, ?_, pn_int63 (by omega) (by omega), hB4.more (by omega)⟩
    · simp [m__law_round, b__law_round, runF, frees, back, sSeq, sIf, sRet, sRetL, sRetS, sRetN, sNil, sEx, sSet, sSetL, sAsg, sPar, sPar3, sPut, sRaise, sBk, sCt, sStuck, eStuck, asB, tru, truSl, andT, orT, notT, andE, orE, notE, ifE, bin2, bin2L, un1, rd, cst, frz, lstL, tupE, vNil, vCons, calB, calL, callE, callL, appE, appL, resolve, slotsOf, putA, aSl, aVal, aNil, has?, isOw, chn, ixSl, lenSl, mtS, tName, tTupl, tCons, tNil, itE, rng1, rng2, slE, oSome, oNone, Res.bind, Res.thn, Res.lift, SRes.seq, loopR, Sl.toD, O.toD, mkE, mkApp, mkLE, cmethE, methE, sFldM, sForT, isiE, isiTE, joinE, indexE, lcL, emp, yes, e1, e2, eqD, eqB, b1, e3, e4, hm, a1, a2, s1, s2, lenD, f3, -List.append_assoc]
    · intro p n hv hp hn
      have N := nest_list (w := w) (xs := ds ++ v :: rest) (by simp; omega)
      rw [enumP_app] at N
      have := N.bad (n := n) (fun q m => (fb_good (hs _ (enumP_mem m))).more hn) hv (by omega)
      simpa using this
  · obtain ⟨a, b, x2, e2, ⟨ra, rb, ka, kb, A, B, lt, ne⟩, pa, pb, hB2⟩ := e__law_pair hB1 (by omega)
    obtain ⟨t, x3, e3, t0, t1, hB3⟩ := e__law_take (n := 2) hB2 (by omega) (by decide) (by decide)
    by_cases h1 : t = 0
    · subst h1
      refine ⟨a, .dict w [(b, .list [x, x]), (a, v)], x3, ?_, ?_, pa, hB3.more (by omega)⟩
      · have dp := dPuts2 (va := v) (vb := .list [x, x]) A.nk B.nk A.small B.small ne
        simp [m__law_round, b__law_round, runF, frees, back, sSeq, sIf, sRet, sRetL, sRetS, sRetN, sNil, sEx, sSet, sSetL, sAsg, sPar, sPar3, sPut, sRaise, sBk, sCt, sStuck, eStuck, asB, tru, truSl, andT, orT, notT, andE, orE, notE, ifE, bin2, bin2L, un1, rd, cst, frz, lstL, tupE, vNil, vCons, calB, calL, callE, callL, appE, appL, resolve, slotsOf, putA, aSl, aVal, aNil, has?, isOw, chn, ixSl, lenSl, mtS, tName, tTupl, tCons, tNil, itE, rng1, rng2, slE, oSome, oNone, Res.bind, Res.thn, Res.lift, SRes.seq, loopR, Sl.toD, O.toD, mkE, mkApp, mkLE, cmethE, methE, sFldM, sForT, isiE, isiTE, joinE, indexE, lcL, emp, yes, e1, e2, e3, eqD, eqB, h0, tLstl, s2, frzN, dispN, evPairs, dp]
      · intro p n hv hp hn
        exact (nest_dict2 A B lt ne).bad (pre := []) (post := [(b, .list [x, x])]) (fun q m => by cases m) hv (by omega)
    · obtain ⟨cs, x4, e4, cl, hc, hB4⟩ := e__law_text (most := 2) hB3 (by omega) (by omega)
      have e4 : m__law_text [.ow (.lst x3), .fr (.int 2)] = .ok (.fr (.str (strOf cs))) [.ow (.lst x4), .fr (.int 2)] := e4
      refine ⟨b, .dict w [(b, v), (a, .str (strOf cs))], x4, ?_, ?_, pb, hB4.more (by omega)⟩
      · have dp := dPuts2 (va := .str (strOf cs)) (vb := v) A.nk B.nk A.small B.small ne
        simp [m__law_round, b__law_round, runF, frees, back, sSeq, sIf, sRet, sRetL, sRetS, sRetN, sNil, sEx, sSet, sSetL, sAsg, sPar, sPar3, sPut, sRaise, sBk, sCt, sStuck, eStuck, asB, tru, truSl, andT, orT, notT, andE, orE, notE, ifE, bin2, bin2L, un1, rd, cst, frz, lstL, tupE, vNil, vCons, calB, calL, callE, callL, appE, appL, resolve, slotsOf, putA, aSl, aVal, aNil, has?, isOw, chn, ixSl, lenSl, mtS, tName, tTupl, tCons, tNil, itE, rng1, rng2, slE, oSome, oNone, Res.bind, Res.thn, Res.lift, SRes.seq, loopR, Sl.toD, O.toD, mkE, mkApp, mkLE, cmethE, methE, sFldM, sForT, isiE, isiTE, joinE, indexE, lcL, emp, yes, e1, e2, e3, e4, eqD, eqB, h0, h1, tLstl, s2, frzN, dispN, evPairs, dp]
      · intro p n hv hp hn
        refine (nest_dict2 A B lt ne).bad (pre := [(a, .str (strOf cs))]) (post := []) (fun q m => ?_) hv (by omega)
        rw [List.mem_singleton.mp m]
        exact (fb_good (.str hc (by omega))).more hn

/-! ### the law -/
theorem law09_round {w : World} {ns : List Int} {i : Int} {g : D} {xs : List D} {m : Nat} {d : D} {p : List D} {n : Nat} {o6 o7 o8 : Option Sl} (hB : BagD xs m) (m1 : m + 30000 < 1048576) (hd : FB w d (.tup p) n) (hn : 1 ≤ n) (hp : p.length ≤ 800) :
    ∃ s d' ys, law_b0 w [some (.fr (.scr ns)), some (.fr (.int i)), some (.ow (.lst xs)), some (.fr d), some (.fr g), some (.fr (.tup p)), o6, o7, o8] = .nx [some (.fr (.scr ns)), some (.fr (.int i)), some (.ow (.lst ys)), some (.fr d'), some (.fr g), some (.fr (.tup (s :: p))), o6, some (.fr s), o8] ∧ FB w d' (.tup (s :: p)) (n + 1) ∧ Pn 2000 s ∧ BagD ys (m + 13000) := by
  have s1 : 1 ≤ sizeLine := by decide
  have s2 : 2 ≤ sizeLine := by decide
  have cp2 : cPow 256 63 = true := by decide
  obtain ⟨x, x1, e1, _, hB1⟩ := e__law_of (ds := [.tup [.int 256], .int (256 ^ 63)]) hB (by omega) (by simp) (by simp)
  obtain ⟨s, d', x2, e2, hf, hs, hB2⟩ := e__law_round (w := w) (v := d) (x := x) hB1 (by omega)
  have f1 : p.length + 1 ≤ sizeLine := size_1000 (by omega)
  have f2 : 1 + p.length ≤ sizeLine := size_1000 (by omega)
  refine ⟨s, d', x2, ?_, hf p n hd (by omega) hn, hs, hB2.more (by omega)⟩
  simp [law_b0, runF, frees, back, sSeq, sIf, sRet, sRetL, sRetS, sRetN, sNil, sEx, sSet, sSetL, sAsg, sPar, sPar3, sPut, sRaise, sBk, sCt, sStuck, eStuck, asB, tru, truSl, truD, andT, orT, notT, andE, orE, notE, ifE, bin2, bin2L, un1, rd, cst, frz, lstL, tupE, vNil, vCons, calB, calL, callE, callL, appE, appL, resolve, slotsOf, putA, aSl, aVal, aNil, has?, isOw, chn, ixSl, lenSl, mtS, tName, tTupl, tCons, tNil, itE, walkD, rng1, rng2, slE, oSome, oNone, Res.bind, Res.thn, Res.lift, SRes.seq, loopR, Sl.toD, O.toD, fAppend, fReverse, fExtend, fPop, fClear, addD, catD, subD, intD, mulD, fdivD, modD, powD, shrD, andD, cmpD, leD, gtD, geD, ltD, eqD, neD, eqB, isD, isNotD, isNonB, negD, lenB, lenD, absB, max2, min2, intB, boolB, ordB, tupleB, listB, mkE, mkApp, mkLE, cmethE, methE, sFldM, putFD, fldD, sForT, isiE, isiTE, tyK, ixD, slD, joinE, indexE, lcL, emp, yes, e1, e2, s1, s2, cp2, f1, f2, -Int.reducePow]
theorem law09_rounds {w : World} {ns : List Int} {i : Int} {g : D} {xs : List D} {m : Nat} {d : D} {c : Nat} {o6 o7 o8 : Option Sl} (hc : c ≤ 5) (hB : BagD xs m) (m1 : m + 100000 < 1048576) (hd : FB w d (.tup []) 1) :
    ∃ d' p ys t6 t7, forT (tName 6) (law_b0 w) ((List.range c).map fun (k : Nat) => D.int k) [some (.fr (.scr ns)), some (.fr (.int i)), some (.ow (.lst xs)), some (.fr d), some (.fr g), some (.fr (.tup [])), o6, o7, o8] = .nx [some (.fr (.scr ns)), some (.fr (.int i)), some (.ow (.lst ys)), some (.fr d'), some (.fr g), some (.fr (.tup p)), t6, t7, o8] ∧ FB w d' (.tup p) 6 ∧ p.length ≤ 5 ∧ (∀ q ∈ p, Pn 2000 q) ∧ BagD ys (m + 70000) := by
  have st : ∀ (j : Nat) (x : D) (l : Ld), ((List.range c).map fun (k : Nat) => D.int k)[j]? = some x → (∃ d' p ys t6 t7, l = [some (.fr (.scr ns)), some (.fr (.int i)), some (.ow (.lst ys)), some (.fr d'), some (.fr g), some (.fr (.tup p)), t6, t7, o8] ∧ FB w d' (.tup p) (j + 1) ∧ p.length = j ∧ (∀ q ∈ p, Pn 2000 q) ∧ BagD ys (m + 13000 * j)) →
      ∃ l1 l2, tName 6 x l = some l1 ∧ law_b0 w l1 = .nx l2 ∧ (∃ d' p ys t6 t7, l2 = [some (.fr (.scr ns)), some (.fr (.int i)), some (.ow (.lst ys)), some (.fr d'), some (.fr g), some (.fr (.tup p)), t6, t7, o8] ∧ FB w d' (.tup p) (j + 1 + 1) ∧ p.length = j + 1 ∧ (∀ q ∈ p, Pn 2000 q) ∧ BagD ys (m + 13000 * (j + 1))) := by
    rintro j x l hx ⟨d', p, ys, t6, t7, rfl, hf, hl, hq, hB2⟩
    obtain ⟨hj, rfl⟩ := range_lt hx
    obtain ⟨s, d2, zs, e, hf2, hs, hB3⟩ := law09_round (w := w) (ns := ns) (i := i) (g := g) (o6 := some (.fr (.int j))) (o7 := t7) (o8 := o8) hB2 (by omega) hf (by omega) (by omega)
    refine ⟨_, _, rfl, e, d2, s :: p, zs, _, _, rfl, hf2, by rw [List.length_cons, hl], ?_, hB3.more (by omega)⟩
    intro q m
    rcases List.mem_cons.mp m with rfl | m
    · exact hs
    · exact hq q m
  obtain ⟨l', e, d', p, ys, t6, t7, rfl, hf, hl, hq, hB2⟩ := forT_at (t := tName 6) (b := law_b0 w) (l := [some (.fr (.scr ns)), some (.fr (.int i)), some (.ow (.lst xs)), some (.fr d), some (.fr g), some (.fr (.tup [])), o6, o7, o8]) _ ⟨d, [], xs, o6, o7, rfl, hd, rfl, (fun q m => by cases m), hB.more (by omega)⟩ st
  rw [List.length_map, List.length_range] at hf hl hB2
  exact ⟨d', p, ys, t6, t7, e, hf.more (by omega), by omega, hq, hB2.more (by omega)⟩
theorem repr_end : reprB [.list [.tup [], .tup [], .bl false]] = some (.str "[(), (), False]") := by
  have e : toPy (.list [.tup [], .tup [], .bl false]) = some (.list [.tuple [], .tuple [], .bool false]) := by simp [toPy, toPys]
  have s : PyData.shown (.list [.tuple [], .tuple [], .bool false]) = "[(), (), False]" := by decide +kernel
  show ((toPy (.list [.tup [], .tup [], .bl false])).bind fun p => if p.showable = true ∧ p.hasDict = false ∧ p.depth ≤ 100 ∧ p.shown.length ≤ sizeLine then some (D.str p.shown) else none) = _
  rw [e, Option.bind_some, s]
  exact if_pos ⟨by decide +kernel, by decide +kernel, by decide +kernel, by decide +kernel⟩
theorem law09_turn {w : World} {ns : List Int} {i : Nat} (hi : i < 64) (o2 o3 o4 o5 o6 o7 o8 : Option Sl) : ∃ s2 s3 s4 s5 s6 s7 s8 : Option Sl, law_b1 w [some (.fr (.scr ns)), some (.fr (.int i)), o2, o3, o4, o5, o6, o7, o8] = .nx [some (.fr (.scr ns)), some (.fr (.int i)), s2, s3, s4, s5, s6, s7, s8] := by
  have s1 : 1 ≤ sizeLine := by decide
  have s2 : 2 ≤ sizeLine := by decide
  have s3 : 3 ≤ sizeLine := by decide
  have s0 : 0 ≤ sizeLine := by decide
  obtain ⟨x0, e0, hB0⟩ := e__law_bag (ns := ns) (i := i) (by omega) (by omega)
  obtain ⟨d, x1, e1, hd, hB1⟩ := e__law_bad (w := w) hB0 (by omega)
  obtain ⟨v, x2, e2, v0, v1, hB2⟩ := e__law_integer hB1 (by omega)
  obtain ⟨t, x3, e3, t0, t1, hB3⟩ := e__law_take (n := 5) hB2 (by omega) (by decide) (by decide)
  obtain ⟨d', p, x4, t6, t7, e4, hf, hl, hq, hB4⟩ := law09_rounds (w := w) (ns := ns) (i := i) (g := .int v) (c := (1 + t).toNat) (o6 := o6) (o7 := o7) (o8 := o8) (by omega) hB3 (by omega) hd
  have b1 : -4611686018427387904 ≤ 1 + t ∧ 1 + t < 4611686018427387904 := by omega
  obtain ⟨rv, hv⟩ := (Sc.int v0 v1).row
  have M := made_row (w := w) hv
  obtain ⟨fs, edoc⟩ := M.doc
  obtain ⟨rk, K⟩ := KeyD.int v0 v1
  have M1 := (made_dict1 (w := w) K hv).path
  have M2 := (made_row (w := w) (Row.bl true)).path
  have P1 := e_path_bad hf (by omega)
  have P2 := e_tag_bad hf (by omega)
  have P3 := e_value_bad hf (by omega)
  have N1 := nest_list (w := w) (xs := [.int v]) (by simp)
  have G1 : FB w (.list [.int v]) .non 2 := N1.good fun q m => by
    have : q.2 = .int v := by simpa using enumP_mem m
    rw [this]
    exact fb_good (.int v0 v1)
  have P4 := e_value_good G1 (by omega)
  have N2 := nest_list (w := w) (xs := [d', .int v]) (by simp)
  have G2 : FB w (.list [d', .int v]) (.tup (.int 0 :: p)) 7 := N2.bad (pre := []) (post := enumP 1 [.int v]) (s := .int 0) (x := d') (fun q m => by cases m) hf (by omega)
  have P5 := e_path_bad G2 (by omega)
  have F := fb_doc (w := w) fs
  have P6 := e_path_bad F (by omega)
  have P7 := e_tag_bad F (by omega)
  have P8 := e_value_bad F (by omega)
  obtain ⟨z1, R1⟩ := repr_pnT hq (by omega) (by omega)
  obtain ⟨z2, R2⟩ := repr_pnT (B := 2000) (ds := .int 0 :: p) (fun q m => by
    rcases List.mem_cons.mp m with rfl | m
    · exact pn_int63 (by omega) (by omega)
    · exact hq q m) (by simp only [List.length_cons]; omega) (by simp only [List.length_cons]; omega)
  have dp := dPuts1 (va := .int v) K.nk K.small
  have ad : addD (.tup [.int 0]) (.tup p) = some (.tup (.int 0 :: p)) := by
    have : (1 + p.length) ≤ sizeLine := size_1000 (by omega)
    simp [addD, this]
  have it : ∀ zs : List D, tab_tuple.lookup (tyK (.tup zs)) = some true := fun _ => rfl
  refine ⟨some (.ow (.lst x4)), some (.fr d'), some (.fr (.int v)), some (.fr (.tup p)), t6, t7, some (.fr (.ins "Document" fs)), ?_⟩
  · simp [law_b1, runF, frees, back, sSeq, sIf, sRet, sRetL, sRetS, sRetN, sNil, sEx, sSet, sSetL, sAsg, sPar, sPar3, sPut, sRaise, sBk, sCt, sStuck, eStuck, asB, tru, truSl, andT, orT, notT, andE, orE, notE, ifE, bin2, bin2L, un1, rd, cst, frz, lstL, tupE, vNil, vCons, calB, calL, callE, callL, appE, appL, resolve, slotsOf, putA, aSl, aVal, aNil, has?, isOw, chn, ixSl, lenSl, mtS, tName, tTupl, tCons, tNil, itE, rng1, rng2, slE, oSome, oNone, Res.bind, Res.thn, Res.lift, SRes.seq, loopR, Sl.toD, O.toD, mkE, mkApp, mkLE, cmethE, methE, sFldM, sForT, isiE, isiTE, joinE, indexE, lcL, emp, yes, e0, e1, e2, e3, addD_int, b1, e4, P1, P2, P3, P4, P5, P6, P7, P8, it, truD, R1, R2, neD, eqB, isNotD, isNonB, isD, ad, M1, M2, frzN, dispN, evPairs, dp, edoc, s0, s1, s2, s3, repr_end]
theorem law09 {w : World} {ns : List Int} : m_law w [.fr (.scr ns)] = .ok (.fr (.bl true)) [.fr (.scr ns)] := by
  have few : (cutD ns none (some 8)).length ≤ 8 := by
    unfold cutD
    rw [List.length_take, show HT.sIx ns.length ns.length (some 8) = min 8 ns.length from HT.sIx_nat _ _ 8]
    omega
  obtain ⟨c, hc, c12⟩ : ∃ c : Nat, (if ((cutD ns none (some 8)).length : Int) > 1 then ((cutD ns none (some 8)).length : Int) else 1) = c ∧ c ≤ 8 := by
    refine ⟨(if ((cutD ns none (some 8)).length : Int) > 1 then ((cutD ns none (some 8)).length : Int) else 1).toNat, ?_, ?_⟩ <;> split <;> omega
  have st : ∀ (j : Nat) (x : D) (l : Ld), ((List.range c).map fun (k : Nat) => D.int k)[j]? = some x → (∃ s1 s2 s3 s4 s5 s6 s7 s8 : Option Sl, l = [some (.fr (.scr ns)), s1, s2, s3, s4, s5, s6, s7, s8]) → ∃ l1 l2, tName 1 x l = some l1 ∧ law_b1 w l1 = .nx l2 ∧ ∃ s1 s2 s3 s4 s5 s6 s7 s8 : Option Sl, l2 = [some (.fr (.scr ns)), s1, s2, s3, s4, s5, s6, s7, s8] := by
    rintro j x l hx ⟨s1, s2, s3, s4, s5, s6, s7, s8, rfl⟩
    obtain ⟨hj, rfl⟩ := range_lt hx
    obtain ⟨t2, t3, t4, t5, t6, t7, t8, e⟩ := law09_turn (w := w) (ns := ns) (i := j) (by omega) s2 s3 s4 s5 s6 s7 s8
    exact ⟨_, _, rfl, e, _, _, _, _, _, _, _, _, rfl⟩
  obtain ⟨l', e, s1, s2, s3, s4, s5, s6, s7, s8, rfl⟩ := forT_at (t := tName 1) (b := law_b1 w) (l := [some (.fr (.scr ns)), none, none, none, none, none, none, none, none]) (fun _ l => ∃ s1 s2 s3 s4 s5 s6 s7 s8 : Option Sl, l = [some (.fr (.scr ns)), s1, s2, s3, s4, s5, s6, s7, s8]) ⟨_, _, _, _, _, _, _, _, rfl⟩ st
  have sl : slD (.scr ns) none (some 8) = some (.list ((cutD ns none (some 8)).map .int)) := rfl
  have ln : lenB [.list ((cutD ns none (some 8)).map .int)] = some (.int (cutD ns none (some 8)).length) := by simp [lenB, lenD]
  have mx : max2 [.int 1, .int (cutD ns none (some 8)).length] = some (.int c) := by
    show some (D.int (if ((cutD ns none (some 8)).length : Int) > 1 then ((cutD ns none (some 8)).length : Int) else 1)) = _
    rw [hc]
  have b1 : -4611686018427387904 ≤ (c : Int) ∧ (c : Int) < 4611686018427387904 := by omega
  simp [m_law, b_law, runF, frees, back, sSeq, sIf, sRet, sRetL, sRetS, sRetN, sNil, sEx, sSet, sSetL, sAsg, sPar, sPar3, sPut, sRaise, sBk, sCt, sStuck, eStuck, asB, tru, truSl, andT, orT, notT, andE, orE, notE, ifE, bin2, bin2L, un1, rd, cst, frz, lstL, tupE, vNil, vCons, calB, calL, callE, callL, appE, appL, resolve, slotsOf, putA, aSl, aVal, aNil, has?, isOw, chn, ixSl, lenSl, mtS, tName, tTupl, tCons, tNil, itE, rng1, rng2, slE, oSome, oNone, Res.bind, Res.thn, Res.lift, SRes.seq, loopR, Sl.toD, O.toD, mkE, mkApp, mkLE, cmethE, methE, sFldM, sForT, isiE, isiTE, joinE, indexE, lcL, emp, yes, sForT, sl, ln, mx, b1, e]

end Sb
namespace Sb
open PySem PySem.Spec PyProof.Rows L2
theorem sc_init_BadValue : FnScope ["self", "path"] ["self", "path"] (defScope s_init_BadValue) := ⟨rfl, rfl, rfl, by decide +kernel, rfl, by decide +kernel, by decide +kernel⟩
theorem sc_init_BadNumber : FnScope ["self", "number"] ["self", "number"] (defScope s_init_BadNumber) := ⟨rfl, rfl, rfl, by decide +kernel, rfl, by decide +kernel, by decide +kernel⟩
theorem sc__law_bag : FnScope ["_law_script", "_law_at", "_law_cell", "_law_digits"] ["_law_script", "_law_at"] (defScope s__law_bag) := ⟨rfl, rfl, rfl, by decide +kernel, rfl, by decide +kernel, by decide +kernel⟩
theorem sc__law_take : FnScope ["_law_bag_here", "_law_many", "_law_digit", "_law_place", "_law_mixed"] ["_law_bag_here", "_law_many"] (defScope s__law_take) := ⟨rfl, rfl, rfl, by decide +kernel, rfl, by decide +kernel, by decide +kernel⟩
theorem sc__law_of : FnScope ["_law_bag_here", "_law_some"] ["_law_bag_here", "_law_some"] (defScope s__law_of) := ⟨rfl, rfl, rfl, by decide +kernel, rfl, by decide +kernel, by decide +kernel⟩
theorem sc__law_number : FnScope ["_law_bag_here", "_law_road", "_law_number_here", "_law_turn"] ["_law_bag_here"] (defScope s__law_number) := ⟨rfl, rfl, rfl, by decide +kernel, rfl, by decide +kernel, by decide +kernel⟩
theorem sc__law_octets : FnScope ["_law_bag_here", "_law_most", "_law_turn"] ["_law_bag_here", "_law_most"] (defScope s__law_octets) := ⟨rfl, rfl, rfl, by decide +kernel, rfl, by decide +kernel, by decide +kernel⟩
theorem sc__law_text : FnScope ["_law_bag_here", "_law_most", "_law_chars", "_law_turn"] ["_law_bag_here", "_law_most"] (defScope s__law_text) := ⟨rfl, rfl, rfl, by decide +kernel, rfl, by decide +kernel, by decide +kernel⟩
theorem sc__law_integer : FnScope ["_law_bag_here", "_law_number_here"] ["_law_bag_here"] (defScope s__law_integer) := ⟨rfl, rfl, rfl, by decide +kernel, rfl, by decide +kernel, by decide +kernel⟩
theorem sc_is_integer : FnScope ["thing"] ["thing"] (defScope s_is_integer) := ⟨rfl, rfl, rfl, by decide +kernel, rfl, by decide +kernel, by decide +kernel⟩
theorem sc_is_number : FnScope ["thing"] ["thing"] (defScope s_is_number) := ⟨rfl, rfl, rfl, by decide +kernel, rfl, by decide +kernel, by decide +kernel⟩
theorem sc_is_byte : FnScope ["thing"] ["thing"] (defScope s_is_byte) := ⟨rfl, rfl, rfl, by decide +kernel, rfl, by decide +kernel, by decide +kernel⟩
theorem sc_base_bytes : FnScope ["number", "digits"] ["number"] (defScope s_base_bytes) := ⟨rfl, rfl, rfl, by decide +kernel, rfl, by decide +kernel, by decide +kernel⟩
theorem sc_plain_code : FnScope ["number", "digits"] ["number"] (defScope s_plain_code) := ⟨rfl, rfl, rfl, by decide +kernel, rfl, by decide +kernel, by decide +kernel⟩
theorem sc_is_text : FnScope ["thing", "char"] ["thing"] (defScope s_is_text) := ⟨rfl, rfl, rfl, by decide +kernel, rfl, by decide +kernel, by decide +kernel⟩
theorem sc_is_octets : FnScope ["thing", "entry"] ["thing"] (defScope s_is_octets) := ⟨rfl, rfl, rfl, by decide +kernel, rfl, by decide +kernel, by decide +kernel⟩
theorem sc_is_key : FnScope ["thing"] ["thing"] (defScope s_is_key) := ⟨rfl, rfl, rfl, by decide +kernel, rfl, by decide +kernel, by decide +kernel⟩
theorem sc_is_plain : FnScope ["thing"] ["thing"] (defScope s_is_plain) := ⟨rfl, rfl, rfl, by decide +kernel, rfl, by decide +kernel, by decide +kernel⟩
theorem sc_integer_row : FnScope ["number", "digit"] ["number"] (defScope s_integer_row) := ⟨rfl, rfl, rfl, by decide +kernel, rfl, by decide +kernel, by decide +kernel⟩
theorem sc_scalar_row : FnScope ["thing", "char"] ["thing"] (defScope s_scalar_row) := ⟨rfl, rfl, rfl, by decide +kernel, rfl, by decide +kernel, by decide +kernel⟩
theorem sc_key_row : FnScope ["key"] ["key"] (defScope s_key_row) := ⟨rfl, rfl, rfl, by decide +kernel, rfl, by decide +kernel, by decide +kernel⟩
theorem sc_sorted_keys : FnScope ["table"] ["table"] (defScope s_sorted_keys) := ⟨rfl, rfl, rfl, by decide +kernel, rfl, by decide +kernel, by decide +kernel⟩
theorem sc_steps_of : FnScope ["nest", "at", "part", "key"] ["nest"] (defScope s_steps_of) := ⟨rfl, rfl, rfl, by decide +kernel, rfl, by decide +kernel, by decide +kernel⟩
theorem sc_first_bad : FnScope ["thing", "room", "key", "step", "part", "path"] ["thing", "room"] (defScope s_first_bad) := ⟨rfl, rfl, rfl, by decide +kernel, rfl, by decide +kernel, by decide +kernel⟩
theorem sc_is_value : FnScope ["value"] ["value"] (defScope s_is_value) := ⟨rfl, rfl, rfl, by decide +kernel, rfl, by decide +kernel, by decide +kernel⟩
theorem sc_encoded : FnScope ["value", "row", "part", "key"] ["value"] (defScope s_encoded) := ⟨rfl, rfl, rfl, by decide +kernel, rfl, by decide +kernel, by decide +kernel⟩
theorem sc_checked_row : FnScope ["value", "path"] ["value"] (defScope s_checked_row) := ⟨rfl, rfl, rfl, by decide +kernel, rfl, by decide +kernel, by decide +kernel⟩
theorem sc_Tag___init__ : FnScope ["self", "number", "content", "row"] ["self", "number", "content", "row"] (defScope s_Tag___init__) := ⟨rfl, rfl, rfl, by decide +kernel, rfl, by decide +kernel, by decide +kernel⟩
theorem sc_Document___init__ : FnScope ["self", "data"] ["self", "data"] (defScope s_Document___init__) := ⟨rfl, rfl, rfl, by decide +kernel, rfl, by decide +kernel, by decide +kernel⟩
theorem sc_Document_of : FnScope ["cls", "value"] ["cls", "value"] (defScope s_Document_of) := ⟨rfl, rfl, rfl, by decide +kernel, rfl, by decide +kernel, by decide +kernel⟩
theorem sc__law_bad : FnScope ["_law_bag_here", "_law_road", "_law_some"] ["_law_bag_here"] (defScope s__law_bad) := ⟨rfl, rfl, rfl, by decide +kernel, rfl, by decide +kernel, by decide +kernel⟩
theorem sc__law_pair : FnScope ["_law_bag_here", "_law_road", "_law_number_here", "_law_text_here"] ["_law_bag_here"] (defScope s__law_pair) := ⟨rfl, rfl, rfl, by decide +kernel, rfl, by decide +kernel, by decide +kernel⟩
theorem sc__law_round : FnScope ["_law_bag_here", "_law_thing", "_law_bad_here", "_law_turn", "_law_ahead", "_law_one", "_law_other"] ["_law_bag_here", "_law_thing", "_law_bad_here"] (defScope s__law_round) := ⟨rfl, rfl, rfl, by decide +kernel, rfl, by decide +kernel, by decide +kernel⟩
theorem sc__law_path : FnScope ["_law_value", "e"] ["_law_value"] (defScope s__law_path) := ⟨rfl, rfl, rfl, by decide +kernel, rfl, by decide +kernel, by decide +kernel⟩
theorem sc__law_tag_path : FnScope ["_law_value", "e"] ["_law_value"] (defScope s__law_tag_path) := ⟨rfl, rfl, rfl, by decide +kernel, rfl, by decide +kernel, by decide +kernel⟩
theorem sc_law : FnScope ["_law_script", "_law_at", "_law_bag_here", "_law_value", "_law_good", "_law_path_here", "_law_turn", "_law_step", "_law_document"] ["_law_script"] (defScope s_law) := ⟨rfl, rfl, rfl, by decide +kernel, rfl, by decide +kernel, by decide +kernel⟩
structure Txt (K : PySem.W.Frag) (mg : Str → Option Value) : Prop where
  d__law_bag : DefAt K mg "_law_bag" s__law_bag []
  d__law_take : DefAt K mg "_law_take" s__law_take []
  d__law_of : DefAt K mg "_law_of" s__law_of []
  d__law_number : DefAt K mg "_law_number" s__law_number []
  d__law_octets : DefAt K mg "_law_octets" s__law_octets []
  d__law_text : DefAt K mg "_law_text" s__law_text []
  d__law_integer : DefAt K mg "_law_integer" s__law_integer []
  d_is_integer : DefAt K mg "is_integer" s_is_integer []
  d_is_number : DefAt K mg "is_number" s_is_number []
  d_is_byte : DefAt K mg "is_byte" s_is_byte []
  d_base_bytes : DefAt K mg "base_bytes" s_base_bytes []
  d_plain_code : DefAt K mg "plain_code" s_plain_code []
  d_is_text : DefAt K mg "is_text" s_is_text []
  d_is_octets : DefAt K mg "is_octets" s_is_octets []
  d_is_key : DefAt K mg "is_key" s_is_key []
  d_is_plain : DefAt K mg "is_plain" s_is_plain []
  d_integer_row : DefAt K mg "integer_row" s_integer_row []
  d_scalar_row : DefAt K mg "scalar_row" s_scalar_row []
  d_key_row : DefAt K mg "key_row" s_key_row []
  d_sorted_keys : DefAt K mg "sorted_keys" s_sorted_keys []
  d_steps_of : DefAt K mg "steps_of" s_steps_of []
  d_first_bad : DefAt K mg "first_bad" s_first_bad []
  d_is_value : DefAt K mg "is_value" s_is_value []
  d_encoded : DefAt K mg "encoded" s_encoded []
  d_checked_row : DefAt K mg "checked_row" s_checked_row []
  d__law_bad : DefAt K mg "_law_bad" s__law_bad []
  d__law_pair : DefAt K mg "_law_pair" s__law_pair []
  d__law_round : DefAt K mg "_law_round" s__law_round []
  d__law_path : DefAt K mg "_law_path" s__law_path []
  d__law_tag_path : DefAt K mg "_law_tag_path" s__law_tag_path []
  d_law : DefAt K mg "law" s_law []
  d_Tag___init__ : ∃ fd, FunD K "__init__" "Tag.__init__" (defArgs s_Tag___init__) (defBody s_Tag___init__) (defScope s_Tag___init__) [.non] [] (He.fAd K ("Tag", some "__init__")) fd
  k_Tag : Mk K (He.ga K "Tag") (He.fAd K ("Tag", some "__init__"))
  d_Document___init__ : ∃ fd, FunD K "__init__" "Document.__init__" (defArgs s_Document___init__) (defBody s_Document___init__) (defScope s_Document___init__) [] [] (He.fAd K ("Document", some "__init__")) fd
  k_Document : Mk K (He.ga K "Document") (He.fAd K ("Document", some "__init__"))
  d_Document_of : ∃ fd, FunD K "of" "Document.of" (defArgs s_Document_of) (defBody s_Document_of) (defScope s_Document_of) [] [] (He5.wf K (He.ga K "Document") "classmethod" "of") fd
  cm_Document_of : ClX.CMet K (He.ga K "Document") (.type "type") "of" (He.ma K (He.ga K "Document") "of") (He5.wf K (He.ga K "Document") "classmethod" "of")
  c_BadNumber : mg "BadNumber" = some (.ref (He.ga K "BadNumber"))
  c_BadValue : mg "BadValue" = some (.ref (He.ga K "BadValue"))
  c_Document : mg "Document" = some (.ref (He.ga K "Document"))
  c_ShortestBytesError : mg "ShortestBytesError" = some (.ref (He.ga K "ShortestBytesError"))
  c_Tag : mg "Tag" = some (.ref (He.ga K "Tag"))
  errs : ErrsF K xerrs
  x_BadNumber : ExF K (.ref (He.ga K "BadNumber")) xtab_BadNumber
  ix_BadNumber : IsxF K (.ref (He.ga K "BadNumber")) xtab_BadNumber
  x_BadValue : ExF K (.ref (He.ga K "BadValue")) xtab_BadValue
  ix_BadValue : IsxF K (.ref (He.ga K "BadValue")) xtab_BadValue
  x_ShortestBytesError : ExF K (.ref (He.ga K "ShortestBytesError")) xtab_ShortestBytesError
  ix_ShortestBytesError : IsxF K (.ref (He.ga K "ShortestBytesError")) xtab_ShortestBytesError
  cr_Document : ClX.CRead K (He.ga K "Document") (.type "type")
  f_content_row : FldF K "content_row" ["Tag"]
  f_data : FldF K "data" ["Document"]
  f_kind : FldF K "kind" ["Document"]
  f_number : FldF K "number" ["Tag"]
  m_abs : mg "abs" = none
  m_all : mg "all" = none
  m_bool : mg "bool" = none
  m_dict : mg "dict" = none
  m_enumerate : mg "enumerate" = none
  m_int : mg "int" = none
  m_isinstance : mg "isinstance" = none
  m_len : mg "len" = none
  m_list : mg "list" = none
  m_max : mg "max" = none
  m_ord : mg "ord" = none
  m_range : mg "range" = none
  m_repr : mg "repr" = none
  m_sorted : mg "sorted" = none
  m_str : mg "str" = none
  m_tuple : mg "tuple" = none
  e_base : BaseAt K mg "ShortestBytesError"
  e_BadValue : ErrAt K mg "BadValue" "path" "BadValue.__init__" s_init_BadValue
  e_BadNumber : ErrAt K mg "BadNumber" "number" "BadNumber.__init__" s_init_BadNumber
  i_int : IsiF K (.type "int") tab_int
  i_bool : IsiF K (.type "bool") tab_bool
  i_str : IsiF K (.type "str") tab_str
  i_tuple : IsiF K (.type "tuple") tab_tuple
  i_list : IsiF K (.type "list") tab_list
  i_dict : IsiF K (.type "dict") tab_dict
  i_Tag : IsiF K (.ref (He.ga K "Tag")) tab_Tag
  i_Document : IsiF K (.ref (He.ga K "Document")) tab_Document
  g_MOST : ∃ t, mg "MOST" = some (.int (256 ^ 63 - 1) t)
  g_LIMIT : ∃ t, mg "LIMIT" = some (.int (256 ^ 63) t)
  g_DEEPEST : ∃ t, mg "DEEPEST" = some (.int 24 t)
  g_CHARS : ∃ t, mg "CHARS" = some (.str vCHARS t)
  g_KINDS : mg "KINDS" = some (.ref (He.ga K "KINDS")) ∧ tupStrB K (He.ga K "KINDS") vKINDS = true
section
variable {P : Program} {w : World} {K : PySem.W.Frag} {mg : Str → Option Value} {base : Heap}
theorem er_BadValue (T : Txt K mg) : Err P w K mg base "BadValue" "path" := by
  obtain ⟨fd, F⟩ := T.e_BadValue.F
  refine ⟨T.e_BadValue.g, T.e_BadValue.c, _, fd, ["self", "path"], T.e_BadValue.i, T.e_BadValue.t, F.ok (CX := CX0) sc_init_BadValue (fun vs H Q E h => ?_) (fun cv A outer s H vs Q E hr h => ?_), F.bindsN fun _ _ _ _ _ _ us hl => match us, hl with | [_, _], _ => rfl⟩
  · obtain ⟨a, v, rfl, _⟩ := h
    rfl
  · obtain ⟨a, v, rfl, isE, q⟩ := h
    refine ⟨_, PSs.nox (pss_cons (ps_expr (pe_baseinit (by rfl) T.e_base.g T.e_base.b (pa_cons (pv 0) (pa_cons pe_str pa_nil)))) (pss_one (ps_ost (pv 0) (pv 1)))), ?_⟩
    refine ⟨_, rfl, a, He.ga K "BadValue", _, rfl, (by show 1 ≤ 1000; decide), T.e_BadValue.c.oex, isE, ?_⟩
    exact ⟨_, rfl, _, rfl, a, _, rfl, T.e_BadValue.c.oex, T.e_BadValue.n, .inl ⟨isE, q⟩⟩
theorem er_BadNumber (T : Txt K mg) : Err P w K mg base "BadNumber" "number" := by
  obtain ⟨fd, F⟩ := T.e_BadNumber.F
  refine ⟨T.e_BadNumber.g, T.e_BadNumber.c, _, fd, ["self", "number"], T.e_BadNumber.i, T.e_BadNumber.t, F.ok (CX := CX0) sc_init_BadNumber (fun vs H Q E h => ?_) (fun cv A outer s H vs Q E hr h => ?_), F.bindsN fun _ _ _ _ _ _ us hl => match us, hl with | [_, _], _ => rfl⟩
  · obtain ⟨a, v, rfl, _⟩ := h
    rfl
  · obtain ⟨a, v, rfl, isE, q⟩ := h
    refine ⟨_, PSs.nox (pss_cons (ps_expr (pe_baseinit (by rfl) T.e_base.g T.e_base.b (pa_cons (pv 0) (pa_cons pe_str pa_nil)))) (pss_one (ps_ost (pv 0) (pv 1)))), ?_⟩
    refine ⟨_, rfl, a, He.ga K "BadNumber", _, rfl, (by show 1 ≤ 1000; decide), T.e_BadNumber.c.oex, isE, ?_⟩
    exact ⟨_, rfl, _, rfl, a, _, rfl, T.e_BadNumber.c.oex, T.e_BadNumber.n, .inl ⟨isE, q⟩⟩
theorem ok__law_bag (T : Txt K mg) : Has P w K mg base (L2.CX P w) 1 "_law_bag" ["_law_script", "_law_at"] [] (spM K 2 m__law_bag) := by
  refine has_m (k := 0) T.d__law_bag sc__law_bag (fun fd F => ⟨[], .nil, F.bindsN fun _ _ _ _ _ _ us hl => match us, hl with | [_, _], _ => rfl⟩) (fun cv A outer s H E F0 H0 pr np hg hr => ?_)
  exact (ms_cons (ms_set (i := 2) (np 2 (by decide)) sc__law_bag.nd rfl (by first | exact .inl rfl | exact .inr rfl) (me_if (mt_cmp (op_ltD' rfl hr.units) (me_var (i := 1) rfl (by first | exact .inl rfl | exact .inr (.inl rfl) | exact .inr (.inr rfl))) (me_lenS (i := 0) rfl rfl (by first | exact .inl rfl | exact .inr (.inl rfl) | exact .inr (.inr rfl)) (by rfl) T.m_len) (nomark _)) (me_ixS (i := 0) rfl rfl (by first | exact .inl rfl | exact .inr (.inl rfl) | exact .inr (.inr rfl)) (me_var (i := 1) rfl (by first | exact .inl rfl | exact .inr (.inl rfl) | exact .inr (.inr rfl)))) me_int))
    (ms_cons (ms_set (i := 3) (np 3 (by decide)) sc__law_bag.nd rfl (by first | exact .inl rfl | exact .inr rfl) (me_if (mt_cmp (op_geD) (me_callB (call_absD) (by rfl) T.m_abs (by decide +kernel) (mv_cons (me_var (i := 2) rfl (by first | exact .inl rfl | exact .inr (.inl rfl) | exact .inr (.inr rfl))) mv_nil)) (me_op (op_powD) me_int me_int) (nomark _)) (me_callB (call_absD) (by rfl) T.m_abs (by decide +kernel) (mv_cons (me_var (i := 2) rfl (by first | exact .inl rfl | exact .inr (.inl rfl) | exact .inr (.inr rfl))) mv_nil)) me_int))
    (ms_one (ms_retL (ml_lst (mv_cons (me_var (i := 3) rfl (by first | exact .inl rfl | exact .inr (.inl rfl) | exact .inr (.inr rfl))) (mv_cons (me_op (op_addD rfl) (me_op (op_addD rfl) (me_op (op_modD) (me_callTy (call_intD) (by rfl) T.m_int (by decide +kernel) (mv_cons (me_var (i := 2) rfl (by first | exact .inl rfl | exact .inr (.inl rfl) | exact .inr (.inr rfl))) mv_nil)) me_int) (me_op (op_mulD) me_int (me_var (i := 1) rfl (by first | exact .inl rfl | exact .inr (.inl rfl) | exact .inr (.inr rfl))))) me_int) (mv_cons me_int mv_nil))))))))
theorem ok__law_take (T : Txt K mg) : Has P w K mg base (L2.CX P w) 1 "_law_take" ["_law_bag_here", "_law_many"] [] (spM K 2 m__law_take) := by
  refine has_m (k := 0) T.d__law_take sc__law_take (fun fd F => ⟨[], .nil, F.bindsN fun _ _ _ _ _ _ us hl => match us, hl with | [_, _], _ => rfl⟩) (fun cv A outer s H E F0 H0 pr np hg hr => ?_)
  exact (ms_cons (ms_if (mt_cmp (op_gtD) (me_ixS (i := 0) rfl rfl (by first | exact .inl rfl | exact .inr (.inl rfl) | exact .inr (.inr rfl)) me_int) me_int (nomark _))
    (ms_cons (ms_set (i := 2) (np 2 (by decide)) sc__law_take.nd rfl (by first | exact .inl rfl | exact .inr rfl) (me_op (op_modD) (me_callTy (call_intD) (by rfl) T.m_int (by decide +kernel) (mv_cons (me_ixS (i := 0) rfl rfl (by first | exact .inl rfl | exact .inr (.inl rfl) | exact .inr (.inr rfl)) me_int) mv_nil)) (me_var (i := 1) rfl (by first | exact .inl rfl | exact .inr (.inl rfl) | exact .inr (.inr rfl)))))
    (ms_cons (ms_put (i := 0) rfl (by first | exact .inl rfl | exact .inr (.inl rfl) | exact .inr (.inr rfl)) me_int (me_op (op_fdivD) (me_ixS (i := 0) rfl rfl (by first | exact .inl rfl | exact .inr (.inl rfl) | exact .inr (.inr rfl)) me_int) (me_var (i := 1) rfl (by first | exact .inl rfl | exact .inr (.inl rfl) | exact .inr (.inr rfl)))))
    (ms_one (ms_ret (me_var (i := 2) rfl (by first | exact .inl rfl | exact .inr (.inl rfl) | exact .inr (.inr rfl)))))))
    ms_nil)
    (ms_cons (ms_put (i := 0) rfl (by first | exact .inl rfl | exact .inr (.inl rfl) | exact .inr (.inr rfl)) me_int (me_op (op_addD rfl) (me_ixS (i := 0) rfl rfl (by first | exact .inl rfl | exact .inr (.inl rfl) | exact .inr (.inr rfl)) me_int) me_int))
    (ms_cons (ms_set (i := 3) (np 3 (by decide)) sc__law_take.nd rfl (by first | exact .inl rfl | exact .inr rfl) (me_op (op_addD rfl) (me_ixS (i := 0) rfl rfl (by first | exact .inl rfl | exact .inr (.inl rfl) | exact .inr (.inr rfl)) me_int) (me_op (op_mulD) me_int (me_ixS (i := 0) rfl rfl (by first | exact .inl rfl | exact .inr (.inl rfl) | exact .inr (.inr rfl)) me_int))))
    (ms_cons (ms_set (i := 4) (np 4 (by decide)) sc__law_take.nd rfl (by first | exact .inl rfl | exact .inr rfl) (me_op (op_modD) (me_callTy (call_intD) (by rfl) T.m_int (by decide +kernel) (mv_cons (me_op (op_addD rfl) (me_op (op_powD) (me_var (i := 3) rfl (by first | exact .inl rfl | exact .inr (.inl rfl) | exact .inr (.inr rfl))) me_int) (me_op (op_mulD) me_int (me_ixS (i := 0) rfl rfl (by first | exact .inl rfl | exact .inr (.inl rfl) | exact .inr (.inr rfl)) me_int))) mv_nil)) me_int))
    (ms_cons (ms_set (i := 4) (np 4 (by decide)) sc__law_take.nd rfl (by first | exact .inl rfl | exact .inr rfl) (me_op (op_modD) (me_callTy (call_intD) (by rfl) T.m_int (by decide +kernel) (mv_cons (me_op (op_addD rfl) (me_op (op_addD rfl) (me_op (op_mulD) (me_var (i := 4) rfl (by first | exact .inl rfl | exact .inr (.inl rfl) | exact .inr (.inr rfl))) (me_var (i := 4) rfl (by first | exact .inl rfl | exact .inr (.inl rfl) | exact .inr (.inr rfl)))) (me_op (op_mulD) me_int (me_ixS (i := 0) rfl rfl (by first | exact .inl rfl | exact .inr (.inl rfl) | exact .inr (.inr rfl)) me_int))) me_int) mv_nil)) me_int))
    (ms_one (ms_ret (me_op (op_modD) (me_callTy (call_intD) (by rfl) T.m_int (by decide +kernel) (mv_cons (me_op (op_fdivD) (me_var (i := 4) rfl (by first | exact .inl rfl | exact .inr (.inl rfl) | exact .inr (.inr rfl))) me_int) mv_nil)) (me_var (i := 1) rfl (by first | exact .inl rfl | exact .inr (.inl rfl) | exact .inr (.inr rfl)))))))))))
theorem ok__law_of (T : Txt K mg) : Has P w K mg base (L2.CX P w) 2 "_law_of" ["_law_bag_here", "_law_some"] [] (spM K 2 m__law_of) := by
  refine has_m (k := 1) T.d__law_of sc__law_of (fun fd F => ⟨[], .nil, F.bindsN fun _ _ _ _ _ _ us hl => match us, hl with | [_, _], _ => rfl⟩) (fun cv A outer s H E F0 H0 pr np hg hr => ?_)
  exact (ms_one (ms_ret (me_ixS (i := 1) rfl rfl (by first | exact .inl rfl | exact .inr (.inl rfl) | exact .inr (.inr rfl)) (me_call (ok__law_take T) rfl (fun _ => .nil) rfl (fun σ => passAt (takes_of rfl rfl rfl rfl) σ) hg (hr.mono (by first | decide | omega)) (by rfl) (ma_sl (i := 0) rfl (by first | exact .inl rfl | exact .inr (.inl rfl) | exact .inr (.inr rfl)) (ma_val (me_lenS (i := 1) rfl rfl (by first | exact .inl rfl | exact .inr (.inl rfl) | exact .inr (.inr rfl)) (by rfl) T.m_len) ma_nil)) (alS (alV al0))))))
theorem ok__law_number (T : Txt K mg) : Has P w K mg base (L2.CX P w) 3 "_law_number" ["_law_bag_here"] [] (spM K 1 m__law_number) := by
  refine has_m (k := 2) T.d__law_number sc__law_number (fun fd F => ⟨[], .nil, F.bindsN fun _ _ _ _ _ _ us hl => match us, hl with | [_], _ => rfl⟩) (fun cv A outer s H E F0 H0 pr np hg hr => ?_)
  exact (ms_cons (ms_set (i := 1) (np 1 (by decide)) sc__law_number.nd rfl (by first | exact .inl rfl | exact .inr rfl) (me_call (ok__law_take T) rfl (fun _ => .nil) rfl (fun σ => passAt (takes_of rfl rfl rfl rfl) σ) hg (hr.mono (by first | decide | omega)) (by rfl) (ma_sl (i := 0) rfl (by first | exact .inl rfl | exact .inr (.inl rfl) | exact .inr (.inr rfl)) (ma_val me_int ma_nil)) (alS (alV al0))))
    (ms_cons (ms_if (mt_cmp (op_eqDD rfl hr.units) (me_var (i := 1) rfl (by first | exact .inl rfl | exact .inr (.inl rfl) | exact .inr (.inr rfl))) me_int (nomark _))
    (ms_one (ms_ret (me_call (ok__law_of T) rfl (fun _ => .nil) rfl (fun σ => passAt (takes_of rfl rfl rfl rfl) σ) hg (hr.mono (by first | decide | omega)) (by rfl) (ma_sl (i := 0) rfl (by first | exact .inl rfl | exact .inr (.inl rfl) | exact .inr (.inr rfl)) (ma_val (me_frz (ml_lst (mv_cons me_int (mv_cons me_int (mv_cons me_int (mv_cons me_int (mv_cons me_int (mv_cons me_int (mv_cons me_int (mv_cons me_int (mv_cons me_int (mv_cons me_int (mv_cons me_int (mv_cons (me_op (op_powD) me_int me_int) (mv_cons (me_op (op_subD) (me_op (op_powD) me_int me_int) me_int) mv_nil))))))))))))))) ma_nil)) (alS (alV al0)))))
    ms_nil)
    (ms_cons (ms_if (mt_cmp (op_eqDD rfl hr.units) (me_var (i := 1) rfl (by first | exact .inl rfl | exact .inr (.inl rfl) | exact .inr (.inr rfl))) me_int (nomark _))
    (ms_one (ms_ret (me_call (ok__law_take T) rfl (fun _ => .nil) rfl (fun σ => passAt (takes_of rfl rfl rfl rfl) σ) hg (hr.mono (by first | decide | omega)) (by rfl) (ma_sl (i := 0) rfl (by first | exact .inl rfl | exact .inr (.inl rfl) | exact .inr (.inr rfl)) (ma_val me_int ma_nil)) (alS (alV al0)))))
    ms_nil)
    (ms_cons (ms_set (i := 2) (np 2 (by decide)) sc__law_number.nd rfl (by first | exact .inl rfl | exact .inr rfl) me_int)
    (ms_cons (ms_for (passes_of rfl) rfl (mi_range1 (by rfl) T.m_range (mv_cons (me_op (op_addD rfl) me_int (me_call (ok__law_take T) rfl (fun _ => .nil) rfl (fun σ => passAt (takes_of rfl rfl rfl rfl) σ) hg (hr.mono (by first | decide | omega)) (by rfl) (ma_sl (i := 0) rfl (by first | exact .inl rfl | exact .inr (.inl rfl) | exact .inr (.inr rfl)) (ma_val (me_ix rfl (me_frz (ml_lst (mv_cons me_int (mv_cons me_int mv_nil)))) (me_op (op_subD) (me_var (i := 1) rfl (by first | exact .inl rfl | exact .inr (.inl rfl) | exact .inr (.inr rfl))) me_int)) ma_nil)) (alS (alV al0)))) mv_nil)) (mg_name (i := 3) (np 3 (by decide)) sc__law_number.nd rfl (by first | exact .inl rfl | exact .inr rfl))
    (ms_one (ms_set (i := 2) (np 2 (by decide)) sc__law_number.nd rfl (by first | exact .inl rfl | exact .inr rfl) (me_op (op_addD rfl) (me_op (op_mulD) (me_var (i := 2) rfl (by first | exact .inl rfl | exact .inr (.inl rfl) | exact .inr (.inr rfl))) me_int) (me_call (ok__law_take T) rfl (fun _ => .nil) rfl (fun σ => passAt (takes_of rfl rfl rfl rfl) σ) hg (hr.mono (by first | decide | omega)) (by rfl) (ma_sl (i := 0) rfl (by first | exact .inl rfl | exact .inr (.inl rfl) | exact .inr (.inr rfl)) (ma_val me_int ma_nil)) (alS (alV al0)))))))
    (ms_one (ms_ret (me_var (i := 2) rfl (by first | exact .inl rfl | exact .inr (.inl rfl) | exact .inr (.inr rfl))))))))))
theorem ok__law_octets (T : Txt K mg) : Has P w K mg base (L2.CX P w) 3 "_law_octets" ["_law_bag_here", "_law_most"] [] (spM K 2 m__law_octets) := by
  refine has_m (k := 2) T.d__law_octets sc__law_octets (fun fd F => ⟨[], .nil, F.bindsN fun _ _ _ _ _ _ us hl => match us, hl with | [_, _], _ => rfl⟩) (fun cv A outer s H E F0 H0 pr np hg hr => ?_)
  exact (ms_one (ms_ret (me_callTy (call_tupleD rfl) (by rfl) T.m_tuple (by decide +kernel) (mv_cons (me_frz (ml_lc (own := [("_law_turn", 2)]) (by intro i hi; exact np i (by revert i; decide)) (by decide) (tg_name 2) rfl sc__law_octets.nd (mi_range1 (by rfl) T.m_range (mv_cons (me_call (ok__law_take T) rfl (fun _ => .nil) rfl (fun σ => passAt (takes_of rfl rfl rfl rfl) σ) hg (hr.mono (by first | decide | omega)) (by rfl) (ma_sl (i := 0) rfl (by first | exact .inl rfl | exact .inr (.inl rfl) | exact .inr (.inr rfl)) (ma_val (me_op (op_addD rfl) (me_var (i := 1) rfl (by first | exact .inl rfl | exact .inr (.inl rfl) | exact .inr (.inr rfl))) me_int) ma_nil)) (alS (alV al0))) mv_nil)) (blkOk_by (own := [("_law_turn", 2)]) (N := ["_law_bag_here", "_law_most", "_law_turn"]) (sc := defScope s__law_octets) (by decide +kernel)) (fun _ _ _ _ _ => (mg_name (i := 2) (np 2 (by decide)) sc__law_octets.nd rfl (by first | exact .inl rfl | exact .inr rfl))) (fun _ _ _ _ _ => mts_nil) (fun _ _ _ _ _ => (me_call (ok__law_of T) rfl (fun _ => .nil) rfl (fun σ => passF σ) hg (hr.mono (by first | decide | omega)) (by rfl) (ma_sl (i := 0) rfl (by first | exact .inl rfl | exact .inr (.inl rfl) | exact .inr (.inr rfl)) (ma_val (me_frz (ml_lst (mv_cons me_int (mv_cons me_int (mv_cons (me_call (ok__law_take T) rfl (fun _ => .nil) rfl (fun σ => passF σ) hg (hr.mono (by first | decide | omega)) (by rfl) (ma_sl (i := 0) rfl (by first | exact .inl rfl | exact .inr (.inl rfl) | exact .inr (.inr rfl)) (ma_val me_int ma_nil)) (alS (alV al0))) mv_nil))))) ma_nil)) (alS (alV al0)))))) mv_nil))))
theorem ok__law_text (T : Txt K mg) : Has P w K mg base (L2.CX P w) 3 "_law_text" ["_law_bag_here", "_law_most"] [] (spM K 2 m__law_text) := by
  refine has_m (k := 2) T.d__law_text sc__law_text (fun fd F => ⟨[], .nil, F.bindsN fun _ _ _ _ _ _ us hl => match us, hl with | [_, _], _ => rfl⟩) (fun cv A outer s H E F0 H0 pr np hg hr => ?_)
  exact (ms_cons (ms_set (i := 2) (np 2 (by decide)) sc__law_text.nd rfl (by first | exact .inl rfl | exact .inr rfl) me_str)
    (ms_cons (ms_set (i := 2) (np 2 (by decide)) sc__law_text.nd rfl (by first | exact .inl rfl | exact .inr rfl) (me_op (op_addD rfl) (me_op (op_addD rfl) me_str (me_var (i := 2) rfl (by first | exact .inl rfl | exact .inr (.inl rfl) | exact .inr (.inr rfl)))) me_str))
    (ms_one (ms_ret (me_join rfl me_str (me_frz (ml_lc (own := [("_law_turn", 3)]) (by intro i hi; exact np i (by revert i; decide)) (by decide) (tg_name 3) rfl sc__law_text.nd (mi_range1 (by rfl) T.m_range (mv_cons (me_call (ok__law_take T) rfl (fun _ => .nil) rfl (fun σ => passAt (takes_of rfl rfl rfl rfl) σ) hg (hr.mono (by first | decide | omega)) (by rfl) (ma_sl (i := 0) rfl (by first | exact .inl rfl | exact .inr (.inl rfl) | exact .inr (.inr rfl)) (ma_val (me_op (op_addD rfl) (me_var (i := 1) rfl (by first | exact .inl rfl | exact .inr (.inl rfl) | exact .inr (.inr rfl))) me_int) ma_nil)) (alS (alV al0))) mv_nil)) (blkOk_by (own := [("_law_turn", 3)]) (N := ["_law_bag_here", "_law_most", "_law_chars", "_law_turn"]) (sc := defScope s__law_text) (by decide +kernel)) (fun _ _ _ _ _ => (mg_name (i := 3) (np 3 (by decide)) sc__law_text.nd rfl (by first | exact .inl rfl | exact .inr rfl))) (fun _ _ _ _ _ => mts_nil) (fun _ _ _ _ _ => (me_ixS (i := 2) rfl rfl (by first | exact .inl rfl | exact .inr (.inl rfl) | exact .inr (.inr rfl)) (me_call (ok__law_of T) rfl (fun _ => .nil) rfl (fun σ => passF σ) hg (hr.mono (by first | decide | omega)) (by rfl) (ma_sl (i := 0) rfl (by first | exact .inl rfl | exact .inr (.inl rfl) | exact .inr (.inr rfl)) (ma_val (me_frz (ml_lst (mv_cons me_int (mv_cons me_int (mv_cons (me_call (ok__law_take T) rfl (fun _ => .nil) rfl (fun σ => passF σ) hg (hr.mono (by first | decide | omega)) (by rfl) (ma_sl (i := 0) rfl (by first | exact .inl rfl | exact .inr (.inl rfl) | exact .inr (.inr rfl)) (ma_val me_int ma_nil)) (alS (alV al0))) mv_nil))))) ma_nil)) (alS (alV al0))))))))))))
theorem ok__law_integer (T : Txt K mg) : Has P w K mg base (L2.CX P w) 4 "_law_integer" ["_law_bag_here"] [] (spM K 1 m__law_integer) := by
  refine has_m (k := 3) T.d__law_integer sc__law_integer (fun fd F => ⟨[], .nil, F.bindsN fun _ _ _ _ _ _ us hl => match us, hl with | [_], _ => rfl⟩) (fun cv A outer s H E F0 H0 pr np hg hr => ?_)
  exact (ms_cons (ms_set (i := 1) (np 1 (by decide)) sc__law_integer.nd rfl (by first | exact .inl rfl | exact .inr rfl) (me_call (ok__law_number T) rfl (fun _ => .nil) rfl (fun σ => passAt (takes_of rfl rfl rfl rfl) σ) hg (hr.mono (by first | decide | omega)) (by rfl) (ma_sl (i := 0) rfl (by first | exact .inl rfl | exact .inr (.inl rfl) | exact .inr (.inr rfl)) ma_nil) (alS al0)))
    (ms_one (ms_ret (me_if (mt_cmp (op_eqDD rfl hr.units) (me_call (ok__law_take T) rfl (fun _ => .nil) rfl (fun σ => passAt (takes_of rfl rfl rfl rfl) σ) hg (hr.mono (by first | decide | omega)) (by rfl) (ma_sl (i := 0) rfl (by first | exact .inl rfl | exact .inr (.inl rfl) | exact .inr (.inr rfl)) (ma_val me_int ma_nil)) (alS (alV al0))) me_int (nomark _)) (me_var (i := 1) rfl (by first | exact .inl rfl | exact .inr (.inl rfl) | exact .inr (.inr rfl))) (me_op (op_subD) (me_un un_negD me_int) (me_var (i := 1) rfl (by first | exact .inl rfl | exact .inr (.inl rfl) | exact .inr (.inr rfl))))))))
theorem ok_is_integer (T : Txt K mg) : Has P w K mg base (L2.CX P w) 1 "is_integer" ["thing"] [] (spM K 1 m_is_integer) := by
  refine has_m (k := 0) T.d_is_integer sc_is_integer (fun fd F => ⟨[], .nil, F.bindsN fun _ _ _ _ _ _ us hl => match us, hl with | [_], _ => rfl⟩) (fun cv A outer s H E F0 H0 pr np hg hr => ?_)
  exact (ms_one (ms_ret (me_and (me_isi rfl T.i_int (by decide) (by rfl) T.m_isinstance (me_var (i := 0) rfl (by first | exact .inl rfl | exact .inr (.inl rfl) | exact .inr (.inr rfl))) (pe_bltn (v := .ty "int") (by rfl) T.m_int (by decide +kernel) rfl) (.ty "int")) (me_one (me_not (me_isi rfl T.i_bool (by decide) (by rfl) T.m_isinstance (me_var (i := 0) rfl (by first | exact .inl rfl | exact .inr (.inl rfl) | exact .inr (.inr rfl))) (pe_bltn (v := .ty "bool") (by rfl) T.m_bool (by decide +kernel) rfl) (.ty "bool")))))))
theorem ok_is_number (T : Txt K mg) : Has P w K mg base (L2.CX P w) 2 "is_number" ["thing"] [] (spM K 1 m_is_number) := by
  refine has_m (k := 1) T.d_is_number sc_is_number (fun fd F => ⟨[], .nil, F.bindsN fun _ _ _ _ _ _ us hl => match us, hl with | [_], _ => rfl⟩) (fun cv A outer s H E F0 H0 pr np hg hr => ?_)
  exact (ms_one (ms_ret (me_and (me_call (ok_is_integer T) rfl (fun _ => .nil) rfl (fun σ => passAt (takes_of rfl rfl rfl rfl) σ) hg (hr.mono (by first | decide | omega)) (by rfl) (ma_sl (i := 0) rfl (by first | exact .inl rfl | exact .inr (.inl rfl) | exact .inr (.inr rfl)) ma_nil) (alS al0)) (me_one (me_chn (op_leD) (op_leD) me_int (me_var (i := 0) rfl (by first | exact .inl rfl | exact .inr (.inl rfl) | exact .inr (.inr rfl))) (me_cst (pe_glob (v := .int (256 ^ 63 - 1)) (by rfl) T.g_MOST.choose_spec ⟨_, rfl⟩) (fun _ => .int _)))))))
theorem ok_is_byte (T : Txt K mg) : Has P w K mg base (L2.CX P w) 2 "is_byte" ["thing"] [] (spM K 1 m_is_byte) := by
  refine has_m (k := 1) T.d_is_byte sc_is_byte (fun fd F => ⟨[], .nil, F.bindsN fun _ _ _ _ _ _ us hl => match us, hl with | [_], _ => rfl⟩) (fun cv A outer s H E F0 H0 pr np hg hr => ?_)
  exact (ms_one (ms_ret (me_and (me_call (ok_is_integer T) rfl (fun _ => .nil) rfl (fun σ => passAt (takes_of rfl rfl rfl rfl) σ) hg (hr.mono (by first | decide | omega)) (by rfl) (ma_sl (i := 0) rfl (by first | exact .inl rfl | exact .inr (.inl rfl) | exact .inr (.inr rfl)) ma_nil) (alS al0)) (me_one (me_chn (op_leD) (op_leD) me_int (me_var (i := 0) rfl (by first | exact .inl rfl | exact .inr (.inl rfl) | exact .inr (.inr rfl))) me_int)))))
theorem ok_base_bytes (T : Txt K mg) : Has P w K mg base (L2.CX P w) 1 "base_bytes" ["number"] [] (spM K 1 m_base_bytes) := by
  refine has_m (k := 0) T.d_base_bytes sc_base_bytes (fun fd F => ⟨[], .nil, F.bindsN fun _ _ _ _ _ _ us hl => match us, hl with | [_], _ => rfl⟩) (fun cv A outer s H E F0 H0 pr np hg hr => ?_)
  exact (ms_cons (ms_setL (i := 1) (np 1 (by decide)) sc_base_bytes.nd rfl (by first | exact .inl rfl | exact .inr rfl) (ml_lst mv_nil))
    (ms_cons (ms_while (passes_of rfl) (mt_cmp (op_gtD) (me_var (i := 0) rfl (by first | exact .inl rfl | exact .inr (.inl rfl) | exact .inr (.inr rfl))) me_int (nomark _))
    (ms_cons (ms_expr (me_mt (i := 1) (md_append _) rfl PySem.F.slot_list_append PySem.F.type_list_append mt_append rfl (by first | exact .inl rfl | exact .inr (.inl rfl) | exact .inr (.inr rfl)) (mv_cons (me_op (op_andD) (me_var (i := 0) rfl (by first | exact .inl rfl | exact .inr (.inl rfl) | exact .inr (.inr rfl))) me_int) mv_nil)))
    (ms_one (ms_set (i := 0) (np 0 (by decide)) sc_base_bytes.nd rfl (by first | exact .inl rfl | exact .inr rfl) (me_op (op_shrD) (me_var (i := 0) rfl (by first | exact .inl rfl | exact .inr (.inl rfl) | exact .inr (.inr rfl))) me_int)))))
    (ms_cons (ms_expr (me_mt0 (i := 1) (md_reverse _) rfl PySem.F.slot_list_reverse PySem.F.type_list_reverse mt_reverse rfl (by first | exact .inl rfl | exact .inr (.inl rfl) | exact .inr (.inr rfl))))
    (ms_one (ms_retS (i := 1) (np 1 (by decide)) rfl (by first | exact .inl rfl | exact .inr (.inl rfl) | exact .inr (.inr rfl)))))))
theorem ok_plain_code (T : Txt K mg) : Has P w K mg base (L2.CX P w) 2 "plain_code" ["number"] [] (spM K 1 m_plain_code) := by
  refine has_m (k := 1) T.d_plain_code sc_plain_code (fun fd F => ⟨[], .nil, F.bindsN fun _ _ _ _ _ _ us hl => match us, hl with | [_], _ => rfl⟩) (fun cv A outer s H E F0 H0 pr np hg hr => ?_)
  exact (ms_cons (ms_if (mt_cmp (op_ltD' rfl hr.units) (me_var (i := 0) rfl (by first | exact .inl rfl | exact .inr (.inl rfl) | exact .inr (.inr rfl))) me_int (nomark _))
    (ms_one (ms_ret (me_frz (ml_lst (mv_cons (me_var (i := 0) rfl (by first | exact .inl rfl | exact .inr (.inl rfl) | exact .inr (.inr rfl))) mv_nil)))))
    ms_nil)
    (ms_cons (ms_set (i := 1) (np 1 (by decide)) sc_plain_code.nd rfl (by first | exact .inl rfl | exact .inr rfl) (me_call (ok_base_bytes T) rfl (fun _ => .nil) rfl (fun σ => passAt (takes_of rfl rfl rfl rfl) σ) hg (hr.mono (by first | decide | omega)) (by rfl) (ma_sl (i := 0) rfl (by first | exact .inl rfl | exact .inr (.inl rfl) | exact .inr (.inr rfl)) ma_nil) (alS al0)))
    (ms_one (ms_ret (me_op (op_addD rfl) (me_frz (ml_lst (mv_cons (me_op (op_addD rfl) me_int (me_lenS (i := 1) rfl rfl (by first | exact .inl rfl | exact .inr (.inl rfl) | exact .inr (.inr rfl)) (by rfl) T.m_len)) mv_nil))) (me_var (i := 1) rfl (by first | exact .inl rfl | exact .inr (.inl rfl) | exact .inr (.inr rfl))))))))
theorem ok_is_text (T : Txt K mg) : Has P w K mg base (L2.CX P w) 1 "is_text" ["thing"] [] (spM K 1 m_is_text) := by
  refine has_m (k := 0) T.d_is_text sc_is_text (fun fd F => ⟨[], .nil, F.bindsN fun _ _ _ _ _ _ us hl => match us, hl with | [_], _ => rfl⟩) (fun cv A outer s H E F0 H0 pr np hg hr => ?_)
  exact (ms_one (ms_ret (me_and (me_isi rfl T.i_str (by decide) (by rfl) T.m_isinstance (me_var (i := 0) rfl (by first | exact .inl rfl | exact .inr (.inl rfl) | exact .inr (.inr rfl))) (pe_bltn (v := .ty "str") (by rfl) T.m_str (by decide +kernel) rfl) (.ty "str")) (me_one (me_callB (call_allD rfl rfl) (by rfl) T.m_all (by decide +kernel) (mv_cons (me_frz (ml_lc (own := [("char", 1)]) (by intro i hi; exact np i (by revert i; decide)) (by decide) (tg_name 1) rfl sc_is_text.nd (mi_data rfl (me_var (i := 0) rfl (by first | exact .inl rfl | exact .inr (.inl rfl) | exact .inr (.inr rfl)))) (blkOk_by (own := [("char", 1)]) (N := ["thing", "char"]) (sc := defScope s_is_text) (by decide +kernel)) (fun _ _ _ _ _ => (mg_name (i := 1) (np 1 (by decide)) sc_is_text.nd rfl (by first | exact .inl rfl | exact .inr rfl))) (fun _ _ _ _ _ => mts_nil) (fun _ _ _ _ _ => (me_cmp (op_inD rfl) (me_var (i := 1) rfl (by first | exact .inl rfl | exact .inr (.inl rfl) | exact .inr (.inr rfl))) (me_cst (pe_glob (v := .str vCHARS) (by rfl) T.g_CHARS.choose_spec ⟨_, rfl⟩) (fun _ => .str _)) (by rfl))))) mv_nil))))))
theorem ok_is_octets (T : Txt K mg) : Has P w K mg base (L2.CX P w) 3 "is_octets" ["thing"] [] (spM K 1 m_is_octets) := by
  refine has_m (k := 2) T.d_is_octets sc_is_octets (fun fd F => ⟨[], .nil, F.bindsN fun _ _ _ _ _ _ us hl => match us, hl with | [_], _ => rfl⟩) (fun cv A outer s H E F0 H0 pr np hg hr => ?_)
  exact (ms_one (ms_ret (me_and (me_isi rfl T.i_tuple (by decide) (by rfl) T.m_isinstance (me_var (i := 0) rfl (by first | exact .inl rfl | exact .inr (.inl rfl) | exact .inr (.inr rfl))) (pe_bltn (v := .ty "tuple") (by rfl) T.m_tuple (by decide +kernel) rfl) (.ty "tuple")) (me_one (me_callB (call_allD rfl rfl) (by rfl) T.m_all (by decide +kernel) (mv_cons (me_frz (ml_lc (own := [("entry", 1)]) (by intro i hi; exact np i (by revert i; decide)) (by decide) (tg_name 1) rfl sc_is_octets.nd (mi_data rfl (me_var (i := 0) rfl (by first | exact .inl rfl | exact .inr (.inl rfl) | exact .inr (.inr rfl)))) (blkOk_by (own := [("entry", 1)]) (N := ["thing", "entry"]) (sc := defScope s_is_octets) (by decide +kernel)) (fun _ _ _ _ _ => (mg_name (i := 1) (np 1 (by decide)) sc_is_octets.nd rfl (by first | exact .inl rfl | exact .inr rfl))) (fun _ _ _ _ _ => mts_nil) (fun _ _ _ _ _ => (me_call (ok_is_byte T) rfl (fun _ => .nil) rfl (fun σ => passF σ) hg (hr.mono (by first | decide | omega)) (by rfl) (ma_sl (i := 1) rfl (by first | exact .inl rfl | exact .inr (.inl rfl) | exact .inr (.inr rfl)) ma_nil) (alS al0))))) mv_nil))))))
theorem ok_is_key (T : Txt K mg) : Has P w K mg base (L2.CX P w) 4 "is_key" ["thing"] [] (spM K 1 m_is_key) := by
  refine has_m (k := 3) T.d_is_key sc_is_key (fun fd F => ⟨[], .nil, F.bindsN fun _ _ _ _ _ _ us hl => match us, hl with | [_], _ => rfl⟩) (fun cv A outer s H E F0 H0 pr np hg hr => ?_)
  exact (ms_cons (ms_if (mt_truth rfl (me_call (ok_is_integer T) rfl (fun _ => .nil) rfl (fun σ => passAt (takes_of rfl rfl rfl rfl) σ) hg (hr.mono (by first | decide | omega)) (by rfl) (ma_sl (i := 0) rfl (by first | exact .inl rfl | exact .inr (.inl rfl) | exact .inr (.inr rfl)) ma_nil) (alS al0)))
    (ms_one (ms_ret (me_chn (op_leD) (op_leD) (me_un un_negD (me_cst (pe_glob (v := .int (256 ^ 63)) (by rfl) T.g_LIMIT.choose_spec ⟨_, rfl⟩) (fun _ => .int _))) (me_var (i := 0) rfl (by first | exact .inl rfl | exact .inr (.inl rfl) | exact .inr (.inr rfl))) (me_cst (pe_glob (v := .int (256 ^ 63 - 1)) (by rfl) T.g_MOST.choose_spec ⟨_, rfl⟩) (fun _ => .int _)))))
    ms_nil)
    (ms_one (ms_ret (me_or (me_call (ok_is_text T) rfl (fun _ => .nil) rfl (fun σ => passAt (takes_of rfl rfl rfl rfl) σ) hg (hr.mono (by first | decide | omega)) (by rfl) (ma_sl (i := 0) rfl (by first | exact .inl rfl | exact .inr (.inl rfl) | exact .inr (.inr rfl)) ma_nil) (alS al0)) (me_one (me_call (ok_is_octets T) rfl (fun _ => .nil) rfl (fun σ => passAt (takes_of rfl rfl rfl rfl) σ) hg (hr.mono (by first | decide | omega)) (by rfl) (ma_sl (i := 0) rfl (by first | exact .inl rfl | exact .inr (.inl rfl) | exact .inr (.inr rfl)) ma_nil) (alS al0)))))))
theorem ok_is_plain (T : Txt K mg) : Has P w K mg base (L2.CX P w) 1 "is_plain" ["thing"] [] (spM K 1 m_is_plain) := by
  refine has_m (k := 0) T.d_is_plain sc_is_plain (fun fd F => ⟨[], .nil, F.bindsN fun _ _ _ _ _ _ us hl => match us, hl with | [_], _ => rfl⟩) (fun cv A outer s H E F0 H0 pr np hg hr => ?_)
  exact (ms_one (ms_ret (me_or (me_cmp (op_isDD) (me_var (i := 0) rfl (by first | exact .inl rfl | exact .inr (.inl rfl) | exact .inr (.inr rfl))) me_non (nomark _)) (me_one (me_isi rfl T.i_bool (by decide) (by rfl) T.m_isinstance (me_var (i := 0) rfl (by first | exact .inl rfl | exact .inr (.inl rfl) | exact .inr (.inr rfl))) (pe_bltn (v := .ty "bool") (by rfl) T.m_bool (by decide +kernel) rfl) (.ty "bool"))))))
theorem ok_integer_row (T : Txt K mg) : Has P w K mg base (L2.CX P w) 3 "integer_row" ["number"] [] (spM K 1 m_integer_row) := by
  refine has_m (k := 2) T.d_integer_row sc_integer_row (fun fd F => ⟨[], .nil, F.bindsN fun _ _ _ _ _ _ us hl => match us, hl with | [_], _ => rfl⟩) (fun cv A outer s H E F0 H0 pr np hg hr => ?_)
  exact (ms_cons (ms_if (mt_cmp (op_geD) (me_var (i := 0) rfl (by first | exact .inl rfl | exact .inr (.inl rfl) | exact .inr (.inr rfl))) me_int (nomark _))
    (ms_one (ms_ret (me_op (op_addD rfl) (me_frz (ml_lst (mv_cons me_int mv_nil))) (me_call (ok_plain_code T) rfl (fun _ => .nil) rfl (fun σ => passAt (takes_of rfl rfl rfl rfl) σ) hg (hr.mono (by first | decide | omega)) (by rfl) (ma_sl (i := 0) rfl (by first | exact .inl rfl | exact .inr (.inl rfl) | exact .inr (.inr rfl)) ma_nil) (alS al0)))))
    ms_nil)
    (ms_one (ms_ret (me_op (op_addD rfl) (me_frz (ml_lst (mv_cons me_int mv_nil))) (me_frz (ml_lc (own := [("digit", 1)]) (by intro i hi; exact np i (by revert i; decide)) (by decide) (tg_name 1) rfl sc_integer_row.nd (mi_data rfl (me_call (ok_plain_code T) rfl (fun _ => .nil) rfl (fun σ => passAt (takes_of rfl rfl rfl rfl) σ) hg (hr.mono (by first | decide | omega)) (by rfl) (ma_val (me_op (op_subD) (me_un un_negD me_int) (me_var (i := 0) rfl (by first | exact .inl rfl | exact .inr (.inl rfl) | exact .inr (.inr rfl)))) ma_nil) (alV al0))) (blkOk_by (own := [("digit", 1)]) (N := ["number", "digit"]) (sc := defScope s_integer_row) (by decide +kernel)) (fun _ _ _ _ _ => (mg_name (i := 1) (np 1 (by decide)) sc_integer_row.nd rfl (by first | exact .inl rfl | exact .inr rfl))) (fun _ _ _ _ _ => mts_nil) (fun _ _ _ _ _ => (me_op (op_subD) me_int (me_var (i := 1) rfl (by first | exact .inl rfl | exact .inr (.inl rfl) | exact .inr (.inr rfl)))))))))))
theorem ok_scalar_row (T : Txt K mg) : Has P w K mg base (L2.CX P w) 4 "scalar_row" ["thing"] [] (spM K 1 m_scalar_row) := by
  refine has_m (k := 3) T.d_scalar_row sc_scalar_row (fun fd F => ⟨[], .nil, F.bindsN fun _ _ _ _ _ _ us hl => match us, hl with | [_], _ => rfl⟩) (fun cv A outer s H E F0 H0 pr np hg hr => ?_)
  exact (ms_cons (ms_if (mt_cmp (op_isDD) (me_var (i := 0) rfl (by first | exact .inl rfl | exact .inr (.inl rfl) | exact .inr (.inr rfl))) me_non (nomark _))
    (ms_one (ms_ret (me_frz (ml_lst (mv_cons me_int mv_nil)))))
    ms_nil)
    (ms_cons (ms_if (mt_truth rfl (me_isi rfl T.i_bool (by decide) (by rfl) T.m_isinstance (me_var (i := 0) rfl (by first | exact .inl rfl | exact .inr (.inl rfl) | exact .inr (.inr rfl))) (pe_bltn (v := .ty "bool") (by rfl) T.m_bool (by decide +kernel) rfl) (.ty "bool")))
    (ms_one (ms_ret (me_frz (ml_lst (mv_cons (me_op (op_addD rfl) me_int (me_callTy (call_intD) (by rfl) T.m_int (by decide +kernel) (mv_cons (me_var (i := 0) rfl (by first | exact .inl rfl | exact .inr (.inl rfl) | exact .inr (.inr rfl))) mv_nil))) mv_nil)))))
    ms_nil)
    (ms_cons (ms_if (mt_truth rfl (me_isi rfl T.i_int (by decide) (by rfl) T.m_isinstance (me_var (i := 0) rfl (by first | exact .inl rfl | exact .inr (.inl rfl) | exact .inr (.inr rfl))) (pe_bltn (v := .ty "int") (by rfl) T.m_int (by decide +kernel) rfl) (.ty "int")))
    (ms_one (ms_ret (me_call (ok_integer_row T) rfl (fun _ => .nil) rfl (fun σ => passAt (takes_of rfl rfl rfl rfl) σ) hg (hr.mono (by first | decide | omega)) (by rfl) (ma_sl (i := 0) rfl (by first | exact .inl rfl | exact .inr (.inl rfl) | exact .inr (.inr rfl)) ma_nil) (alS al0))))
    ms_nil)
    (ms_cons (ms_if (mt_truth rfl (me_isi rfl T.i_tuple (by decide) (by rfl) T.m_isinstance (me_var (i := 0) rfl (by first | exact .inl rfl | exact .inr (.inl rfl) | exact .inr (.inr rfl))) (pe_bltn (v := .ty "tuple") (by rfl) T.m_tuple (by decide +kernel) rfl) (.ty "tuple")))
    (ms_one (ms_ret (me_op (op_addD rfl) (me_op (op_addD rfl) (me_frz (ml_lst (mv_cons me_int mv_nil))) (me_call (ok_plain_code T) rfl (fun _ => .nil) rfl (fun σ => passAt (takes_of rfl rfl rfl rfl) σ) hg (hr.mono (by first | decide | omega)) (by rfl) (ma_val (me_lenS (i := 0) rfl rfl (by first | exact .inl rfl | exact .inr (.inl rfl) | exact .inr (.inr rfl)) (by rfl) T.m_len) ma_nil) (alV al0))) (me_frz (ml_callTy (call_listD rfl) (by rfl) T.m_list (by decide +kernel) (mv_cons (me_var (i := 0) rfl (by first | exact .inl rfl | exact .inr (.inl rfl) | exact .inr (.inr rfl))) mv_nil))))))
    ms_nil)
    (ms_one (ms_ret (me_op (op_addD rfl) (me_op (op_addD rfl) (me_frz (ml_lst (mv_cons me_int mv_nil))) (me_call (ok_plain_code T) rfl (fun _ => .nil) rfl (fun σ => passAt (takes_of rfl rfl rfl rfl) σ) hg (hr.mono (by first | decide | omega)) (by rfl) (ma_val (me_lenS (i := 0) rfl rfl (by first | exact .inl rfl | exact .inr (.inl rfl) | exact .inr (.inr rfl)) (by rfl) T.m_len) ma_nil) (alV al0))) (me_frz (ml_lc (own := [("char", 1)]) (by intro i hi; exact np i (by revert i; decide)) (by decide) (tg_name 1) rfl sc_scalar_row.nd (mi_data rfl (me_var (i := 0) rfl (by first | exact .inl rfl | exact .inr (.inl rfl) | exact .inr (.inr rfl)))) (blkOk_by (own := [("char", 1)]) (N := ["thing", "char"]) (sc := defScope s_scalar_row) (by decide +kernel)) (fun _ _ _ _ _ => (mg_name (i := 1) (np 1 (by decide)) sc_scalar_row.nd rfl (by first | exact .inl rfl | exact .inr rfl))) (fun _ _ _ _ _ => mts_nil) (fun _ _ _ _ _ => (me_callB (call_ordD) (by rfl) T.m_ord (by decide +kernel) (mv_cons (me_var (i := 1) rfl (by first | exact .inl rfl | exact .inr (.inl rfl) | exact .inr (.inr rfl))) mv_nil))))))))))))
theorem ok_key_row (T : Txt K mg) : Has P w K mg base (L2.CX P w) 5 "key_row" ["key"] [] (spM K 1 m_key_row) := by
  refine has_m (k := 4) T.d_key_row sc_key_row (fun fd F => ⟨[], .nil, F.bindsN fun _ _ _ _ _ _ us hl => match us, hl with | [_], _ => rfl⟩) (fun cv A outer s H E F0 H0 pr np hg hr => ?_)
  exact (ms_one (ms_ret (me_callTy (call_tupleD rfl) (by rfl) T.m_tuple (by decide +kernel) (mv_cons (me_call (ok_scalar_row T) rfl (fun _ => .nil) rfl (fun σ => passAt (takes_of rfl rfl rfl rfl) σ) hg (hr.mono (by first | decide | omega)) (by rfl) (ma_sl (i := 0) rfl (by first | exact .inl rfl | exact .inr (.inl rfl) | exact .inr (.inr rfl)) ma_nil) (alS al0)) mv_nil))))
theorem ok_sorted_keys (T : Txt K mg) : Has P w K mg base (L2.CX P w) 8 "sorted_keys" ["table"] [] (spM K 1 m_sorted_keys) := by
  refine has_m (k := 7) T.d_sorted_keys sc_sorted_keys (fun fd F => ⟨[], .nil, F.bindsN fun _ _ _ _ _ _ us hl => match us, hl with | [_], _ => rfl⟩) (fun cv A outer s H E F0 H0 pr np hg hr => ?_)
  exact (ms_one (ms_ret (me_frz (ml_sortK (ok_key_row T) rfl hg (hr.mono (by first | decide | omega)) (by rfl) T.m_sorted (by rfl) (me_frz (ml_callTy (call_listDD rfl rfl) (by rfl) T.m_list (by decide +kernel) (mv_cons (me_var (i := 0) rfl (by first | exact .inl rfl | exact .inr (.inl rfl) | exact .inr (.inr rfl))) mv_nil)))))))
theorem ok_steps_of (T : Txt K mg) : Has P w K mg base (L2.CX P w) 9 "steps_of" ["nest"] [] (spM K 1 (m_steps_of w)) := by
  refine has_m (k := 8) T.d_steps_of sc_steps_of (fun fd F => ⟨[], .nil, F.bindsN fun _ _ _ _ _ _ us hl => match us, hl with | [_], _ => rfl⟩) (fun cv A outer s H E F0 H0 pr np hg hr => ?_)
  exact (ms_cons (ms_if (mt_truth rfl (me_isi rfl T.i_list (by decide) (by rfl) T.m_isinstance (me_var (i := 0) rfl (by first | exact .inl rfl | exact .inr (.inl rfl) | exact .inr (.inr rfl))) (pe_bltn (v := .ty "list") (by rfl) T.m_list (by decide +kernel) rfl) (.ty "list")))
    (ms_one (ms_ret (me_frz (ml_lc (own := [("at", 1), ("part", 2)]) (by intro i hi; exact np i (by revert i; decide)) (by decide) (tg_tup (tgs_cons (tg_name 1) (tgs_cons (tg_name 2) tgs_nil))) rfl sc_steps_of.nd (mi_enumerate rfl (by rfl) T.m_enumerate (mv_cons (me_var (i := 0) rfl (by first | exact .inl rfl | exact .inr (.inl rfl) | exact .inr (.inr rfl))) mv_nil)) (blkOk_by (own := [("at", 1), ("part", 2)]) (N := ["nest", "at", "part", "key"]) (sc := defScope s_steps_of) (by decide +kernel)) (fun _ _ _ _ _ => (mg_tup rfl rfl (mgs_cons (mg_name (i := 1) (np 1 (by decide)) sc_steps_of.nd rfl (by first | exact .inl rfl | exact .inr rfl)) (mgs_cons (mg_name (i := 2) (np 2 (by decide)) sc_steps_of.nd rfl (by first | exact .inl rfl | exact .inr rfl)) mgs_nil)))) (fun _ _ _ _ _ => mts_nil) (fun _ _ _ _ _ => (me_tup (mv_cons (me_var (i := 1) rfl (by first | exact .inl rfl | exact .inr (.inl rfl) | exact .inr (.inr rfl))) (mv_cons (me_var (i := 2) rfl (by first | exact .inl rfl | exact .inr (.inl rfl) | exact .inr (.inr rfl))) mv_nil))))))))
    ms_nil)
    (ms_cons (ms_if (mt_truth rfl (me_isi rfl T.i_dict (by decide) (by rfl) T.m_isinstance (me_var (i := 0) rfl (by first | exact .inl rfl | exact .inr (.inl rfl) | exact .inr (.inr rfl))) (pe_bltn (v := .ty "dict") (by rfl) T.m_dict (by decide +kernel) rfl) (.ty "dict")))
    (ms_one (ms_ret (me_frz (ml_lc (own := [("key", 3)]) (by intro i hi; exact np i (by revert i; decide)) (by decide) (tg_name 3) rfl sc_steps_of.nd (mi_data rfl (me_call (ok_sorted_keys T) rfl (fun _ => .nil) rfl (fun σ => passAt (takes_of rfl rfl rfl rfl) σ) hg (hr.mono (by first | decide | omega)) (by rfl) (ma_sl (i := 0) rfl (by first | exact .inl rfl | exact .inr (.inl rfl) | exact .inr (.inr rfl)) ma_nil) (alS al0))) (blkOk_by (own := [("key", 3)]) (N := ["nest", "at", "part", "key"]) (sc := defScope s_steps_of) (by decide +kernel)) (fun _ _ _ _ _ => (mg_name (i := 3) (np 3 (by decide)) sc_steps_of.nd rfl (by first | exact .inl rfl | exact .inr rfl))) (fun _ _ _ _ _ => mts_nil) (fun _ _ _ _ _ => (me_tup (mv_cons (me_var (i := 3) rfl (by first | exact .inl rfl | exact .inr (.inl rfl) | exact .inr (.inr rfl))) (mv_cons (me_dix rfl rfl hr.units (me_var (i := 0) rfl (by first | exact .inl rfl | exact .inr (.inl rfl) | exact .inr (.inr rfl))) (me_var (i := 3) rfl (by first | exact .inl rfl | exact .inr (.inl rfl) | exact .inr (.inr rfl)))) mv_nil))))))))
    ms_nil)
    (ms_one ms_never)))
theorem ok_first_bad (T : Txt K mg) : ∀ n, Has P w K mg base (L2.CX P w) (n + 10) "first_bad" ["thing", "room"] [] (spM K 2 (m_first_bad w n))
  | 0 => has_stuck T.d_first_bad sc_first_bad (fun fd F => ⟨[], .nil, F.bindsN fun _ _ _ _ _ _ us hl => match us, hl with | [_, _], _ => rfl⟩)
  | n + 1 => by
    have ih := ok_first_bad T n
    refine has_m (k := n + 10) T.d_first_bad sc_first_bad (fun fd F => ⟨[], .nil, F.bindsN fun _ _ _ _ _ _ us hl => match us, hl with | [_, _], _ => rfl⟩) (fun cv A outer s H E F0 H0 pr np hg hr => ?_)
    exact (ms_cons (ms_if (PW.pt (mw_or (mt_truth rfl (me_call (ok_is_plain T) rfl (fun _ => .nil) rfl (fun σ => passAt (takes_of rfl rfl rfl rfl) σ) hg (hr.mono (by first | decide | omega)) (by rfl) (ma_sl (i := 0) rfl (by first | exact .inl rfl | exact .inr (.inl rfl) | exact .inr (.inr rfl)) ma_nil) (alS al0))) (mw_or1 (mt_truth rfl (me_call (ok_is_key T) rfl (fun _ => .nil) rfl (fun σ => passAt (takes_of rfl rfl rfl rfl) σ) hg (hr.mono (by first | decide | omega)) (by rfl) (ma_sl (i := 0) rfl (by first | exact .inl rfl | exact .inr (.inl rfl) | exact .inr (.inr rfl)) ma_nil) (alS al0))))))
      (ms_one (ms_ret me_non))
      ms_nil)
      (ms_cons (ms_if (PW.pt (mw_and (mt_not (mt_truth rfl (me_isiT rfl (by decide) (.cons T.i_list (.cons T.i_dict .nil)) (by decide) (isi_ins T.i_list) (by rfl) T.m_isinstance (me_var (i := 0) rfl (by first | exact .inl rfl | exact .inr (.inl rfl) | exact .inr (.inr rfl))) (pa_cons (pe_bltn (v := .ty "list") (by rfl) T.m_list (by decide +kernel) rfl) (pa_cons (pe_bltn (v := .ty "dict") (by rfl) T.m_dict (by decide +kernel) rfl) pa_nil)) (.cons (.ty "list") (.cons (.ty "dict") .nil))))) (mw_and1 (mt_not (mt_truth rfl (me_isi rfl T.i_Tag (by decide) (by rfl) T.m_isinstance (me_var (i := 0) rfl (by first | exact .inl rfl | exact .inr (.inl rfl) | exact .inr (.inr rfl))) (pe_glob (v := .ref (He.ga K "Tag")) (by rfl) T.c_Tag rfl) (.own _)))))))
      (ms_one (ms_ret (me_tup mv_nil)))
      ms_nil)
      (ms_cons (ms_if (mt_cmp (op_eqDD rfl hr.units) (me_var (i := 1) rfl (by first | exact .inl rfl | exact .inr (.inl rfl) | exact .inr (.inr rfl))) me_int (nomark _))
      (ms_one (ms_ret (me_tup mv_nil)))
      ms_nil)
      (ms_cons (ms_if (PW.pt (mw_and (mt_truth rfl (me_isi rfl T.i_dict (by decide) (by rfl) T.m_isinstance (me_var (i := 0) rfl (by first | exact .inl rfl | exact .inr (.inl rfl) | exact .inr (.inr rfl))) (pe_bltn (v := .ty "dict") (by rfl) T.m_dict (by decide +kernel) rfl) (.ty "dict"))) (mw_and1 (mt_not (mt_truth rfl (me_callB (call_allD rfl rfl) (by rfl) T.m_all (by decide +kernel) (mv_cons (me_frz (ml_lc (own := [("key", 2)]) (by intro i hi; exact np i (by revert i; decide)) (by decide) (tg_name 2) rfl sc_first_bad.nd (mi_data rfl (me_var (i := 0) rfl (by first | exact .inl rfl | exact .inr (.inl rfl) | exact .inr (.inr rfl)))) (blkOk_by (own := [("key", 2)]) (N := ["thing", "room", "key", "step", "part", "path"]) (sc := defScope s_first_bad) (by decide +kernel)) (fun _ _ _ _ _ => (mg_name (i := 2) (np 2 (by decide)) sc_first_bad.nd rfl (by first | exact .inl rfl | exact .inr rfl))) (fun _ _ _ _ _ => mts_nil) (fun _ _ _ _ _ => (me_call (ok_is_key T) rfl (fun _ => .nil) rfl (fun σ => passF σ) hg (hr.mono (by first | decide | omega)) (by rfl) (ma_sl (i := 2) rfl (by first | exact .inl rfl | exact .inr (.inl rfl) | exact .inr (.inr rfl)) ma_nil) (alS al0))))) mv_nil)))))))
      (ms_one (ms_ret (me_tup mv_nil)))
      ms_nil)
      (ms_cons (ms_for (passes_of rfl) rfl (mi_data rfl (me_call (ok_steps_of T) rfl (fun _ => .nil) rfl (fun σ => passAt (takes_of rfl rfl rfl rfl) σ) hg (hr.mono (by first | decide | omega)) (by rfl) (ma_sl (i := 0) rfl (by first | exact .inl rfl | exact .inr (.inl rfl) | exact .inr (.inr rfl)) ma_nil) (alS al0))) (mg_tup rfl rfl (mgs_cons (mg_name (i := 3) (np 3 (by decide)) sc_first_bad.nd rfl (by first | exact .inl rfl | exact .inr rfl)) (mgs_cons (mg_name (i := 4) (np 4 (by decide)) sc_first_bad.nd rfl (by first | exact .inl rfl | exact .inr rfl)) mgs_nil)))
      (ms_cons (ms_set (i := 5) (np 5 (by decide)) sc_first_bad.nd rfl (by first | exact .inl rfl | exact .inr rfl) (me_call (ih) rfl (fun _ => .nil) rfl (fun σ => passAt (takes_of rfl rfl rfl rfl) σ) hg (hr.mono (by first | decide | omega)) (by rfl) (ma_sl (i := 4) rfl (by first | exact .inl rfl | exact .inr (.inl rfl) | exact .inr (.inr rfl)) (ma_val (me_op (op_subD) (me_var (i := 1) rfl (by first | exact .inl rfl | exact .inr (.inl rfl) | exact .inr (.inr rfl))) me_int) ma_nil)) (alS (alV al0))))
      (ms_one (ms_if (mt_cmp (op_isNotDD) (me_var (i := 5) rfl (by first | exact .inl rfl | exact .inr (.inl rfl) | exact .inr (.inr rfl))) me_non (nomark _))
      (ms_one (ms_ret (me_op (op_addD rfl) (me_tup (mv_cons (me_var (i := 3) rfl (by first | exact .inl rfl | exact .inr (.inl rfl) | exact .inr (.inr rfl))) mv_nil)) (me_var (i := 5) rfl (by first | exact .inl rfl | exact .inr (.inl rfl) | exact .inr (.inr rfl))))))
      ms_nil))))
      (ms_one (ms_ret me_non)))))))
theorem ok_is_value (T : Txt K mg) : Has P w K mg base (L2.CX P w) 23 "is_value" ["value"] [] (spM K 1 (m_is_value w)) := by
  refine has_m (k := 22) T.d_is_value sc_is_value (fun fd F => ⟨[], .nil, F.bindsN fun _ _ _ _ _ _ us hl => match us, hl with | [_], _ => rfl⟩) (fun cv A outer s H E F0 H0 pr np hg hr => ?_)
  exact (ms_one (ms_ret (me_cmp (op_isDD) (me_call (ok_first_bad T 12) rfl (fun _ => .nil) rfl (fun σ => passAt (takes_of rfl rfl rfl rfl) σ) hg (hr.mono (by first | decide | omega)) (by rfl) (ma_sl (i := 0) rfl (by first | exact .inl rfl | exact .inr (.inl rfl) | exact .inr (.inr rfl)) (ma_val (me_cst (pe_glob (v := .int (24)) (by rfl) T.g_DEEPEST.choose_spec ⟨_, rfl⟩) (fun _ => .int _)) ma_nil)) (alS (alV al0))) me_non (nomark _))))
theorem ok_encoded (T : Txt K mg) : ∀ n, Has P w K mg base (L2.CX P w) (n + 9) "encoded" ["value"] [] (spM K 1 (m_encoded w n))
  | 0 => has_stuck T.d_encoded sc_encoded (fun fd F => ⟨[], .nil, F.bindsN fun _ _ _ _ _ _ us hl => match us, hl with | [_], _ => rfl⟩)
  | n + 1 => by
    have ih := ok_encoded T n
    refine has_m (k := n + 9) T.d_encoded sc_encoded (fun fd F => ⟨[], .nil, F.bindsN fun _ _ _ _ _ _ us hl => match us, hl with | [_], _ => rfl⟩) (fun cv A outer s H E F0 H0 pr np hg hr => ?_)
    exact (ms_cons (ms_if (mt_truth rfl (me_isi rfl T.i_list (by decide) (by rfl) T.m_isinstance (me_var (i := 0) rfl (by first | exact .inl rfl | exact .inr (.inl rfl) | exact .inr (.inr rfl))) (pe_bltn (v := .ty "list") (by rfl) T.m_list (by decide +kernel) rfl) (.ty "list")))
      (ms_cons (ms_setL (i := 1) (np 1 (by decide)) sc_encoded.nd rfl (by first | exact .inl rfl | exact .inr rfl) (ml_op op_catL (me_frz (ml_lst (mv_cons me_int mv_nil))) (me_call (ok_plain_code T) rfl (fun _ => .nil) rfl (fun σ => passAt (takes_of rfl rfl rfl rfl) σ) hg (hr.mono (by first | decide | omega)) (by rfl) (ma_val (me_callB (call_lenDD rfl) (by rfl) T.m_len PySem.boot_len (mv_cons (me_var (i := 0) rfl (by first | exact .inl rfl | exact .inr (.inl rfl) | exact .inr (.inr rfl))) mv_nil)) ma_nil) (alV al0))))
      (ms_cons (ms_for (passes_of rfl) rfl (mi_data rfl (me_var (i := 0) rfl (by first | exact .inl rfl | exact .inr (.inl rfl) | exact .inr (.inr rfl)))) (mg_name (i := 2) (np 2 (by decide)) sc_encoded.nd rfl (by first | exact .inl rfl | exact .inr rfl))
      (ms_one (ms_expr (me_mt (i := 1) (md_extend _) rfl PySem.F.slot_list_extend PySem.F.type_list_extend mt_extend rfl (by first | exact .inl rfl | exact .inr (.inl rfl) | exact .inr (.inr rfl)) (mv_cons (me_call (ih) rfl (fun _ => .nil) rfl (fun σ => passAt (takes_of rfl rfl rfl rfl) σ) hg (hr.mono (by first | decide | omega)) (by rfl) (ma_sl (i := 2) rfl (by first | exact .inl rfl | exact .inr (.inl rfl) | exact .inr (.inr rfl)) ma_nil) (alS al0)) mv_nil)))))
      (ms_one (ms_retS (i := 1) (np 1 (by decide)) rfl (by first | exact .inl rfl | exact .inr (.inl rfl) | exact .inr (.inr rfl))))))
      ms_nil)
      (ms_cons (ms_if (mt_truth rfl (me_isi rfl T.i_dict (by decide) (by rfl) T.m_isinstance (me_var (i := 0) rfl (by first | exact .inl rfl | exact .inr (.inl rfl) | exact .inr (.inr rfl))) (pe_bltn (v := .ty "dict") (by rfl) T.m_dict (by decide +kernel) rfl) (.ty "dict")))
      (ms_cons (ms_setL (i := 1) (np 1 (by decide)) sc_encoded.nd rfl (by first | exact .inl rfl | exact .inr rfl) (ml_op op_catL (me_frz (ml_lst (mv_cons me_int mv_nil))) (me_call (ok_plain_code T) rfl (fun _ => .nil) rfl (fun σ => passAt (takes_of rfl rfl rfl rfl) σ) hg (hr.mono (by first | decide | omega)) (by rfl) (ma_val (me_callB (call_lenDD rfl) (by rfl) T.m_len PySem.boot_len (mv_cons (me_var (i := 0) rfl (by first | exact .inl rfl | exact .inr (.inl rfl) | exact .inr (.inr rfl))) mv_nil)) ma_nil) (alV al0))))
      (ms_cons (ms_for (passes_of rfl) rfl (mi_data rfl (me_call (ok_sorted_keys T) rfl (fun _ => .nil) rfl (fun σ => passAt (takes_of rfl rfl rfl rfl) σ) hg (hr.mono (by first | decide | omega)) (by rfl) (ma_sl (i := 0) rfl (by first | exact .inl rfl | exact .inr (.inl rfl) | exact .inr (.inr rfl)) ma_nil) (alS al0))) (mg_name (i := 3) (np 3 (by decide)) sc_encoded.nd rfl (by first | exact .inl rfl | exact .inr rfl))
      (ms_cons (ms_expr (me_mt (i := 1) (md_extend _) rfl PySem.F.slot_list_extend PySem.F.type_list_extend mt_extend rfl (by first | exact .inl rfl | exact .inr (.inl rfl) | exact .inr (.inr rfl)) (mv_cons (me_call (ok_scalar_row T) rfl (fun _ => .nil) rfl (fun σ => passAt (takes_of rfl rfl rfl rfl) σ) hg (hr.mono (by first | decide | omega)) (by rfl) (ma_sl (i := 3) rfl (by first | exact .inl rfl | exact .inr (.inl rfl) | exact .inr (.inr rfl)) ma_nil) (alS al0)) mv_nil)))
      (ms_one (ms_expr (me_mt (i := 1) (md_extend _) rfl PySem.F.slot_list_extend PySem.F.type_list_extend mt_extend rfl (by first | exact .inl rfl | exact .inr (.inl rfl) | exact .inr (.inr rfl)) (mv_cons (me_call (ih) rfl (fun _ => .nil) rfl (fun σ => passAt (takes_of rfl rfl rfl rfl) σ) hg (hr.mono (by first | decide | omega)) (by rfl) (ma_val (me_dix rfl rfl hr.units (me_var (i := 0) rfl (by first | exact .inl rfl | exact .inr (.inl rfl) | exact .inr (.inr rfl))) (me_var (i := 3) rfl (by first | exact .inl rfl | exact .inr (.inl rfl) | exact .inr (.inr rfl)))) ma_nil) (alV al0)) mv_nil))))))
      (ms_one (ms_retS (i := 1) (np 1 (by decide)) rfl (by first | exact .inl rfl | exact .inr (.inl rfl) | exact .inr (.inr rfl))))))
      ms_nil)
      (ms_cons (ms_if (mt_truth rfl (me_isi rfl T.i_Tag (by decide) (by rfl) T.m_isinstance (me_var (i := 0) rfl (by first | exact .inl rfl | exact .inr (.inl rfl) | exact .inr (.inr rfl))) (pe_glob (v := .ref (He.ga K "Tag")) (by rfl) T.c_Tag rfl) (.own _)))
      (ms_one (ms_ret (me_op (op_addD rfl) (me_op (op_addD rfl) (me_frz (ml_lst (mv_cons me_int mv_nil))) (me_call (ok_plain_code T) rfl (fun _ => .nil) rfl (fun σ => passAt (takes_of rfl rfl rfl rfl) σ) hg (hr.mono (by first | decide | omega)) (by rfl) (ma_val (me_fld rfl T.f_number (me_var (i := 0) rfl (by first | exact .inl rfl | exact .inr (.inl rfl) | exact .inr (.inr rfl)))) ma_nil) (alV al0))) (me_frz (ml_callTy (call_listD rfl) (by rfl) T.m_list (by decide +kernel) (mv_cons (me_fld rfl T.f_content_row (me_var (i := 0) rfl (by first | exact .inl rfl | exact .inr (.inl rfl) | exact .inr (.inr rfl)))) mv_nil))))))
      ms_nil)
      (ms_one (ms_ret (me_call (ok_scalar_row T) rfl (fun _ => .nil) rfl (fun σ => passAt (takes_of rfl rfl rfl rfl) σ) hg (hr.mono (by first | decide | omega)) (by rfl) (ma_sl (i := 0) rfl (by first | exact .inl rfl | exact .inr (.inl rfl) | exact .inr (.inr rfl)) ma_nil) (alS al0)))))))
theorem ok_checked_row (T : Txt K mg) : Has P w K mg base (L2.CX P w) 23 "checked_row" ["value"] [] (spM K 1 (m_checked_row w)) := by
  refine has_m (k := 22) T.d_checked_row sc_checked_row (fun fd F => ⟨[], .nil, F.bindsN fun _ _ _ _ _ _ us hl => match us, hl with | [_], _ => rfl⟩) (fun cv A outer s H E F0 H0 pr np hg hr => ?_)
  exact (ms_cons (ms_set (i := 1) (np 1 (by decide)) sc_checked_row.nd rfl (by first | exact .inl rfl | exact .inr rfl) (me_call (ok_first_bad T 12) rfl (fun _ => .nil) rfl (fun σ => passAt (takes_of rfl rfl rfl rfl) σ) hg (hr.mono (by first | decide | omega)) (by rfl) (ma_sl (i := 0) rfl (by first | exact .inl rfl | exact .inr (.inl rfl) | exact .inr (.inr rfl)) (ma_val (me_cst (pe_glob (v := .int (24)) (by rfl) T.g_DEEPEST.choose_spec ⟨_, rfl⟩) (fun _ => .int _)) ma_nil)) (alS (alV al0))))
    (ms_cons (ms_if (mt_cmp (op_isNotDD) (me_var (i := 1) rfl (by first | exact .inl rfl | exact .inr (.inl rfl) | exact .inr (.inr rfl))) me_non (nomark _))
    (ms_one (ms_raise (k := 0) (er_BadValue T) rfl rfl (takes_of rfl rfl rfl rfl) (hr.mono (by first | decide | omega)) (by rfl) (me_var (i := 1) rfl (by first | exact .inl rfl | exact .inr (.inl rfl) | exact .inr (.inr rfl)))))
    ms_nil)
    (ms_one (ms_ret (me_callTy (call_tupleD rfl) (by rfl) T.m_tuple (by decide +kernel) (mv_cons (me_call (ok_encoded T 4) rfl (fun _ => .nil) rfl (fun σ => passAt (takes_of rfl rfl rfl rfl) σ) hg (hr.mono (by first | decide | omega)) (by rfl) (ma_sl (i := 0) rfl (by first | exact .inl rfl | exact .inr (.inl rfl) | exact .inr (.inr rfl)) ma_nil) (alS al0)) mv_nil))))))
theorem okd_Tag___init__ (T : Txt K mg) : HasF P w K mg base (L2.CX P w) 24 (He.fAd K ("Tag", some "__init__")) ["self", "number", "content", "row"] [.non] (spM K 4 (m_Tag___init__ w)) := by
  refine has_mF (k := 23) T.d_Tag___init__ sc_Tag___init__ (fun fd F => F.binds1 3 0 (by decide) rfl fun T kV doc pm an cv ct us its hu hi => match us, hu, its, hi with | [_, _, _], _, [_], _ => ⟨_, rfl, rfl⟩) (fun cv A outer s H E F0 H0 pr np hg hr => ?_)
  exact (ms_cons (ms_if (mt_not (mt_truth rfl (me_call (ok_is_number T) rfl (fun _ => .nil) rfl (fun σ => passAt (takes_of rfl rfl rfl rfl) σ) hg (hr.mono (by first | decide | omega)) (by rfl) (ma_sl (i := 1) rfl (by first | exact .inl rfl | exact .inr (.inl rfl) | exact .inr (.inr rfl)) ma_nil) (alS al0))))
    (ms_one (ms_raise (k := 0) (er_BadNumber T) rfl rfl (takes_of rfl rfl rfl rfl) (hr.mono (by first | decide | omega)) (by rfl) (me_var (i := 1) rfl (by first | exact .inl rfl | exact .inr (.inl rfl) | exact .inr (.inr rfl)))))
    ms_nil)
    (ms_cons (ms_fld (i := 0) rfl T.f_number rfl (by first | exact .inl rfl | exact .inr (.inl rfl) | exact .inr (.inr rfl)) (me_var (i := 1) rfl (by first | exact .inl rfl | exact .inr (.inl rfl) | exact .inr (.inr rfl))))
    (ms_cons (ms_fld (i := 0) rfl T.f_content_row rfl (by first | exact .inl rfl | exact .inr (.inl rfl) | exact .inr (.inr rfl)) (me_var (i := 3) rfl (by first | exact .inl rfl | exact .inr (.inl rfl) | exact .inr (.inr rfl))))
    (ms_one (ms_if (mt_cmp (op_isDD) (me_var (i := 3) rfl (by first | exact .inl rfl | exact .inr (.inl rfl) | exact .inr (.inr rfl))) me_non (nomark _))
    (ms_one (ms_fld (i := 0) rfl T.f_content_row rfl (by first | exact .inl rfl | exact .inr (.inl rfl) | exact .inr (.inr rfl)) (me_call (ok_checked_row T) rfl (fun _ => .nil) rfl (fun σ => passAt (takes_of rfl rfl rfl rfl) σ) hg (hr.mono (by first | decide | omega)) (by rfl) (ma_sl (i := 2) rfl (by first | exact .inl rfl | exact .inr (.inl rfl) | exact .inr (.inr rfl)) ma_nil) (alS al0))))
    ms_nil)))))
theorem ok_Tag___init__ (T : Txt K mg) : HasF P w K mg base (L2.CX P w) 24 (He.fAd K ("Tag", some "__init__")) ["self", "number", "content", "row"] [] (spM K 4 (m_Tag___init__ w)) := by
  refine has_mF (k := 23) T.d_Tag___init__ sc_Tag___init__ (fun fd F => F.binds1 4 1 (by decide) rfl fun T kV doc pm an cv ct us its hu hi => match us, hu, its, hi with | [_, _, _, _], _, [_], _ => ⟨_, rfl, rfl⟩) (fun cv A outer s H E F0 H0 pr np hg hr => ?_)
  exact (ms_cons (ms_if (mt_not (mt_truth rfl (me_call (ok_is_number T) rfl (fun _ => .nil) rfl (fun σ => passAt (takes_of rfl rfl rfl rfl) σ) hg (hr.mono (by first | decide | omega)) (by rfl) (ma_sl (i := 1) rfl (by first | exact .inl rfl | exact .inr (.inl rfl) | exact .inr (.inr rfl)) ma_nil) (alS al0))))
    (ms_one (ms_raise (k := 0) (er_BadNumber T) rfl rfl (takes_of rfl rfl rfl rfl) (hr.mono (by first | decide | omega)) (by rfl) (me_var (i := 1) rfl (by first | exact .inl rfl | exact .inr (.inl rfl) | exact .inr (.inr rfl)))))
    ms_nil)
    (ms_cons (ms_fld (i := 0) rfl T.f_number rfl (by first | exact .inl rfl | exact .inr (.inl rfl) | exact .inr (.inr rfl)) (me_var (i := 1) rfl (by first | exact .inl rfl | exact .inr (.inl rfl) | exact .inr (.inr rfl))))
    (ms_cons (ms_fld (i := 0) rfl T.f_content_row rfl (by first | exact .inl rfl | exact .inr (.inl rfl) | exact .inr (.inr rfl)) (me_var (i := 3) rfl (by first | exact .inl rfl | exact .inr (.inl rfl) | exact .inr (.inr rfl))))
    (ms_one (ms_if (mt_cmp (op_isDD) (me_var (i := 3) rfl (by first | exact .inl rfl | exact .inr (.inl rfl) | exact .inr (.inr rfl))) me_non (nomark _))
    (ms_one (ms_fld (i := 0) rfl T.f_content_row rfl (by first | exact .inl rfl | exact .inr (.inl rfl) | exact .inr (.inr rfl)) (me_call (ok_checked_row T) rfl (fun _ => .nil) rfl (fun σ => passAt (takes_of rfl rfl rfl rfl) σ) hg (hr.mono (by first | decide | omega)) (by rfl) (ma_sl (i := 2) rfl (by first | exact .inl rfl | exact .inr (.inl rfl) | exact .inr (.inr rfl)) ma_nil) (alS al0))))
    ms_nil)))))
theorem ok_Document___init__ (T : Txt K mg) : HasF P w K mg base (L2.CX P w) 1 (He.fAd K ("Document", some "__init__")) ["self", "data"] [] (spM K 2 m_Document___init__) := by
  refine has_mF (k := 0) T.d_Document___init__ sc_Document___init__ (fun fd F => ⟨[], .nil, F.bindsN fun _ _ _ _ _ _ us hl => match us, hl with | [_, _], _ => rfl⟩) (fun cv A outer s H E F0 H0 pr np hg hr => ?_)
  exact (ms_cons (ms_fld (i := 0) rfl T.f_data rfl (by first | exact .inl rfl | exact .inr (.inl rfl) | exact .inr (.inr rfl)) (me_var (i := 1) rfl (by first | exact .inl rfl | exact .inr (.inl rfl) | exact .inr (.inr rfl))))
    (ms_one (ms_fld (i := 0) rfl T.f_kind rfl (by first | exact .inl rfl | exact .inr (.inl rfl) | exact .inr (.inr rfl)) (me_ix rfl (me_cst (pe_glob (v := .ref (He.ga K "KINDS")) (by rfl) T.g_KINDS.1 rfl) (fun F => tupStr_ok T.g_KINDS.2 F)) (me_ixS (i := 1) rfl rfl (by first | exact .inl rfl | exact .inr (.inl rfl) | exact .inr (.inr rfl)) me_int)))))
theorem ok_Document_of (T : Txt K mg) : HasF P w K mg base (L2.CX P w) 24 (He5.wf K (He.ga K "Document") "classmethod" "of") ["cls", "value"] [] (spM K 2 (m_Document_of w)) := by
  refine has_mF (k := 23) T.d_Document_of sc_Document_of (fun fd F => ⟨[], .nil, F.bindsN fun _ _ _ _ _ _ us hl => match us, hl with | [_, _], _ => rfl⟩) (fun cv A outer s H E F0 H0 pr np hg hr => ?_)
  exact (ms_one (ms_ret (me_makeL (i := 0) (c := "Document") (ok_Document___init__ T) rfl T.k_Document (fun _ => .nil) rfl (fun σ => passAt (takes_of rfl rfl rfl rfl) σ) hg (hr.mono (by first | decide | omega)) rfl (by first | exact .inl rfl | exact .inr (.inl rfl) | exact .inr (.inr rfl)) (ma_val (me_call (ok_checked_row T) rfl (fun _ => .nil) rfl (fun σ => passAt (takes_of rfl rfl rfl rfl) σ) hg (hr.mono (by first | decide | omega)) (by rfl) (ma_sl (i := 1) rfl (by first | exact .inl rfl | exact .inr (.inl rfl) | exact .inr (.inr rfl)) ma_nil) (alS al0)) ma_nil) (alV al0))))
theorem ok__law_bad (T : Txt K mg) : Has P w K mg base (L2.CX P w) 25 "_law_bad" ["_law_bag_here"] [] (spM K 1 (m__law_bad w)) := by
  refine has_m (k := 24) T.d__law_bad sc__law_bad (fun fd F => ⟨[], .nil, F.bindsN fun _ _ _ _ _ _ us hl => match us, hl with | [_], _ => rfl⟩) (fun cv A outer s H E F0 H0 pr np hg hr => ?_)
  exact (ms_cons (ms_set (i := 1) (np 1 (by decide)) sc__law_bad.nd rfl (by first | exact .inl rfl | exact .inr rfl) (me_call (ok__law_take T) rfl (fun _ => .nil) rfl (fun σ => passAt (takes_of rfl rfl rfl rfl) σ) hg (hr.mono (by first | decide | omega)) (by rfl) (ma_sl (i := 0) rfl (by first | exact .inl rfl | exact .inr (.inl rfl) | exact .inr (.inr rfl)) (ma_val me_int ma_nil)) (alS (alV al0))))
    (ms_cons (ms_if (mt_cmp (op_eqDD rfl hr.units) (me_var (i := 1) rfl (by first | exact .inl rfl | exact .inr (.inl rfl) | exact .inr (.inr rfl))) me_int (nomark _))
    (ms_one (ms_ret (me_call (ok__law_of T) rfl (fun _ => .nil) rfl (fun σ => passAt (takes_of rfl rfl rfl rfl) σ) hg (hr.mono (by first | decide | omega)) (by rfl) (ma_sl (i := 0) rfl (by first | exact .inl rfl | exact .inr (.inl rfl) | exact .inr (.inr rfl)) (ma_val (me_frz (ml_lst (mv_cons (me_op (op_addD rfl) (me_op (op_powD) me_int me_int) (me_call (ok__law_number T) rfl (fun _ => .nil) rfl (fun σ => passAt (takes_of rfl rfl rfl rfl) σ) hg (hr.mono (by first | decide | omega)) (by rfl) (ma_sl (i := 0) rfl (by first | exact .inl rfl | exact .inr (.inl rfl) | exact .inr (.inr rfl)) ma_nil) (alS al0))) (mv_cons (me_op (op_subD) (me_op (op_subD) (me_un un_negD me_int) (me_op (op_powD) me_int me_int)) (me_call (ok__law_number T) rfl (fun _ => .nil) rfl (fun σ => passAt (takes_of rfl rfl rfl rfl) σ) hg (hr.mono (by first | decide | omega)) (by rfl) (ma_sl (i := 0) rfl (by first | exact .inl rfl | exact .inr (.inl rfl) | exact .inr (.inr rfl)) ma_nil) (alS al0))) mv_nil)))) ma_nil)) (alS (alV al0)))))
    ms_nil)
    (ms_cons (ms_if (mt_cmp (op_eqDD rfl hr.units) (me_var (i := 1) rfl (by first | exact .inl rfl | exact .inr (.inl rfl) | exact .inr (.inr rfl))) me_int (nomark _))
    (ms_one (ms_ret (me_op (op_addD rfl) (me_op (op_addD rfl) (me_call (ok__law_octets T) rfl (fun _ => .nil) rfl (fun σ => passAt (takes_of rfl rfl rfl rfl) σ) hg (hr.mono (by first | decide | omega)) (by rfl) (ma_sl (i := 0) rfl (by first | exact .inl rfl | exact .inr (.inl rfl) | exact .inr (.inr rfl)) (ma_val me_int ma_nil)) (alS (alV al0))) (me_tup (mv_cons (me_call (ok__law_of T) rfl (fun _ => .nil) rfl (fun σ => passAt (takes_of rfl rfl rfl rfl) σ) hg (hr.mono (by first | decide | omega)) (by rfl) (ma_sl (i := 0) rfl (by first | exact .inl rfl | exact .inr (.inl rfl) | exact .inr (.inr rfl)) (ma_val (me_frz (ml_lst (mv_cons me_int (mv_cons (me_un un_negD me_int) (mv_cons me_non (mv_cons me_bl (mv_cons me_str (mv_cons (me_tup (mv_cons me_int mv_nil)) mv_nil)))))))) ma_nil)) (alS (alV al0))) mv_nil))) (me_call (ok__law_octets T) rfl (fun _ => .nil) rfl (fun σ => passAt (takes_of rfl rfl rfl rfl) σ) hg (hr.mono (by first | decide | omega)) (by rfl) (ma_sl (i := 0) rfl (by first | exact .inl rfl | exact .inr (.inl rfl) | exact .inr (.inr rfl)) (ma_val me_int ma_nil)) (alS (alV al0))))))
    ms_nil)
    (ms_cons (ms_if (mt_cmp (op_eqDD rfl hr.units) (me_var (i := 1) rfl (by first | exact .inl rfl | exact .inr (.inl rfl) | exact .inr (.inr rfl))) me_int (nomark _))
    (ms_cons (ms_set (i := 2) (np 2 (by decide)) sc__law_bad.nd rfl (by first | exact .inl rfl | exact .inr rfl) (me_frz (ml_lst (mv_cons (me_cmeth (c := "Document") (ok_Document_of T) rfl T.cr_Document T.cm_Document_of (by rfl) T.c_Document (fun _ => .nil) rfl (fun σ => passAt (takes_of rfl rfl rfl rfl) σ) hg (hr.mono (by first | decide | omega)) (ma_val (me_call (ok__law_integer T) rfl (fun _ => .nil) rfl (fun σ => passAt (takes_of rfl rfl rfl rfl) σ) hg (hr.mono (by first | decide | omega)) (by rfl) (ma_sl (i := 0) rfl (by first | exact .inl rfl | exact .inr (.inl rfl) | exact .inr (.inr rfl)) ma_nil) (alS al0)) ma_nil) (alV al0)) (mv_cons (me_frzN (mn_disp rfl rfl hr.units (mp_cons me_bl me_int mp_nil) rfl rfl (by simp) (by decide) (by decide))) (mv_cons (me_frzN (mn_disp rfl rfl hr.units (mp_cons me_non me_int (mp_cons me_int me_int mp_nil)) rfl rfl (by simp) (by decide) (by decide))) (mv_cons (me_frzN (mn_disp rfl rfl hr.units (mp_cons (me_tup (mv_cons me_int (mv_cons me_int mv_nil))) me_int mp_nil) rfl rfl (by simp) (by decide) (by decide))) (mv_cons (me_frzN (mn_disp rfl rfl hr.units (mp_cons (me_tup (mv_cons me_bl mv_nil)) me_int mp_nil) rfl rfl (by simp) (by decide) (by decide))) mv_nil))))))))
    (ms_one (ms_ret (me_call (ok__law_of T) rfl (fun _ => .nil) rfl (fun σ => passAt (takes_of rfl rfl rfl rfl) σ) hg (hr.mono (by first | decide | omega)) (by rfl) (ma_sl (i := 0) rfl (by first | exact .inl rfl | exact .inr (.inl rfl) | exact .inr (.inr rfl)) (ma_val (me_op (op_addD rfl) (me_var (i := 2) rfl (by first | exact .inl rfl | exact .inr (.inl rfl) | exact .inr (.inr rfl))) (me_frz (ml_lst (mv_cons (me_frzN (mn_disp rfl rfl hr.units (mp_cons me_int (me_tup (mv_cons me_int mv_nil)) (mp_cons me_bl me_int mp_nil)) rfl rfl (by simp) (by decide) (by decide))) (mv_cons (me_frzN (mn_disp rfl rfl hr.units (mp_cons me_str (me_frz (ml_lst (mv_cons (me_tup (mv_cons me_int mv_nil)) mv_nil))) (mp_cons (me_tup mv_nil) me_int (mp_cons me_non me_int mp_nil))) rfl rfl (by simp) (by decide) (by decide))) mv_nil))))) ma_nil)) (alS (alV al0))))))
    ms_nil)
    (ms_one (ms_ret (me_frzN (mn_disp rfl rfl hr.units (mp_cons (me_call (ok__law_of T) rfl (fun _ => .nil) rfl (fun σ => passAt (takes_of rfl rfl rfl rfl) σ) hg (hr.mono (by first | decide | omega)) (by rfl) (ma_sl (i := 0) rfl (by first | exact .inl rfl | exact .inr (.inl rfl) | exact .inr (.inr rfl)) (ma_val (me_frz (ml_lst (mv_cons me_bl (mv_cons (me_op (op_powD) me_int me_int) (mv_cons (me_tup (mv_cons me_non mv_nil)) (mv_cons (me_op (op_subD) (me_un un_negD me_int) (me_op (op_powD) me_int me_int)) mv_nil)))))) ma_nil)) (alS (alV al0))) me_int (mp_cons (me_call (ok__law_integer T) rfl (fun _ => .nil) rfl (fun σ => passAt (takes_of rfl rfl rfl rfl) σ) hg (hr.mono (by first | decide | omega)) (by rfl) (ma_sl (i := 0) rfl (by first | exact .inl rfl | exact .inr (.inl rfl) | exact .inr (.inr rfl)) ma_nil) (alS al0)) me_int mp_nil)) rfl rfl (by simp) (by decide) (by decide)))))))))
theorem ok__law_pair (T : Txt K mg) : Has P w K mg base (L2.CX P w) 5 "_law_pair" ["_law_bag_here"] [] (spM K 1 m__law_pair) := by
  refine has_m (k := 4) T.d__law_pair sc__law_pair (fun fd F => ⟨[], .nil, F.bindsN fun _ _ _ _ _ _ us hl => match us, hl with | [_], _ => rfl⟩) (fun cv A outer s H E F0 H0 pr np hg hr => ?_)
  exact (ms_cons (ms_par (i := 1) (j := 2) (np 1 (by decide)) (np 2 (by decide)) rfl sc__law_pair.nd rfl rfl (by decide) rfl rfl (mv_cons (me_call (ok__law_take T) rfl (fun _ => .nil) rfl (fun σ => passAt (takes_of rfl rfl rfl rfl) σ) hg (hr.mono (by first | decide | omega)) (by rfl) (ma_sl (i := 0) rfl (by first | exact .inl rfl | exact .inr (.inl rfl) | exact .inr (.inr rfl)) (ma_val me_int ma_nil)) (alS (alV al0))) (mv_cons (me_op (op_fdivD) (me_call (ok__law_integer T) rfl (fun _ => .nil) rfl (fun σ => passAt (takes_of rfl rfl rfl rfl) σ) hg (hr.mono (by first | decide | omega)) (by rfl) (ma_sl (i := 0) rfl (by first | exact .inl rfl | exact .inr (.inl rfl) | exact .inr (.inr rfl)) ma_nil) (alS al0)) me_int) mv_nil)))
    (ms_cons (ms_if (mt_cmp (op_eqDD rfl hr.units) (me_var (i := 1) rfl (by first | exact .inl rfl | exact .inr (.inl rfl) | exact .inr (.inr rfl))) me_int (nomark _))
    (ms_one (ms_ret (me_frz (ml_lst (mv_cons (me_var (i := 2) rfl (by first | exact .inl rfl | exact .inr (.inl rfl) | exact .inr (.inr rfl))) (mv_cons (me_op (op_addD rfl) (me_op (op_addD rfl) (me_var (i := 2) rfl (by first | exact .inl rfl | exact .inr (.inl rfl) | exact .inr (.inr rfl))) me_int) (me_call (ok__law_take T) rfl (fun _ => .nil) rfl (fun σ => passAt (takes_of rfl rfl rfl rfl) σ) hg (hr.mono (by first | decide | omega)) (by rfl) (ma_sl (i := 0) rfl (by first | exact .inl rfl | exact .inr (.inl rfl) | exact .inr (.inr rfl)) (ma_val me_int ma_nil)) (alS (alV al0)))) mv_nil))))))
    ms_nil)
    (ms_cons (ms_if (mt_cmp (op_eqDD rfl hr.units) (me_var (i := 1) rfl (by first | exact .inl rfl | exact .inr (.inl rfl) | exact .inr (.inr rfl))) me_int (nomark _))
    (ms_one (ms_ret (me_frz (ml_lst (mv_cons (me_var (i := 2) rfl (by first | exact .inl rfl | exact .inr (.inl rfl) | exact .inr (.inr rfl))) (mv_cons (me_call (ok__law_of T) rfl (fun _ => .nil) rfl (fun σ => passAt (takes_of rfl rfl rfl rfl) σ) hg (hr.mono (by first | decide | omega)) (by rfl) (ma_sl (i := 0) rfl (by first | exact .inl rfl | exact .inr (.inl rfl) | exact .inr (.inr rfl)) (ma_val (me_frz (ml_lst (mv_cons (me_call (ok__law_text T) rfl (fun _ => .nil) rfl (fun σ => passAt (takes_of rfl rfl rfl rfl) σ) hg (hr.mono (by first | decide | omega)) (by rfl) (ma_sl (i := 0) rfl (by first | exact .inl rfl | exact .inr (.inl rfl) | exact .inr (.inr rfl)) (ma_val me_int ma_nil)) (alS (alV al0))) (mv_cons (me_call (ok__law_octets T) rfl (fun _ => .nil) rfl (fun σ => passAt (takes_of rfl rfl rfl rfl) σ) hg (hr.mono (by first | decide | omega)) (by rfl) (ma_sl (i := 0) rfl (by first | exact .inl rfl | exact .inr (.inl rfl) | exact .inr (.inr rfl)) (ma_val me_int ma_nil)) (alS (alV al0))) mv_nil)))) ma_nil)) (alS (alV al0))) mv_nil))))))
    ms_nil)
    (ms_cons (ms_if (mt_cmp (op_eqDD rfl hr.units) (me_var (i := 1) rfl (by first | exact .inl rfl | exact .inr (.inl rfl) | exact .inr (.inr rfl))) me_int (nomark _))
    (ms_one (ms_ret (me_frz (ml_lst (mv_cons (me_call (ok__law_octets T) rfl (fun _ => .nil) rfl (fun σ => passAt (takes_of rfl rfl rfl rfl) σ) hg (hr.mono (by first | decide | omega)) (by rfl) (ma_sl (i := 0) rfl (by first | exact .inl rfl | exact .inr (.inl rfl) | exact .inr (.inr rfl)) (ma_val me_int ma_nil)) (alS (alV al0))) (mv_cons (me_call (ok__law_text T) rfl (fun _ => .nil) rfl (fun σ => passAt (takes_of rfl rfl rfl rfl) σ) hg (hr.mono (by first | decide | omega)) (by rfl) (ma_sl (i := 0) rfl (by first | exact .inl rfl | exact .inr (.inl rfl) | exact .inr (.inr rfl)) (ma_val me_int ma_nil)) (alS (alV al0))) mv_nil))))))
    ms_nil)
    (ms_cons (ms_set (i := 3) (np 3 (by decide)) sc__law_pair.nd rfl (by first | exact .inl rfl | exact .inr rfl) (me_call (ok__law_text T) rfl (fun _ => .nil) rfl (fun σ => passAt (takes_of rfl rfl rfl rfl) σ) hg (hr.mono (by first | decide | omega)) (by rfl) (ma_sl (i := 0) rfl (by first | exact .inl rfl | exact .inr (.inl rfl) | exact .inr (.inr rfl)) (ma_val me_int ma_nil)) (alS (alV al0))))
    (ms_one (ms_ret (me_frz (ml_lst (mv_cons (me_var (i := 3) rfl (by first | exact .inl rfl | exact .inr (.inl rfl) | exact .inr (.inr rfl))) (mv_cons (me_op (op_addD rfl) (me_var (i := 3) rfl (by first | exact .inl rfl | exact .inr (.inl rfl) | exact .inr (.inr rfl))) me_str) mv_nil)))))))))))
theorem ok__law_round (T : Txt K mg) : Has P w K mg base (L2.CX P w) 6 "_law_round" ["_law_bag_here", "_law_thing", "_law_bad_here"] [] (spM K 3 (m__law_round w)) := by
  refine has_m (k := 5) T.d__law_round sc__law_round (fun fd F => ⟨[], .nil, F.bindsN fun _ _ _ _ _ _ us hl => match us, hl with | [_, _, _], _ => rfl⟩) (fun cv A outer s H E F0 H0 pr np hg hr => ?_)
  exact (ms_cons (ms_if (mt_cmp (op_eqDD rfl hr.units) (me_call (ok__law_take T) rfl (fun _ => .nil) rfl (fun σ => passAt (takes_of rfl rfl rfl rfl) σ) hg (hr.mono (by first | decide | omega)) (by rfl) (ma_sl (i := 0) rfl (by first | exact .inl rfl | exact .inr (.inl rfl) | exact .inr (.inr rfl)) (ma_val me_int ma_nil)) (alS (alV al0))) me_int (nomark _))
    (ms_cons (ms_setLc (i := 4) (np 4 (by decide)) (own := [("_law_turn", 3)]) (by intro i hi; exact np i (by revert i; decide)) (by decide) (tg_name 3) rfl sc__law_round.nd rfl rfl (sw_true rfl rfl rfl (by decide +kernel)) (mi_range1 (by rfl) T.m_range (mv_cons (me_call (ok__law_take T) rfl (fun _ => .nil) rfl (fun σ => passAt (takes_of rfl rfl rfl rfl) σ) hg (hr.mono (by first | decide | omega)) (by rfl) (ma_sl (i := 0) rfl (by first | exact .inl rfl | exact .inr (.inl rfl) | exact .inr (.inr rfl)) (ma_val me_int ma_nil)) (alS (alV al0))) mv_nil)) (blkOk_by (own := [("_law_turn", 3)]) (N := ["_law_bag_here", "_law_thing", "_law_bad_here", "_law_turn", "_law_ahead", "_law_one", "_law_other"]) (sc := defScope s__law_round) (by decide +kernel)) (fun _ _ _ _ _ => (mg_name (i := 3) (np 3 (by decide)) sc__law_round.nd rfl (by first | exact .inl rfl | exact .inr rfl))) (fun _ _ _ _ _ => mts_nil) (fun _ _ _ _ _ => (me_call (ok__law_integer T) rfl (fun _ => .nil) rfl (fun σ => passF σ) hg (hr.mono (by first | decide | omega)) (by rfl) (ma_sl (i := 0) rfl (by first | exact .inl rfl | exact .inr (.inl rfl) | exact .inr (.inr rfl)) ma_nil) (alS al0))))
    (ms_one (ms_ret (me_tup (mv_cons (me_lenS (i := 4) rfl rfl (by first | exact .inl rfl | exact .inr (.inl rfl) | exact .inr (.inr rfl)) (by rfl) T.m_len) (mv_cons (me_op (op_addD rfl) (me_op (op_addD rfl) (me_var (i := 4) rfl (by first | exact .inl rfl | exact .inr (.inl rfl) | exact .inr (.inr rfl))) (me_frz (ml_lst (mv_cons (me_var (i := 1) rfl (by first | exact .inl rfl | exact .inr (.inl rfl) | exact .inr (.inr rfl))) mv_nil)))) (me_op (op_mulDL) (me_frz (ml_lst (mv_cons (me_var (i := 2) rfl (by first | exact .inl rfl | exact .inr (.inl rfl) | exact .inr (.inr rfl))) mv_nil))) (me_call (ok__law_take T) rfl (fun _ => .nil) rfl (fun σ => passAt (takes_of rfl rfl rfl rfl) σ) hg (hr.mono (by first | decide | omega)) (by rfl) (ma_sl (i := 0) rfl (by first | exact .inl rfl | exact .inr (.inl rfl) | exact .inr (.inr rfl)) (ma_val me_int ma_nil)) (alS (alV al0))))) mv_nil))))))
    ms_nil)
    (ms_cons (ms_asg (me_call (ok__law_pair T) rfl (fun _ => .nil) rfl (fun σ => passAt (takes_of rfl rfl rfl rfl) σ) hg (hr.mono (by first | decide | omega)) (by rfl) (ma_sl (i := 0) rfl (by first | exact .inl rfl | exact .inr (.inl rfl) | exact .inr (.inr rfl)) ma_nil) (alS al0)) (mg_lst rfl (mgs_cons (mg_name (i := 5) (np 5 (by decide)) sc__law_round.nd rfl (by first | exact .inl rfl | exact .inr rfl)) (mgs_cons (mg_name (i := 6) (np 6 (by decide)) sc__law_round.nd rfl (by first | exact .inl rfl | exact .inr rfl)) mgs_nil))))
    (ms_cons (ms_if (mt_cmp (op_eqDD rfl hr.units) (me_call (ok__law_take T) rfl (fun _ => .nil) rfl (fun σ => passAt (takes_of rfl rfl rfl rfl) σ) hg (hr.mono (by first | decide | omega)) (by rfl) (ma_sl (i := 0) rfl (by first | exact .inl rfl | exact .inr (.inl rfl) | exact .inr (.inr rfl)) (ma_val me_int ma_nil)) (alS (alV al0))) me_int (nomark _))
    (ms_one (ms_ret (me_tup (mv_cons (me_var (i := 5) rfl (by first | exact .inl rfl | exact .inr (.inl rfl) | exact .inr (.inr rfl))) (mv_cons (me_frzN (mn_disp rfl rfl hr.units (mp_cons (me_var (i := 6) rfl (by first | exact .inl rfl | exact .inr (.inl rfl) | exact .inr (.inr rfl))) (me_frz (ml_lst (mv_cons (me_var (i := 2) rfl (by first | exact .inl rfl | exact .inr (.inl rfl) | exact .inr (.inr rfl))) (mv_cons (me_var (i := 2) rfl (by first | exact .inl rfl | exact .inr (.inl rfl) | exact .inr (.inr rfl))) mv_nil)))) (mp_cons (me_var (i := 5) rfl (by first | exact .inl rfl | exact .inr (.inl rfl) | exact .inr (.inr rfl))) (me_var (i := 1) rfl (by first | exact .inl rfl | exact .inr (.inl rfl) | exact .inr (.inr rfl))) mp_nil)) rfl rfl (by simp) (by decide) (by decide))) mv_nil)))))
    ms_nil)
    (ms_one (ms_ret (me_tup (mv_cons (me_var (i := 6) rfl (by first | exact .inl rfl | exact .inr (.inl rfl) | exact .inr (.inr rfl))) (mv_cons (me_frzN (mn_disp rfl rfl hr.units (mp_cons (me_var (i := 6) rfl (by first | exact .inl rfl | exact .inr (.inl rfl) | exact .inr (.inr rfl))) (me_var (i := 1) rfl (by first | exact .inl rfl | exact .inr (.inl rfl) | exact .inr (.inr rfl))) (mp_cons (me_var (i := 5) rfl (by first | exact .inl rfl | exact .inr (.inl rfl) | exact .inr (.inr rfl))) (me_call (ok__law_text T) rfl (fun _ => .nil) rfl (fun σ => passAt (takes_of rfl rfl rfl rfl) σ) hg (hr.mono (by first | decide | omega)) (by rfl) (ma_sl (i := 0) rfl (by first | exact .inl rfl | exact .inr (.inl rfl) | exact .inr (.inr rfl)) (ma_val me_int ma_nil)) (alS (alV al0))) mp_nil)) rfl rfl (by simp) (by decide) (by decide))) mv_nil))))))))
theorem ok__law_path (T : Txt K mg) : Has P w K mg base (L2.CX P w) 25 "_law_path" ["_law_value"] [] (spM K 1 (m__law_path w)) := by
  refine has_m (k := 24) T.d__law_path sc__law_path (fun fd F => ⟨[], .nil, F.bindsN fun _ _ _ _ _ _ us hl => match us, hl with | [_], _ => rfl⟩) (fun cv A outer s H E F0 H0 pr np hg hr => ?_)
  exact (ms_cons (ms_try rfl rfl rfl sc__law_path.nd (takes_of rfl rfl rfl rfl) (fun W pn xe tk po => (ms_one (ms_expr (me_cmeth (c := "Document") (ok_Document_of T) rfl T.cr_Document T.cm_Document_of (by rfl) T.c_Document (fun _ => .nil) rfl (fun σ => passAt tk σ) hg (hr.mono (by first | decide | omega)) (ma_sl (i := 0) rfl (by first | exact .inl rfl | exact .inr (.inl rfl) | exact .inr (.inr rfl)) ma_nil) (alS al0)))))
    (ClsM.cons (.ref (He.ga K "ShortestBytesError")) ⟨xtab_ShortestBytesError, xerrs, 1, fun xc xf xd => (sSeq (sIf (orT (notT (tru (isxE xc xtab_BadValue))) (tru (isxE xc xtab_BadNumber))) (sRet (cst (.str "error"))) sNil)
    (sRet (xfE xf xd "path")))⟩ rfl rfl ⟨rfl, by decide, .inl T.c_ShortestBytesError⟩ T.x_ShortestBytesError (np 1 (by decide)) (by exact fun a oe dd xc xf xd F1 pn xh => (ms_cons (ms_if (PW.pt (mw_or (mt_not (mt_truth rfl (me_isx rfl xh T.errs T.ix_BadValue (by rfl) T.m_isinstance rfl (by first | exact .inl rfl | exact .inr (.inl rfl) | exact .inr (.inr rfl)) (pe_glob (v := .ref (He.ga K "BadValue")) (by rfl) T.c_BadValue rfl) (.own _)))) (mw_or1 (mt_truth rfl (me_isx rfl xh T.errs T.ix_BadNumber (by rfl) T.m_isinstance rfl (by first | exact .inl rfl | exact .inr (.inl rfl) | exact .inr (.inr rfl)) (pe_glob (v := .ref (He.ga K "BadNumber")) (by rfl) T.c_BadNumber rfl) (.own _))))))
    (ms_one (ms_ret me_str))
    ms_nil)
    (ms_one (ms_ret (me_xf rfl xh T.errs rfl (by first | exact .inl rfl | exact .inr (.inl rfl) | exact .inr (.inr rfl)))))))
    ClsM.nil))
    (ms_one (ms_ret me_non)))
theorem ok__law_tag_path (T : Txt K mg) : Has P w K mg base (L2.CX P w) 26 "_law_tag_path" ["_law_value"] [] (spM K 1 (m__law_tag_path w)) := by
  refine has_m (k := 25) T.d__law_tag_path sc__law_tag_path (fun fd F => ⟨[], .nil, F.bindsN fun _ _ _ _ _ _ us hl => match us, hl with | [_], _ => rfl⟩) (fun cv A outer s H E F0 H0 pr np hg hr => ?_)
  exact (ms_cons (ms_try rfl rfl rfl sc__law_tag_path.nd (takes_of rfl rfl rfl rfl) (fun W pn xe tk po => (ms_one (ms_expr (me_make (c := "Tag") (okd_Tag___init__ T) rfl T.k_Tag T.c_Tag (fun _ => (.cons .non .nil)) rfl (fun σ => passAt tk σ) hg (hr.mono (by first | decide | omega)) (by rfl) (ma_val me_int (ma_sl (i := 0) rfl (by first | exact .inl rfl | exact .inr (.inl rfl) | exact .inr (.inr rfl)) ma_nil)) (alV (alS al0))))))
    (ClsM.cons (.ref (He.ga K "BadValue")) ⟨xtab_BadValue, xerrs, 1, fun xc xf xd => (sRet (xfE xf xd "path"))⟩ rfl rfl ⟨rfl, by decide, .inl T.c_BadValue⟩ T.x_BadValue (np 1 (by decide)) (by exact fun a oe dd xc xf xd F1 pn xh => (ms_one (ms_ret (me_xf rfl xh T.errs rfl (by first | exact .inl rfl | exact .inr (.inl rfl) | exact .inr (.inr rfl))))))
    ClsM.nil))
    (ms_one (ms_ret me_non)))
theorem ok_law (T : Txt K mg) : Has P w K mg base (L2.CX P w) 27 "law" ["_law_script"] [] (spM K 1 (m_law w)) := by
  refine has_m (k := 26) T.d_law sc_law (fun fd F => ⟨[], .nil, F.bindsN fun _ _ _ _ _ _ us hl => match us, hl with | [_], _ => rfl⟩) (fun cv A outer s H E F0 H0 pr np hg hr => ?_)
  exact (ms_cons (ms_for (passes_of rfl) rfl (mi_range1 (by rfl) T.m_range (mv_cons (me_callB (call_maxD rfl) (by rfl) T.m_max (by decide +kernel) (mv_cons me_int (mv_cons (me_callB (call_lenD' rfl) (by rfl) T.m_len PySem.boot_len (mv_cons (me_slice rfl (me_var (i := 0) rfl (by first | exact .inl rfl | exact .inr (.inl rfl) | exact .inr (.inr rfl))) mo_none (mo_some me_int)) mv_nil)) mv_nil))) mv_nil)) (mg_name (i := 1) (np 1 (by decide)) sc_law.nd rfl (by first | exact .inl rfl | exact .inr rfl))
    (ms_cons (ms_setL (i := 2) (np 2 (by decide)) sc_law.nd rfl (by first | exact .inl rfl | exact .inr rfl) (ml_call (ok__law_bag T) rfl (fun _ => .nil) rfl (fun σ => passAt (takes_of rfl rfl rfl rfl) σ) hg (hr.mono (by first | decide | omega)) (by rfl) (ma_sl (i := 0) rfl (by first | exact .inl rfl | exact .inr (.inl rfl) | exact .inr (.inr rfl)) (ma_sl (i := 1) rfl (by first | exact .inl rfl | exact .inr (.inl rfl) | exact .inr (.inr rfl)) ma_nil)) (alS (alS al0))))
    (ms_cons (ms_par3 (i := 3) (j := 4) (k := 5) (np 3 (by decide)) (np 4 (by decide)) (np 5 (by decide)) rfl sc_law.nd rfl rfl rfl (by decide) (by decide) (by decide) rfl rfl rfl (mv_cons (me_call (ok__law_bad T) rfl (fun _ => .nil) rfl (fun σ => passAt (takes_of rfl rfl rfl rfl) σ) hg (hr.mono (by first | decide | omega)) (by rfl) (ma_sl (i := 2) rfl (by first | exact .inl rfl | exact .inr (.inl rfl) | exact .inr (.inr rfl)) ma_nil) (alS al0)) (mv_cons (me_call (ok__law_integer T) rfl (fun _ => .nil) rfl (fun σ => passAt (takes_of rfl rfl rfl rfl) σ) hg (hr.mono (by first | decide | omega)) (by rfl) (ma_sl (i := 2) rfl (by first | exact .inl rfl | exact .inr (.inl rfl) | exact .inr (.inr rfl)) ma_nil) (alS al0)) (mv_cons (me_tup mv_nil) mv_nil))))
    (ms_cons (ms_for (passes_of rfl) rfl (mi_range1 (by rfl) T.m_range (mv_cons (me_op (op_addD rfl) me_int (me_call (ok__law_take T) rfl (fun _ => .nil) rfl (fun σ => passAt (takes_of rfl rfl rfl rfl) σ) hg (hr.mono (by first | decide | omega)) (by rfl) (ma_sl (i := 2) rfl (by first | exact .inl rfl | exact .inr (.inl rfl) | exact .inr (.inr rfl)) (ma_val me_int ma_nil)) (alS (alV al0)))) mv_nil)) (mg_name (i := 6) (np 6 (by decide)) sc_law.nd rfl (by first | exact .inl rfl | exact .inr rfl))
    (ms_cons (ms_asg (me_call (ok__law_round T) rfl (fun _ => .nil) rfl (fun σ => passAt (takes_of rfl rfl rfl rfl) σ) hg (hr.mono (by first | decide | omega)) (by rfl) (ma_sl (i := 2) rfl (by first | exact .inl rfl | exact .inr (.inl rfl) | exact .inr (.inr rfl)) (ma_sl (i := 3) rfl (by first | exact .inl rfl | exact .inr (.inl rfl) | exact .inr (.inr rfl)) (ma_val (me_call (ok__law_of T) rfl (fun _ => .nil) rfl (fun σ => passAt (takes_of rfl rfl rfl rfl) σ) hg (hr.mono (by first | decide | omega)) (by rfl) (ma_sl (i := 2) rfl (by first | exact .inl rfl | exact .inr (.inl rfl) | exact .inr (.inr rfl)) (ma_val (me_frz (ml_lst (mv_cons (me_tup (mv_cons me_int mv_nil)) (mv_cons (me_op (op_powD) me_int me_int) mv_nil)))) ma_nil)) (alS (alV al0))) ma_nil))) (alS (alS (alV al0)))) (mg_tup rfl rfl (mgs_cons (mg_name (i := 7) (np 7 (by decide)) sc_law.nd rfl (by first | exact .inl rfl | exact .inr rfl)) (mgs_cons (mg_name (i := 3) (np 3 (by decide)) sc_law.nd rfl (by first | exact .inl rfl | exact .inr rfl)) mgs_nil))))
    (ms_one (ms_set (i := 5) (np 5 (by decide)) sc_law.nd rfl (by first | exact .inl rfl | exact .inr rfl) (me_op (op_addD rfl) (me_tup (mv_cons (me_var (i := 7) rfl (by first | exact .inl rfl | exact .inr (.inl rfl) | exact .inr (.inr rfl))) mv_nil)) (me_var (i := 5) rfl (by first | exact .inl rfl | exact .inr (.inl rfl) | exact .inr (.inr rfl))))))))
    (ms_cons (ms_if (PW.pt (mw_or (mt_not (mt_truth rfl (me_isi rfl T.i_tuple (by decide) (by rfl) T.m_isinstance (me_call (ok__law_path T) rfl (fun _ => .nil) rfl (fun σ => passAt (takes_of rfl rfl rfl rfl) σ) hg (hr.mono (by first | decide | omega)) (by rfl) (ma_sl (i := 3) rfl (by first | exact .inl rfl | exact .inr (.inl rfl) | exact .inr (.inr rfl)) ma_nil) (alS al0)) (pe_bltn (v := .ty "tuple") (by rfl) T.m_tuple (by decide +kernel) rfl) (.ty "tuple")))) (mw_or1 (mt_cmp (op_neDD rfl hr.units) (me_callB (call_reprD rfl hg (rep_of hr)) (by rfl) T.m_repr (by decide +kernel) (mv_cons (me_call (ok__law_path T) rfl (fun _ => .nil) rfl (fun σ => passAt (takes_of rfl rfl rfl rfl) σ) hg (hr.mono (by first | decide | omega)) (by rfl) (ma_sl (i := 3) rfl (by first | exact .inl rfl | exact .inr (.inl rfl) | exact .inr (.inr rfl)) ma_nil) (alS al0)) mv_nil)) (me_callB (call_reprD rfl hg (rep_of hr)) (by rfl) T.m_repr (by decide +kernel) (mv_cons (me_var (i := 5) rfl (by first | exact .inl rfl | exact .inr (.inl rfl) | exact .inr (.inr rfl))) mv_nil)) (nomark _)))))
    (ms_one (ms_ret me_bl))
    ms_nil)
    (ms_cons (ms_if (PW.pt (mw_or (mt_cmp (op_neDD rfl hr.units) (me_callB (call_reprD rfl hg (rep_of hr)) (by rfl) T.m_repr (by decide +kernel) (mv_cons (me_call (ok__law_tag_path T) rfl (fun _ => .nil) rfl (fun σ => passAt (takes_of rfl rfl rfl rfl) σ) hg (hr.mono (by first | decide | omega)) (by rfl) (ma_sl (i := 3) rfl (by first | exact .inl rfl | exact .inr (.inl rfl) | exact .inr (.inr rfl)) ma_nil) (alS al0)) mv_nil)) (me_callB (call_reprD rfl hg (rep_of hr)) (by rfl) T.m_repr (by decide +kernel) (mv_cons (me_var (i := 5) rfl (by first | exact .inl rfl | exact .inr (.inl rfl) | exact .inr (.inr rfl))) mv_nil)) (nomark _)) (mw_or1 (mt_cmp (op_isNotDD) (me_call (ok_is_value T) rfl (fun _ => .nil) rfl (fun σ => passAt (takes_of rfl rfl rfl rfl) σ) hg (hr.mono (by first | decide | omega)) (by rfl) (ma_sl (i := 3) rfl (by first | exact .inl rfl | exact .inr (.inl rfl) | exact .inr (.inr rfl)) ma_nil) (alS al0)) me_bl (nomark _)))))
    (ms_one (ms_ret me_bl))
    ms_nil)
    (ms_cons (ms_if (PW.pt (mw_or (mt_cmp (op_isNotDD) (me_call (ok_is_value T) rfl (fun _ => .nil) rfl (fun σ => passAt (takes_of rfl rfl rfl rfl) σ) hg (hr.mono (by first | decide | omega)) (by rfl) (ma_val (me_frz (ml_lst (mv_cons (me_var (i := 4) rfl (by first | exact .inl rfl | exact .inr (.inl rfl) | exact .inr (.inr rfl))) mv_nil))) ma_nil) (alV al0)) me_bl (nomark _)) (mw_or1 (mt_cmp (op_neDD rfl hr.units) (me_callB (call_reprD rfl hg (rep_of hr)) (by rfl) T.m_repr (by decide +kernel) (mv_cons (me_call (ok__law_path T) rfl (fun _ => .nil) rfl (fun σ => passAt (takes_of rfl rfl rfl rfl) σ) hg (hr.mono (by first | decide | omega)) (by rfl) (ma_val (me_frz (ml_lst (mv_cons (me_var (i := 3) rfl (by first | exact .inl rfl | exact .inr (.inl rfl) | exact .inr (.inr rfl))) (mv_cons (me_var (i := 4) rfl (by first | exact .inl rfl | exact .inr (.inl rfl) | exact .inr (.inr rfl))) mv_nil)))) ma_nil) (alV al0)) mv_nil)) (me_callB (call_reprD rfl hg (rep_of hr)) (by rfl) T.m_repr (by decide +kernel) (mv_cons (me_op (op_addD rfl) (me_tup (mv_cons me_int mv_nil)) (me_var (i := 5) rfl (by first | exact .inl rfl | exact .inr (.inl rfl) | exact .inr (.inr rfl)))) mv_nil)) (nomark _)))))
    (ms_one (ms_ret me_bl))
    ms_nil)
    (ms_cons (ms_if (PW.pt (mw_or (mt_cmp (op_isNotDD) (me_call (ok__law_path T) rfl (fun _ => .nil) rfl (fun σ => passAt (takes_of rfl rfl rfl rfl) σ) hg (hr.mono (by first | decide | omega)) (by rfl) (ma_val (me_frzN (mn_disp rfl rfl hr.units (mp_cons (me_var (i := 4) rfl (by first | exact .inl rfl | exact .inr (.inl rfl) | exact .inr (.inr rfl))) (me_var (i := 4) rfl (by first | exact .inl rfl | exact .inr (.inl rfl) | exact .inr (.inr rfl))) mp_nil) rfl rfl (by simp) (by decide) (by decide))) ma_nil) (alV al0)) me_non (nomark _)) (mw_or1 (mt_cmp (op_isNotDD) (me_call (ok__law_path T) rfl (fun _ => .nil) rfl (fun σ => passAt (takes_of rfl rfl rfl rfl) σ) hg (hr.mono (by first | decide | omega)) (by rfl) (ma_val me_bl ma_nil) (alV al0)) me_non (nomark _)))))
    (ms_one (ms_ret me_bl))
    ms_nil)
    (ms_cons (ms_set (i := 8) (np 8 (by decide)) sc_law.nd rfl (by first | exact .inl rfl | exact .inr rfl) (me_cmeth (c := "Document") (ok_Document_of T) rfl T.cr_Document T.cm_Document_of (by rfl) T.c_Document (fun _ => .nil) rfl (fun σ => passAt (takes_of rfl rfl rfl rfl) σ) hg (hr.mono (by first | decide | omega)) (ma_sl (i := 4) rfl (by first | exact .inl rfl | exact .inr (.inl rfl) | exact .inr (.inr rfl)) ma_nil) (alS al0)))
    (ms_one (ms_if (mt_cmp (op_neDD rfl hr.units) (me_callB (call_reprD rfl hg (rep_of hr)) (by rfl) T.m_repr (by decide +kernel) (mv_cons (me_frz (ml_lst (mv_cons (me_call (ok__law_path T) rfl (fun _ => .nil) rfl (fun σ => passAt (takes_of rfl rfl rfl rfl) σ) hg (hr.mono (by first | decide | omega)) (by rfl) (ma_sl (i := 8) rfl (by first | exact .inl rfl | exact .inr (.inl rfl) | exact .inr (.inr rfl)) ma_nil) (alS al0)) (mv_cons (me_call (ok__law_tag_path T) rfl (fun _ => .nil) rfl (fun σ => passAt (takes_of rfl rfl rfl rfl) σ) hg (hr.mono (by first | decide | omega)) (by rfl) (ma_sl (i := 8) rfl (by first | exact .inl rfl | exact .inr (.inl rfl) | exact .inr (.inr rfl)) ma_nil) (alS al0)) (mv_cons (me_call (ok_is_value T) rfl (fun _ => .nil) rfl (fun σ => passAt (takes_of rfl rfl rfl rfl) σ) hg (hr.mono (by first | decide | omega)) (by rfl) (ma_sl (i := 8) rfl (by first | exact .inl rfl | exact .inr (.inl rfl) | exact .inr (.inr rfl)) ma_nil) (alS al0)) mv_nil))))) mv_nil)) me_str (nomark _))
    (ms_one (ms_ret me_bl))
    ms_nil)))))))))))
    (ms_one (ms_ret me_bl)))
end
abbrev hhk : PySem.W.Hook := hookM hpick hfa hfn
def hob (s : PySem.W.SharedT) : He.AlD := lookM hpick hfa hfn (HandSHeadRun.getT s)
theorem hob_eq (s : PySem.W.SharedT) : hob s = hhk.obs s.abs := lookM_eq (HandSHeadRun.getT_eq s)

section
open PySem.W HandSHeadRun
theorem hrunF (w : World) : RunEq hR hq hhk hob 20000 hloose (hw w false) := runEqZ_of (hlF w) (hsF w) (fun os => lookM_app (hc0F w os) (hc1F w os))
theorem hrunT (w : World) : RunEq hR hq hhk hob 20000 hloose (hw w true) := runEqZ_of (hlT w) (hsT w) (fun os => lookM_app (hc0T w os) (hc1T w os))
theorem hrun (w : World) : RunEq hR hq hhk hob 20000 hloose w := PySem.W.byRow2 "special-get-raises" (P := fun w => RunEq hR hq hhk hob 20000 hloose w) hrunF hrunT w
end
theorem txt_of {K : PySem.W.Frag} {h : Heap} {mg : Str → Option Value} (X : K.In h) (G : h.Ns mainGlobals mg) (c : SaysM hfa hfn K) : Txt K mg where
  d__law_bag := ⟨gaB_ok X G (c.fact 0 (f := hf_0) rfl), c.def_ 0 (d := hd_0) rfl⟩
  d__law_take := ⟨gaB_ok X G (c.fact 1 (f := hf_1) rfl), c.def_ 1 (d := hd_1) rfl⟩
  d__law_of := ⟨gaB_ok X G (c.fact 2 (f := hf_2) rfl), c.def_ 2 (d := hd_2) rfl⟩
  d__law_number := ⟨gaB_ok X G (c.fact 3 (f := hf_3) rfl), c.def_ 3 (d := hd_3) rfl⟩
  d__law_octets := ⟨gaB_ok X G (c.fact 4 (f := hf_4) rfl), c.def_ 4 (d := hd_4) rfl⟩
  d__law_text := ⟨gaB_ok X G (c.fact 5 (f := hf_5) rfl), c.def_ 5 (d := hd_5) rfl⟩
  d__law_integer := ⟨gaB_ok X G (c.fact 6 (f := hf_6) rfl), c.def_ 6 (d := hd_6) rfl⟩
  d_is_integer := ⟨gaB_ok X G (c.fact 7 (f := hf_7) rfl), c.def_ 7 (d := hd_7) rfl⟩
  d_is_number := ⟨gaB_ok X G (c.fact 8 (f := hf_8) rfl), c.def_ 8 (d := hd_8) rfl⟩
  d_is_byte := ⟨gaB_ok X G (c.fact 9 (f := hf_9) rfl), c.def_ 9 (d := hd_9) rfl⟩
  d_base_bytes := ⟨gaB_ok X G (c.fact 10 (f := hf_10) rfl), c.def_ 10 (d := hd_10) rfl⟩
  d_plain_code := ⟨gaB_ok X G (c.fact 11 (f := hf_11) rfl), c.def_ 11 (d := hd_11) rfl⟩
  d_is_text := ⟨gaB_ok X G (c.fact 12 (f := hf_12) rfl), c.def_ 12 (d := hd_12) rfl⟩
  d_is_octets := ⟨gaB_ok X G (c.fact 13 (f := hf_13) rfl), c.def_ 13 (d := hd_13) rfl⟩
  d_is_key := ⟨gaB_ok X G (c.fact 14 (f := hf_14) rfl), c.def_ 14 (d := hd_14) rfl⟩
  d_is_plain := ⟨gaB_ok X G (c.fact 15 (f := hf_15) rfl), c.def_ 15 (d := hd_15) rfl⟩
  d_integer_row := ⟨gaB_ok X G (c.fact 16 (f := hf_16) rfl), c.def_ 16 (d := hd_16) rfl⟩
  d_scalar_row := ⟨gaB_ok X G (c.fact 17 (f := hf_17) rfl), c.def_ 17 (d := hd_17) rfl⟩
  d_key_row := ⟨gaB_ok X G (c.fact 18 (f := hf_18) rfl), c.def_ 18 (d := hd_18) rfl⟩
  d_sorted_keys := ⟨gaB_ok X G (c.fact 19 (f := hf_19) rfl), c.def_ 19 (d := hd_19) rfl⟩
  d_steps_of := ⟨gaB_ok X G (c.fact 20 (f := hf_20) rfl), c.def_ 20 (d := hd_20) rfl⟩
  d_first_bad := ⟨gaB_ok X G (c.fact 21 (f := hf_21) rfl), c.def_ 21 (d := hd_21) rfl⟩
  d_is_value := ⟨gaB_ok X G (c.fact 22 (f := hf_22) rfl), c.def_ 22 (d := hd_22) rfl⟩
  d_encoded := ⟨gaB_ok X G (c.fact 23 (f := hf_23) rfl), c.def_ 23 (d := hd_23) rfl⟩
  d_checked_row := ⟨gaB_ok X G (c.fact 24 (f := hf_24) rfl), c.def_ 24 (d := hd_24) rfl⟩
  d_Tag___init__ := c.def_ 25 (d := hd_25) rfl
  k_Tag := mkB_ok (c.fact 25 (f := hf_25) rfl)
  d_Document___init__ := c.def_ 26 (d := hd_26) rfl
  k_Document := mkB_ok (c.fact 26 (f := hf_26) rfl)
  d_Document_of := c.def_ 27 (d := hd_27) rfl
  cm_Document_of := cmetB_ok (c.fact 27 (f := hf_27) rfl)
  d__law_bad := ⟨gaB_ok X G (c.fact 28 (f := hf_28) rfl), c.def_ 28 (d := hd_28) rfl⟩
  d__law_pair := ⟨gaB_ok X G (c.fact 29 (f := hf_29) rfl), c.def_ 29 (d := hd_29) rfl⟩
  d__law_round := ⟨gaB_ok X G (c.fact 30 (f := hf_30) rfl), c.def_ 30 (d := hd_30) rfl⟩
  d__law_path := ⟨gaB_ok X G (c.fact 31 (f := hf_31) rfl), c.def_ 31 (d := hd_31) rfl⟩
  d__law_tag_path := ⟨gaB_ok X G (c.fact 32 (f := hf_32) rfl), c.def_ 32 (d := hd_32) rfl⟩
  d_law := ⟨gaB_ok X G (c.fact 33 (f := hf_33) rfl), c.def_ 33 (d := hd_33) rfl⟩
  c_BadNumber := gaB_ok X G (c.fact 34 (f := hf_34) rfl)
  c_BadValue := gaB_ok X G (c.fact 35 (f := hf_35) rfl)
  c_Document := gaB_ok X G (c.fact 36 (f := hf_36) rfl)
  c_ShortestBytesError := gaB_ok X G (c.fact 37 (f := hf_37) rfl)
  c_Tag := gaB_ok X G (c.fact 38 (f := hf_38) rfl)
  errs := errsFB_ok (c.fact 39 (f := hf_39) rfl)
  x_BadNumber := exFB_ok (c.fact 40 (f := hf_40) rfl)
  ix_BadNumber := isxFB_ok (c.fact 41 (f := hf_41) rfl)
  x_BadValue := exFB_ok (c.fact 42 (f := hf_42) rfl)
  ix_BadValue := isxFB_ok (c.fact 43 (f := hf_43) rfl)
  x_ShortestBytesError := exFB_ok (c.fact 44 (f := hf_44) rfl)
  ix_ShortestBytesError := isxFB_ok (c.fact 45 (f := hf_45) rfl)
  cr_Document := creadB_ok (c.fact 46 (f := hf_46) rfl)
  f_content_row := fldB_ok (c.fact 47 (f := hf_47) rfl)
  f_data := fldB_ok (c.fact 48 (f := hf_48) rfl)
  f_kind := fldB_ok (c.fact 49 (f := hf_49) rfl)
  f_number := fldB_ok (c.fact 50 (f := hf_50) rfl)
  m_abs := He.free_ok X G (c.fact 51 (f := hf_51) rfl)
  m_all := He.free_ok X G (c.fact 52 (f := hf_52) rfl)
  m_bool := He.free_ok X G (c.fact 53 (f := hf_53) rfl)
  m_dict := He.free_ok X G (c.fact 54 (f := hf_54) rfl)
  m_enumerate := He.free_ok X G (c.fact 55 (f := hf_55) rfl)
  m_int := He.free_ok X G (c.fact 56 (f := hf_56) rfl)
  m_isinstance := He.free_ok X G (c.fact 57 (f := hf_57) rfl)
  m_len := He.free_ok X G (c.fact 58 (f := hf_58) rfl)
  m_list := He.free_ok X G (c.fact 59 (f := hf_59) rfl)
  m_max := He.free_ok X G (c.fact 60 (f := hf_60) rfl)
  m_ord := He.free_ok X G (c.fact 61 (f := hf_61) rfl)
  m_range := He.free_ok X G (c.fact 62 (f := hf_62) rfl)
  m_repr := He.free_ok X G (c.fact 63 (f := hf_63) rfl)
  m_sorted := He.free_ok X G (c.fact 64 (f := hf_64) rfl)
  m_str := He.free_ok X G (c.fact 65 (f := hf_65) rfl)
  m_tuple := He.free_ok X G (c.fact 66 (f := hf_66) rfl)
  e_base := baseAt_ok X G (c.fact 67 (f := hf_67) rfl)
  e_BadValue := errAt_ok X G (c.fact 68 (f := hf_68) rfl) (c.def_ 34 (d := hd_34) rfl)
  e_BadNumber := errAt_ok X G (c.fact 69 (f := hf_69) rfl) (c.def_ 35 (d := hd_35) rfl)
  i_int := isiB_ok (c.fact 70 (f := hf_70) rfl)
  i_bool := isiB_ok (c.fact 71 (f := hf_71) rfl)
  i_str := isiB_ok (c.fact 72 (f := hf_72) rfl)
  i_tuple := isiB_ok (c.fact 73 (f := hf_73) rfl)
  i_list := isiB_ok (c.fact 74 (f := hf_74) rfl)
  i_dict := isiB_ok (c.fact 75 (f := hf_75) rfl)
  i_Tag := isiB_ok (c.fact 76 (f := hf_76) rfl)
  i_Document := isiB_ok (c.fact 77 (f := hf_77) rfl)
  g_MOST := He.int_ok X G (c.fact 78 (f := hf_78) rfl)
  g_LIMIT := He.int_ok X G (c.fact 79 (f := hf_79) rfl)
  g_DEEPEST := He.int_ok X G (c.fact 80 (f := hf_80) rfl)
  g_CHARS := strAt_ok X G (c.fact 81 (f := hf_81) rfl)
  g_KINDS := gaB_and X G (c.fact 82 (f := hf_82) rfl)
end Sb
open PySem PySem.W PySem.Calls PyProof.Rows
set_option maxRecDepth 100000 in
set_option maxHeartbeats 8000000 in
theorem PySem.Challenge.cw_shortestbytes_k09_bad_values_holds : PySem.Challenge.rw_shortestbytes_k09_bad_values.Holds := by
  w_on; o_law
  refine HandSHeadRun.head_any (r := OpenLaw.row PySem.Challenge.rw_shortestbytes_k09_bad_values) (q := view (OpenLaw.row PySem.Challenge.rw_shortestbytes_k09_bad_values).prog [135]) (H := Sb.hhk) (ob := Sb.hob) (M := 20000) (loose := Sb.hloose) (d := HandSHeadRun.topDef (OpenLaw.row PySem.Challenge.rw_shortestbytes_k09_bad_values).prog 135) (kwd := []) Sb.hob_eq
    (by kernel_rfl) (fun s => by kernel_rfl) Sb.hrun (by kernel_rfl) (by kernel_rfl) (by kernel_rfl) (by rfl) (by first | assumption | decide +kernel) (by decide +kernel) ⟨rfl, rfl, rfl, rfl, rfl, by decide +kernel⟩ ?hw ?hc
  case hw => w_witness2
  case hc =>
    refine Sb.walk_ofG (l := PySem.Challenge.rw_shortestbytes_k09_bad_values) (n := 63) (k := 27) (x := "_law_script") (nm := "law") (CX := fun w => L2.CX (OpenLaw.row PySem.Challenge.rw_shortestbytes_k09_bad_values).prog w) rfl (by decide) (by kernel_rfl) (by kernel_rfl) ⟨rfl, by decide, by decide⟩ ?F (fun _ _ _ _ _ z => Sb.no_cx z)
    intro w mg h Y G
    obtain ⟨K, KX, c⟩ := Y
    exact ⟨K, Sb.spM K 1 (Sb.m_law w), KX, fun H a ns hl bits _ hS => Sb.wantM hS (Sb.law09 (w := w)), fun base _ _ => Sb.ok_law (Sb.txt_of KX G c)⟩
#print axioms PySem.Challenge.cw_shortestbytes_k09_bad_values_holds
